import PyProof.Rows.All
import Wide.All
import OpenK.AllK
import Wide.FinOn
import HandS.ForMost
import HandS.Wide
import HandS.Zip
import HandS.TupAny
import HandS.Conv
import HandS.WordsExc
import KE.GoesMore
import HandS.Style
import HandS.Deep
import KE.DatumOrd
import HandS.IsInst
import HandS.Dict
import HandS.SetFor
import HandS.Exc
import HandS.ExcInit
import HandS.TryOnly
import HandS.CallSlots
import HandS.ExcIs
import HandS.ExcField
import KE.KIsAll
import KE.KTryMore
import PyProof.ReprBulk
import PyProof.Rows.ReprOcc
import PySem.Challenge.RW_everturns_k14_rings_looked_at
set_option Elab.async false
set_option linter.all false
set_option maxRecDepth 100000
set_option maxHeartbeats 4000000
namespace L3
open PySem PySem.Spec PyProof.Rows L2
inductive D where
  | non | bl (b : Bool) | int (i : Int) | str (x : Str)
  | tup (xs : List D)
  | rol (xs : List D)
  | ref (a : Addr)
  | ty (n : String)
/-- a list that nobody writes: the script -/
def RoL (K : PySem.W.Frag) (H : Hp) (a : Addr) (xs : List V) : Prop :=
  (∃ o, H a = some (.frz o (.lst xs))) ∨
    ∃ (its : Array Value) (n : Nat), K.lookup a = some { cls := .type "list", data := .seq its n } ∧ its.size ≤ sizeLine ∧ Vals xs its.toList
theorem RoL.sq {K : PySem.W.Frag} {H : Hp} {a : Addr} {xs : List V} (h : RoL K H a xs) : SqL K H a xs := by
  rcases h with h | ⟨its, n, h, z, v⟩
  · exact .inl (.inr h)
  · exact .inr ⟨_, its, n, h, rfl, rfl, rfl, z, v⟩
mutual
inductive RD (K : PySem.W.Frag) (H : Hp) : V → D → Prop
  | non : RD K H .non .non
  | bl (b : Bool) : RD K H (.bl b) (.bl b)
  | int (i : Int) : RD K H (.int i) (.int i)
  | str (x : Str) : RD K H (.str x) (.str x)
  | ref (a : Addr) : RD K H (.ref a) (.ref a)
  | ty (n : String) : RD K H (.ty n) (.ty n)
  | tup {a : Addr} {vs : List V} {ds : List D} : SqT K H a vs → RDs K H vs ds → RD K H (.ref a) (.tup ds)
  | rol {a : Addr} {vs : List V} {ds : List D} : RoL K H a vs → RDs K H vs ds → RD K H (.ref a) (.rol ds)
inductive RDs (K : PySem.W.Frag) (H : Hp) : List V → List D → Prop
  | nil : RDs K H [] []
  | cons {v : V} {vs : List V} {d : D} {ds : List D} : RD K H v d → RDs K H vs ds → RDs K H (v :: vs) (d :: ds)
end
/-- what stands at a mutable address -/
inductive MO where
  | lst (ds : List D)
  | dK (kvs : List (Key × D))
  | dT (kvs : List (List Key × D))
  /-- a dict that is walked: read, not written -/
  | dL (o : Obj) (ks : List (Key × V)) (kvs : List (Key × D))
  | ins (n : Str) (fs : List (Str × D))
abbrev Mp := Addr → Option MO
def mset (M : Mp) (a : Addr) (o : MO) : Mp := fun b => if b = a then some o else M b
def M0 : Mp := fun _ => none
theorem mset_same {M : Mp} {a : Addr} {o : MO} : mset M a o a = some o := if_pos rfl
theorem mset_ne {M : Mp} {a b : Addr} {o : MO} (h : b ≠ a) : mset M a o b = M b := if_neg h
theorem ne_m {M : Mp} {a p : Addr} {o : MO} (h : M a = some o) (hp : M p = none) : a ≠ p := by
  intro e; subst e; rw [h] at hp; cases hp
def RKv {κ : Type} (K : PySem.W.Frag) (H : Hp) : List (κ × V) → List (κ × D) → Prop
  | [], [] => True
  | (k, v) :: r, (j, d) :: q => k = j ∧ RD K H v d ∧ RKv K H r q
  | _, _ => False
/-- the program's name n is that value -/
def Cl (K : PySem.W.Frag) (n : Str) (c : Value) : Prop := PySem.W.nsIn K mainGlobals n = some (some c)
def RO (K : PySem.W.Frag) (H : Hp) (a : Addr) : MO → Prop
  | .lst ds => ∃ vs, H a = some (.lst vs) ∧ RDs K H vs ds
  | .dK kvs => ∃ ks, H a = some (.dK ks) ∧ RKv K H ks kvs
  | .dT kvs => ∃ ks, H a = some (.dT ks) ∧ RKv K H ks kvs
  | .dL o ks kvs => H a = some (.frz o (.dK ks)) ∧ RKv K H ks kvs
  | .ins n fs => ∃ C dx gs, Cl K n (.ref C) ∧ H a = some (.ins C dx gs) ∧ RKv K H gs fs
def RM0 (K : PySem.W.Frag) (H : Hp) (M : Mp) : Prop := ∀ a o, M a = some o → RO K H a o
/-- M to M', H to H': what is not in M stays; what is new in M' was free -/
structure Ext (M M' : Mp) (H H' : Hp) : Prop where
  fr : ∀ a o, H a = some o → M a = none → H' a = some o
  dom : ∀ a, M' a ≠ none → M a ≠ none ∨ H a = none
theorem Ext.refl {M : Mp} {H : Hp} : Ext M M H H := ⟨fun _ _ h _ => h, fun _ h => .inl h⟩
theorem Ext.trans {M M1 M2 : Mp} {H H1 H2 : Hp} (x : Ext M M1 H H1) (y : Ext M1 M2 H1 H2) : Ext M M2 H H2 := by
  refine ⟨fun a o h hm => ?_, fun a h => ?_⟩
  · have h1 := x.fr a o h hm
    refine y.fr a o h1 ?_
    cases q : M1 a with
    | none => rfl
    | some u =>
      rcases x.dom a (by rw [q]; exact fun z => nomatch z) with z | z
      · exact absurd hm z
      · rw [h] at z; cases z
  · rcases y.dom a h with z | z
    · exact x.dom a z
    · cases q : H a with
      | none => exact .inr rfl
      | some o =>
        left
        intro hm
        have := x.fr a o q hm
        rw [z] at this; cases this
/-- some of M forgotten -/
theorem Ext.less {M M1 M2 : Mp} {H H1 : Hp} (x : Ext M M1 H H1) (l : ∀ a o, M2 a = some o → M1 a = some o) : Ext M M2 H H1 :=
  ⟨x.fr, fun a h => x.dom a (by
    cases q : M2 a with
    | none => exact absurd q h
    | some o => rw [l a o q]; exact fun z => nomatch z)⟩
theorem RM0.less {K : PySem.W.Frag} {H : Hp} {M1 M2 : Mp} (m : RM0 K H M1) (l : ∀ a o, M2 a = some o → M1 a = some o) : RM0 K H M2 := fun a o h => m a o (l a o h)
section
variable {K : PySem.W.Frag} {M M' : Mp} {H H' : Hp} {a : Addr}
theorem RM0.noTup {xs : List V} (m : RM0 K H M) (h : H a = some (.tup xs)) : M a = none := by
  cases q : M a with
  | none => rfl
  | some o =>
    have r := m a o q
    cases o with
    | lst ds => obtain ⟨_, e, _⟩ := r; rw [h] at e; cases e
    | dK ds => obtain ⟨_, e, _⟩ := r; rw [h] at e; cases e
    | dT ds => obtain ⟨_, e, _⟩ := r; rw [h] at e; cases e
    | dL o ks ds => obtain ⟨e, _⟩ := r; rw [h] at e; cases e
    | ins C ds => obtain ⟨_, _, _, _, e, _⟩ := r; rw [h] at e; cases e
theorem RM0.noFrz {ob : Obj} {u : HO} (m : RM0 K H M) (h : H a = some (.frz ob u)) (hu : ∀ ks, u ≠ .dK ks) : M a = none := by
  cases q : M a with
  | none => rfl
  | some o =>
    have r := m a o q
    cases o with
    | lst ds => obtain ⟨_, e, _⟩ := r; rw [h] at e; cases e
    | dK ds => obtain ⟨_, e, _⟩ := r; rw [h] at e; cases e
    | dT ds => obtain ⟨_, e, _⟩ := r; rw [h] at e; cases e
    | dL o ks ds => obtain ⟨e, _⟩ := r; rw [h] at e; cases e; exact absurd rfl (hu _)
    | ins C ds => obtain ⟨_, _, _, _, e, _⟩ := r; rw [h] at e; cases e
theorem RM0.free (m : RM0 K H M) (h : H a = none) : M a = none := by
  cases q : M a with
  | none => rfl
  | some o =>
    have r := m a o q
    cases o with
    | lst ds => obtain ⟨_, e, _⟩ := r; rw [h] at e; cases e
    | dK ds => obtain ⟨_, e, _⟩ := r; rw [h] at e; cases e
    | dT ds => obtain ⟨_, e, _⟩ := r; rw [h] at e; cases e
    | dL o ks ds => obtain ⟨e, _⟩ := r; rw [h] at e; cases e
    | ins C ds => obtain ⟨_, _, _, _, e, _⟩ := r; rw [h] at e; cases e
/-- what a value's reading leans on -/
def Still (K : PySem.W.Frag) (H H' : Hp) : Prop := (∀ a xs, SqT K H a xs → SqT K H' a xs) ∧ ∀ a xs, RoL K H a xs → RoL K H' a xs
theorem Still.refl : Still K H H := ⟨fun _ _ h => h, fun _ _ h => h⟩
theorem Still.trans {H1 H2 : Hp} (x : Still K H H1) (y : Still K H1 H2) : Still K H H2 := ⟨fun a xs h => y.1 a xs (x.1 a xs h), fun a xs h => y.2 a xs (x.2 a xs h)⟩
theorem Ext.still0 (x : Ext M M' H H') (m : RM0 K H M) : Still K H H' := by
  refine ⟨fun a xs h => ?_, fun a xs h => ?_⟩
  · rcases h with (h | ⟨o, h⟩) | h
    · exact .inl (.inl (x.fr a _ h (m.noTup h)))
    · exact .inl (.inr ⟨o, x.fr a _ h (m.noFrz h fun _ z => nomatch z)⟩)
    · exact .inr h
  · rcases h with ⟨o, h⟩ | h
    · exact .inl ⟨o, x.fr a _ h (m.noFrz h fun _ z => nomatch z)⟩
    · exact .inr h
mutual
theorem RD.still (s : Still K H H') : ∀ (d : D) (v : V), RD K H v d → RD K H' v d
  | .non, _, h => by cases h; exact .non
  | .bl b, _, h => by cases h; exact .bl b
  | .int i, _, h => by cases h; exact .int i
  | .str x, _, h => by cases h; exact .str x
  | .ref a, _, h => by cases h; exact .ref a
  | .ty n, _, h => by cases h; exact .ty n
  | .tup ds, _, h => by
    cases h with
    | tup h1 h2 => exact .tup (s.1 _ _ h1) (RDs.still s ds _ h2)
  | .rol ds, _, h => by
    cases h with
    | rol h1 h2 => exact .rol (s.2 _ _ h1) (RDs.still s ds _ h2)
theorem RDs.still (s : Still K H H') : ∀ (ds : List D) (vs : List V), RDs K H vs ds → RDs K H' vs ds
  | [], _, h => by cases h; exact .nil
  | d :: ds, _, h => by
    cases h with
    | cons h1 h2 => exact .cons (RD.still s d _ h1) (RDs.still s ds _ h2)
end
theorem RD.go {v : V} {d : D} (r : RD K H v d) (s : Still K H H') : RD K H' v d := RD.still s d v r
theorem RDs.go {vs : List V} {ds : List D} (r : RDs K H vs ds) (s : Still K H H') : RDs K H' vs ds := RDs.still s ds vs r
theorem RKv.go {κ : Type} (s : Still K H H') : ∀ {ks : List (κ × V)} {ds : List (κ × D)}, RKv K H ks ds → RKv K H' ks ds
  | [], [], _ => True.intro
  | (k, v) :: r, (j, d) :: q, h => ⟨h.1, h.2.1.go s, RKv.go s h.2.2⟩
  | [], _ :: _, h => h.elim
  | _ :: _, [], h => h.elim
theorem RO.go {o : MO} (r : RO K H a o) (s : Still K H H') (k : ∀ u, H a = some u → H' a = some u) : RO K H' a o := by
  cases o with
  | lst ds => obtain ⟨vs, e, q⟩ := r; exact ⟨vs, k _ e, q.go s⟩
  | dK ds => obtain ⟨vs, e, q⟩ := r; exact ⟨vs, k _ e, RKv.go s q⟩
  | dT ds => obtain ⟨vs, e, q⟩ := r; exact ⟨vs, k _ e, RKv.go s q⟩
  | dL o ks ds => obtain ⟨e, q⟩ := r; exact ⟨k _ e, RKv.go s q⟩
  | ins n fs => obtain ⟨C, dx, vs, c, e, q⟩ := r; exact ⟨C, dx, vs, c, k _ e, RKv.go s q⟩
/-- all that was tracked is kept: M is as it was -/
theorem RM0.keep (m : RM0 K H M) (k : ∀ b u, H b = some u → H' b = some u) : Ext M M H H' ∧ RM0 K H' M := by
  have x : Ext M M H H' := ⟨fun b u h _ => k b u h, fun _ h => .inl h⟩
  exact ⟨x, fun b o h => (m b o h).go (x.still0 m) (k b)⟩
theorem RM0.upNew {p : Addr} {o : HO} (m : RM0 K H M) (hp : H p = none) : Ext M M H (upd H p o) ∧ RM0 K (upd H p o) M :=
  m.keep fun b u h => by rw [upd_ne (ne_of_none h hp)]; exact h
/-- a new object laid -/
theorem RM0.new {p : Addr} {o : HO} {mo : MO} (m : RM0 K H M) (hp : H p = none) (r : RO K (upd H p o) p mo) : Ext M (mset M p mo) H (upd H p o) ∧ RM0 K (upd H p o) (mset M p mo) := by
  have x0 : Ext M M H (upd H p o) := (m.upNew hp).1
  have x : Ext M (mset M p mo) H (upd H p o) := ⟨x0.fr, fun b h => by
    by_cases e : b = p
    · subst e; exact .inr hp
    · rw [mset_ne e] at h; exact .inl h⟩
  refine ⟨x, fun b u h => ?_⟩
  by_cases e : b = p
  · subst e; rw [mset_same] at h; cases h; exact r
  · rw [mset_ne e] at h
    exact (m.upNew hp).2 b u h
theorem RM0.newL {p : Addr} {vs : List V} {ds : List D} (m : RM0 K H M) (hp : H p = none) (r : RDs K H vs ds) : Ext M (mset M p (.lst ds)) H (upd H p (.lst vs)) ∧ RM0 K (upd H p (.lst vs)) (mset M p (.lst ds)) :=
  m.new hp ⟨vs, upd_same, r.go ((m.upNew hp).1.still0 m)⟩
/-- an object written -/
theorem RM0.put {p : Addr} {o : HO} {mo mo' : MO} (m : RM0 K H M) (hp : M p = some mo) (r : Still K H (upd H p o) → RO K (upd H p o) p mo') : Ext M (mset M p mo') H (upd H p o) ∧ RM0 K (upd H p o) (mset M p mo') := by
  have x : Ext M (mset M p mo') H (upd H p o) := by
    refine ⟨fun b u h hm => ?_, fun b h => ?_⟩
    · rw [upd_ne (by intro e; subst e; rw [hp] at hm; cases hm)]; exact h
    · by_cases e : b = p
      · subst e; left; rw [hp]; exact fun z => nomatch z
      · rw [mset_ne e] at h; exact .inl h
  refine ⟨x, fun b u h => ?_⟩
  by_cases e : b = p
  · subst e; rw [mset_same] at h; cases h; exact r (x.still0 m)
  · rw [mset_ne e] at h
    exact (m b u h).go (x.still0 m) fun v hv => by rw [upd_ne e]; exact hv
theorem RM0.putL {p : Addr} {vs : List V} {ds : List D} {mo : MO} (m : RM0 K H M) (hp : M p = some mo) (r : RDs K H vs ds) : Ext M (mset M p (.lst ds)) H (upd H p (.lst vs)) ∧ RM0 K (upd H p (.lst vs)) (mset M p (.lst ds)) :=
  m.put hp fun s => ⟨vs, upd_same, r.go s⟩
end
structure BS where
  ok : Mp → Hp → Prop
  go : ∀ {M M' : Mp} {H H' : Hp}, ok M H → Ext M M' H H' → ok M' H'
def bsOf (M : Mp) (H : Hp) : BS := ⟨fun M' H' => Ext M M' H H', fun a b => a.trans b⟩
structure RM (K : PySem.W.Frag) (bs : BS) (H : Hp) (M : Mp) : Prop where
  m : RM0 K H M
  b : bs.ok M H
section
variable {K : PySem.W.Frag} {bs : BS} {M M' : Mp} {H H' : Hp} {a : Addr}
theorem Ext.still (x : Ext M M' H H') (m : RM K bs H M) : Still K H H' := x.still0 m.m
theorem RM.go (m : RM K bs H M) (x : Ext M M' H H' ∧ RM0 K H' M') : Ext M M' H H' ∧ RM K bs H' M' := ⟨x.1, x.2, bs.go m.b x.1⟩
theorem RM.to (m : RM K bs H M) (x : Ext M M' H H') (m' : RM0 K H' M') : RM K bs H' M' := ⟨m', bs.go m.b x⟩
theorem RM.free (m : RM K bs H M) (h : H a = none) : M a = none := m.m.free h
theorem RM.keep (m : RM K bs H M) (k : ∀ b u, H b = some u → H' b = some u) : Ext M M H H' ∧ RM K bs H' M := m.go (m.m.keep k)
theorem RM.upNew {p : Addr} {o : HO} (m : RM K bs H M) (hp : H p = none) : Ext M M H (upd H p o) ∧ RM K bs (upd H p o) M := m.go (m.m.upNew hp)
theorem RM.new {p : Addr} {o : HO} {mo : MO} (m : RM K bs H M) (hp : H p = none) (r : RO K (upd H p o) p mo) : Ext M (mset M p mo) H (upd H p o) ∧ RM K bs (upd H p o) (mset M p mo) := m.go (m.m.new hp r)
theorem RM.newL {p : Addr} {vs : List V} {ds : List D} (m : RM K bs H M) (hp : H p = none) (r : RDs K H vs ds) : Ext M (mset M p (.lst ds)) H (upd H p (.lst vs)) ∧ RM K bs (upd H p (.lst vs)) (mset M p (.lst ds)) := m.go (m.m.newL hp r)
theorem RM.put {p : Addr} {o : HO} {mo mo' : MO} (m : RM K bs H M) (hp : M p = some mo) (r : Still K H (upd H p o) → RO K (upd H p o) p mo') : Ext M (mset M p mo') H (upd H p o) ∧ RM K bs (upd H p o) (mset M p mo') := m.go (m.m.put hp r)
theorem RM.putL {p : Addr} {vs : List V} {ds : List D} {mo : MO} (m : RM K bs H M) (hp : M p = some mo) (r : RDs K H vs ds) : Ext M (mset M p (.lst ds)) H (upd H p (.lst vs)) ∧ RM K bs (upd H p (.lst vs)) (mset M p (.lst ds)) := m.go (m.m.putL hp r)
theorem RM.less {M2 : Mp} (m : RM K bs H M) (l : ∀ a o, M2 a = some o → M a = some o) : Ext M M2 H H ∧ RM K bs H M2 := m.go ⟨Ext.refl.less l, m.m.less l⟩
theorem RM.at (m : RM K bs H M) {o : MO} (h : M a = some o) : RO K H a o := m.m a o h
end
section
variable {K : PySem.W.Frag} {H : Hp}
theorem RDs.length : ∀ {vs : List V} {ds : List D}, RDs K H vs ds → vs.length = ds.length
  | _, _, .nil => rfl
  | _, _, .cons _ t => by rw [List.length_cons, List.length_cons, t.length]
theorem RDs.get : ∀ {vs : List V} {ds : List D} {i : Nat} {d : D}, RDs K H vs ds → ds[i]? = some d → ∃ v, vs[i]? = some v ∧ RD K H v d
  | _, _, _, _, .nil, e => by simp at e
  | _, _, 0, _, .cons r _, e => by simp at e; subst e; exact ⟨_, rfl, r⟩
  | _, _, i + 1, d, .cons _ t, e => by
    obtain ⟨u, h1, h2⟩ := RDs.get (i := i) (d := d) t (by simpa using e)
    exact ⟨u, by simpa using h1, h2⟩
theorem RDs.app : ∀ {vs ws : List V} {ds es : List D}, RDs K H vs ds → RDs K H ws es → RDs K H (vs ++ ws) (ds ++ es)
  | _, _, _, _, .nil, s => s
  | _, _, _, _, .cons r t, s => .cons r (RDs.app t s)
theorem RDs.take : ∀ {vs : List V} {ds : List D} (n : Nat), RDs K H vs ds → RDs K H (vs.take n) (ds.take n)
  | _, _, 0, _ => .nil
  | _, _, _ + 1, .nil => .nil
  | _, _, n + 1, .cons r t => .cons r (RDs.take n t)
theorem RDs.drop : ∀ {vs : List V} {ds : List D} (n : Nat), RDs K H vs ds → RDs K H (vs.drop n) (ds.drop n)
  | _, _, 0, r => r
  | _, _, _ + 1, .nil => .nil
  | _, _, n + 1, .cons _ t => RDs.drop n t
theorem RDs.set {v : V} {d : D} (r : RD K H v d) : ∀ {vs : List V} {ds : List D} (i : Nat), RDs K H vs ds → RDs K H (vs.set i v) (ds.set i d)
  | _, _, _, .nil => .nil
  | _, _, 0, .cons _ t => .cons r t
  | _, _, i + 1, .cons q t => .cons q (RDs.set r i t)
theorem RDs.ofInts : ∀ (ns : List Int), RDs K H (ns.map V.int) (ns.map D.int)
  | [] => .nil
  | n :: ns => .cons (.int n) (RDs.ofInts ns)
end
abbrev St3 := List (Option D)
abbrev VK3 := D → Mp → Prop
abbrev TE3 := St3 → Mp → VK3 → Prop
abbrev TT3 := St3 → Mp → (Bool → Mp → Prop) → Prop
abbrev TA3 := St3 → Mp → (List D → Mp → Prop) → Prop
def getS : St3 → Nat → Option D
  | [], _ => none
  | x :: _, 0 => x
  | _ :: r, i + 1 => getS r i
def setS : St3 → Nat → Option D → St3
  | [], _, _ => []
  | _ :: r, 0, d => d :: r
  | x :: r, i + 1, d => x :: setS r i d
structure RE (K : PySem.W.Frag) (H : Hp) (σ : L2.St) (τ : St3) : Prop where
  len : σ.length = τ.length
  get : ∀ i d, getS τ i = some d → ∃ v, σ[i]? = some (some v) ∧ RD K H v d
theorem setS_len : ∀ (τ : St3) (i : Nat) (d : Option D), (setS τ i d).length = τ.length
  | [], _, _ => rfl
  | _ :: _, 0, _ => rfl
  | _ :: r, i + 1, d => by show (setS r i d).length + 1 = r.length + 1; rw [setS_len]
theorem getS_set : ∀ (τ : St3) (i j : Nat) (d : Option D), getS (setS τ i d) j = if j = i ∧ i < τ.length then d else getS τ j
  | [], i, j, d => by
    show none = _
    split
    · rename_i h; exact absurd h.2 (by simp)
    · rfl
  | x :: r, 0, 0, d => by simp [setS, getS]
  | x :: r, 0, j + 1, d => by simp [setS, getS]
  | x :: r, i + 1, 0, d => by simp [setS, getS]
  | x :: r, i + 1, j + 1, d => by
    show getS (setS r i d) j = _
    rw [getS_set r i j d]
    simp [getS]
theorem getS_lt : ∀ (τ : St3) (i : Nat) (d : D), getS τ i = some d → i < τ.length
  | [], _, _, h => by cases h
  | _ :: _, 0, _, _ => Nat.succ_pos _
  | _ :: r, i + 1, d, h => Nat.succ_lt_succ (getS_lt r i d h)
section
variable {K : PySem.W.Frag} {H H' : Hp} {σ : L2.St} {τ : St3}
theorem RE.go (r : RE K H σ τ) (s : Still K H H') : RE K H' σ τ := ⟨r.len, fun i d e => let ⟨v, a, b⟩ := r.get i d e; ⟨v, a, b.go s⟩⟩
theorem RE.set {i : Nat} {v : V} {d : D} (r : RE K H σ τ) (rv : RD K H v d) : RE K H (σ.set i (some v)) (setS τ i (some d)) := by
  refine ⟨by rw [List.length_set, setS_len]; exact r.len, fun j e h => ?_⟩
  rw [getS_set] at h
  split at h
  · rename_i q
    obtain ⟨rfl, q⟩ := q
    cases h
    exact ⟨v, by rw [List.getElem?_set_self (by rw [r.len]; exact q)], rv⟩
  · rename_i q
    obtain ⟨u, e1, e2⟩ := r.get j e h
    refine ⟨u, ?_, e2⟩
    by_cases hij : i = j
    · subst hij
      exact absurd ⟨rfl, getS_lt _ _ _ h⟩ q
    · rw [List.getElem?_set_ne hij]; exact e1
theorem RE.drop {i : Nat} (r : RE K H σ τ) (x : Option V) : RE K H (σ.set i x) (setS τ i none) := by
  refine ⟨by rw [List.length_set, setS_len]; exact r.len, fun j e h => ?_⟩
  rw [getS_set] at h
  split at h
  · cases h
  · rename_i q
    obtain ⟨u, e1, e2⟩ := r.get j e h
    refine ⟨u, ?_, e2⟩
    by_cases hij : i = j
    · subst hij
      exact absurd ⟨rfl, getS_lt _ _ _ h⟩ q
    · rw [List.getElem?_set_ne hij]; exact e1
def wipe3 (τ : St3) : List Nat → St3
  | [] => τ
  | v :: vs => setS (wipe3 τ vs) v none
theorem RE.wipe (r : RE K H σ τ) : ∀ vs : List Nat, RE K H (wipe σ vs) (wipe3 τ vs)
  | [] => r
  | v :: vs => by
    unfold wipe3 L2.wipe
    exact (RE.wipe r vs).drop none
end
def ite3 (b : Bool) (A B : Prop) : Prop := match b with
  | true => A
  | false => B
def asB (d : D) (k : Bool → Prop) : Prop := match d with
  | .bl b => k b
  | _ => False
def asI (d : D) (k : Int → Prop) : Prop := match d with
  | .int i => k i
  | _ => False
def asS (d : Option D) (k : D → Prop) : Prop := match d with
  | some d => k d
  | none => False
theorem ite3_t {A B : Prop} : ite3 true A B = A := rfl
theorem ite3_f {A B : Prop} : ite3 false A B = B := rfl
theorem asB_bl {b : Bool} {k : Bool → Prop} : asB (.bl b) k = k b := rfl
theorem asI_int {i : Int} {k : Int → Prop} : asI (.int i) k = k i := rfl
theorem asS_some {d : D} {k : D → Prop} : asS (some d) k = k d := rfl
theorem ite3_by {b : Bool} {A B : Prop} (h1 : b = true → A) (h2 : b = false → B) : ite3 b A B := by
  cases b with
  | true => exact h1 rfl
  | false => exact h2 rfl
section
variable (K : PySem.W.Frag) (bs : BS)
def lift (t : TE3) : TE := fun σ H Q => ∃ τ M Q3, RE K H σ τ ∧ RM K bs H M ∧ t τ M Q3 ∧
  ∀ v H' d M', Ext M M' H H' → RM K bs H' M' → RD K H' v d → Q3 d M' → Q v H'
def liftT (t : TT3) : TT := fun σ H Q => ∃ τ M Q3, RE K H σ τ ∧ RM K bs H M ∧ t τ M Q3 ∧
  ∀ b H' M', Ext M M' H H' → RM K bs H' M' → Q3 b M' → Q b H'
def liftA (t : TA3) : TA := fun σ H Q => ∃ τ M Q3, RE K H σ τ ∧ RM K bs H M ∧ t τ M Q3 ∧
  ∀ vs H' ds M', Ext M M' H H' → RM K bs H' M' → RDs K H' vs ds → Q3 ds M' → Q vs H'
abbrev R23 := D → D → Mp → VK3 → Prop
def lift2 (r : R23) : R2 := fun x y H Q => ∃ d e M Q3, RD K H x d ∧ RD K H y e ∧ RM K bs H M ∧ r d e M Q3 ∧
  ∀ v H' z M', Ext M M' H H' → RM K bs H' M' → RD K H' v z → Q3 z M' → Q v H'
def liftV (r : List D → Mp → VK3 → Prop) : List V → Hp → VK → Prop := fun xs H Q => ∃ ds M Q3, RDs K H xs ds ∧ RM K bs H M ∧ r ds M Q3 ∧
  ∀ v H' z M', Ext M M' H H' → RM K bs H' M' → RD K H' v z → Q3 z M' → Q v H'
end
def PE3 (bs : BS) (X : Cx) (e : Expr) (t : TE3) : Prop := PE X e (lift X.K bs t)
def PT3 (bs : BS) (X : Cx) (e : Expr) (t : TT3) : Prop := PT X e (liftT X.K bs t)
def PA3 (bs : BS) (X : Cx) (es : List Expr) (t : TA3) : Prop := PA X es (liftA X.K bs t)
end L3
namespace L2
open PySem PySem.Spec PyProof.Rows
theorem PE.weak {X : Cx} {e : Expr} {t t' : TE} (h : PE X e t) (i : ∀ σ H Q, t' σ H Q → t σ H Q) : PE X e t' := ⟨fun pins s σ H Q I q => h.run pins s σ H Q I (i σ H Q q)⟩
theorem PT.weak {X : Cx} {e : Expr} {t t' : TT} (h : PT X e t) (i : ∀ σ H Q, t' σ H Q → t σ H Q) : PT X e t' := ⟨fun pins s σ H Q I q => h.run pins s σ H Q I (i σ H Q q)⟩
theorem PW.weak {X : Cx} {e : Expr} {t t' : TT} (h : PW X e t) (i : ∀ σ H Q, t' σ H Q → t σ H Q) : PW X e t' := ⟨fun wh pins s σ H Q I q => h.run wh pins s σ H Q I (i σ H Q q)⟩
theorem PA.weak {X : Cx} {e : List Expr} {t t' : TA} (h : PA X e t) (i : ∀ σ H Q, t' σ H Q → t σ H Q) : PA X e t' := ⟨fun pos pins s σ H Q I q => h.run pos pins s σ H Q I (i σ H Q q)⟩
theorem PS.weak {X : Cx} {e : Stmt} {t t' : TS} (h : PS X e t) (i : ∀ D σ H, t' D σ H → t D σ H) : PS X e t' := ⟨fun pins s σ H D I q => h.run pins s σ H D I (i D σ H q)⟩
theorem PSs.weak {X : Cx} {e : List Stmt} {t t' : TS} (h : PSs X e t) (i : ∀ D σ H, t' D σ H → t D σ H) : PSs X e t' := ⟨fun pins s σ H D I q => h.run pins s σ H D I (i D σ H q)⟩
theorem PG.weak {X : Cx} {e : Expr} {t t' : TG} (h : PG X e t) (i : ∀ v σ H Q, t' v σ H Q → t v σ H Q) : PG X e t' := ⟨fun pins s σ H v u Q I r q => h.run pins s σ H v u Q I r (i v σ H Q q)⟩
theorem PGs.weak {X : Cx} {e : List Expr} {t t' : TGs} (h : PGs X e t) (i : ∀ v σ H Q, t' v σ H Q → t v σ H Q) : PGs X e t' := ⟨fun pins s σ H v u Q I r q => h.run pins s σ H v u Q I r (i v σ H Q q)⟩
theorem PI.weak {X : Cx} {g e : Expr} {t t' : TI} (h : PI X g e t) (i : ∀ σ H R, t' σ H R → t σ H R) : PI X g e t' := ⟨fun pins s σ H R I q => h.run pins s σ H R I (i σ H R q)⟩
theorem OpR.weak {X : Cx} {f : Value → Value → Sem Value} {r r' : R2} (h : OpR X f r) (i : ∀ x y H Q, r' x y H Q → r x y H Q) : OpR X f r' :=
  fun pins s σ H x y v u Q I rx ry q => h pins s σ H x y v u Q I rx ry (i x y H Q q)
theorem CallR.weak {X : Cx} {f : Value} {r r' : List V → Hp → VK → Prop} (h : CallR X f r) (i : ∀ xs H Q, r' xs H Q → r xs H Q) : CallR X f r' :=
  fun pins s σ H xs us Q I rx q => h pins s σ H xs us Q I rx (i xs H Q q)
end L2
namespace L3
open PySem PySem.Spec PyProof.Rows L2
section
variable {bs : BS} {X : Cx} {a b c : Expr} {ta tb tc : TE3} {pos : Pos}
def wC (d : D) : TE3 := fun _ M Q => Q d M
def wVar (i : Nat) : TE3 := fun τ M Q => asS (getS τ i) fun d => Q d M
theorem e_c {v : V} {d : D} (h : PE X a (tC v)) (r : ∀ H, RD X.K H v d) : PE3 bs X a (wC d) :=
  h.weak fun σ H Q ⟨τ, M, Q3, e, m, q, k⟩ => k v H d M .refl m (r H) q
theorem e_int {i j} : PE3 bs X (.Constant (.int i) j pos) (wC (.int i)) := e_c pe_int fun _ => .int i
theorem e_bl {i j} : PE3 bs X (.Constant (.bool i) j pos) (wC (.bl i)) := e_c pe_bl fun _ => .bl i
theorem e_non {j} : PE3 bs X (.Constant .none j pos) (wC .non) := e_c pe_non fun _ => .non
theorem e_str {x j} : PE3 bs X (.Constant (.str x) j pos) (wC (.str x)) := e_c pe_str fun _ => .str x
theorem e_var (i : Nat) (h : PE X a (tVar i)) : PE3 bs X a (wVar i) :=
  h.weak fun σ H Q ⟨τ, M, Q3, e, m, q, k⟩ => by
    unfold wVar at q
    cases hd : getS τ i with
    | none => rw [hd] at q; exact False.elim q
    | some d =>
      rw [hd] at q
      obtain ⟨v, hv, r⟩ := e.get i d hd
      exact ⟨v, hv, k v H d M .refl m r q⟩
theorem ev (i : Nat) {x : Str} {pos : Pos} (hN : X.N[i]? = some x := by rfl) (hv : Vis X.env.scope x := by first | exact Or.inl rfl | exact Or.inr (Or.inl rfl) | exact Or.inr (Or.inr rfl)) (hd : (x == ("__debug__" : Str)) = false := by decide)
    (hcd : (x == ("__classdict__" : Str)) = false := by decide) : PE3 bs X (.Name x pos) (wVar i) := e_var i (pe_var hN hv hd hcd)
def wOp (r : R23) (ta tb : TE3) : TE3 := fun τ M Q => ta τ M fun x M1 => tb τ M1 fun y M2 => r x y M2 Q
theorem lift_op {r : R23} : ∀ σ H Q, lift X.K bs (wOp r ta tb) σ H Q → tOp (lift2 X.K bs r) (lift X.K bs ta) (lift X.K bs tb) σ H Q := by
  rintro σ H Q ⟨τ, M, Q3, e, m, q, k⟩
  refine ⟨τ, M, _, e, m, q, fun x H1 d M1 x1 m1 r1 q1 => ⟨τ, M1, _, e.go (x1.still m), m1, q1, fun y H2 d2 M2 x2 m2 r2 q2 => ?_⟩⟩
  exact ⟨d, d2, M2, Q3, r1.go (x2.still m1), r2, m2, q2, fun v H' z M' x3 m3 r3 q3 => k v H' z M' (x1.trans (x2.trans x3)) m3 r3 q3⟩
theorem e_op {op : Operator} {r : R23} (ho : OpR X (binaryOp op) (lift2 X.K bs r)) (ha : PE3 bs X a ta) (hb : PE3 bs X b tb) : PE3 bs X (.BinOp a op b pos) (wOp r ta tb) := (pe_op ho ha hb).weak lift_op
theorem e_cmp {op : CmpOp} {r : R23} (ho : OpR X (compareOp op) (lift2 X.K bs r)) (ha : PE3 bs X a ta) (hb : PE3 bs X b tb) (hm : behindInMarks op b = false) : PE3 bs X (.Compare a [op] [b] pos) (wOp r ta tb) := (pe_cmpR ho ha hb hm).weak lift_op
/-- a value as a test: a truth -/
def wB (t : TE3) : TT3 := fun τ M Q => t τ M fun d M' => asB d fun k => Q k M'
theorem lift_b : ∀ σ H Q, liftT X.K bs (wB ta) σ H Q → tB (lift X.K bs ta) σ H Q := by
  rintro σ H Q ⟨τ, M, Q3, e, m, q, k⟩
  refine ⟨τ, M, _, e, m, q, fun x H1 d M1 x1 m1 r1 q1 => ?_⟩
  cases d with
  | bl z =>
    cases r1
    exact ⟨z, rfl, k z H1 M1 x1 m1 q1⟩
  | _ => exact False.elim q1
theorem lift_tt {r : R23} : ∀ σ H Q, liftT X.K bs (wB (wOp r ta tb)) σ H Q → tTest (tOp (lift2 X.K bs r) (lift X.K bs ta) (lift X.K bs tb)) σ H Q := by
  rintro σ H Q ⟨τ, M, Q3, e, m, q, k⟩
  refine lift_op (r := r) σ H _ ⟨τ, M, _, e, m, q, fun x H1 d M1 x1 m1 r1 q1 => ?_⟩
  cases d with
  | bl z =>
    cases r1
    exact ⟨z, rfl, k z H1 M1 x1 m1 q1⟩
  | _ => exact False.elim q1
theorem t_cmp {op : CmpOp} {r : R23} (ho : OpR X (compareOp op) (lift2 X.K bs r)) (ha : PE3 bs X a ta) (hb : PE3 bs X b tb) (hm : behindInMarks op b = false) : PT3 bs X (.Compare a [op] [b] pos) (wB (wOp r ta tb)) := (pt_cmpR ho ha hb hm).weak lift_tt
theorem t_val (h : PE3 bs X a ta) (he : ∀ whole, isTrue a X.env whole = (do let v ← whole; standAt a.pos; holding [v] (truthy v)) := by intro _; rfl) : PT3 bs X a (wB ta) := (pt_val h he).weak lift_b
/-- a op b op' c -/
def wChain (r r' : R23) (ta tb tc : TE3) : TE3 := fun τ M Q => ta τ M fun x M1 => tb τ M1 fun y M2 => r x y M2 fun z M3 => asB z fun c => ite3 c (tc τ M3 fun w M4 => r' y w M4 Q) (Q (.bl false) M3)
theorem lift_chain {r r' : R23} : ∀ σ H Q, lift X.K bs (wChain r r' ta tb tc) σ H Q → tChain (lift2 X.K bs r) (lift2 X.K bs r') (lift X.K bs ta) (lift X.K bs tb) (lift X.K bs tc) σ H Q := by
  rintro σ H Q ⟨τ, M, Q3, e, m, q, k⟩
  refine ⟨τ, M, _, e, m, q, fun x H1 d M1 x1 m1 r1 q1 => ⟨τ, M1, _, e.go (x1.still m), m1, q1, fun y H2 d2 M2 x2 m2 r2 q2 => ?_⟩⟩
  refine ⟨d, d2, M2, _, r1.go (x2.still m1), r2, m2, q2, fun z H3 d3 M3 x3 m3 r3 q3 => ?_⟩
  cases d3 with
  | bl t =>
    cases r3
    cases t with
    | true =>
      refine ⟨true, rfl, iteT ?_⟩
      refine ⟨τ, M3, _, (e.go (x1.still m)).go ((x2.trans x3).still m1), m3, q3, fun w H4 d4 M4 x4 m4 r4 q4 => ?_⟩
      exact ⟨d2, d4, M4, Q3, r2.go ((x3.trans x4).still m2), r4, m4, q4, fun v H' z M' x5 m5 r5 q5 => k v H' z M' (x1.trans (x2.trans (x3.trans (x4.trans x5)))) m5 r5 q5⟩
    | false => exact ⟨false, rfl, iteF (k (.bl false) H3 (.bl false) M3 (x1.trans (x2.trans x3)) m3 (.bl _) q3)⟩
  | _ => exact False.elim q3
theorem e_chain {op op' : CmpOp} {r r' : R23} (ho : OpR X (compareOp op) (lift2 X.K bs r)) (ho' : OpR X (compareOp op') (lift2 X.K bs r')) (ha : PE3 bs X a ta) (hb : PE3 bs X b tb) (hc : PE3 bs X c tc)
    (hm : lastMarks [op, op'] [b, c] = false := by with_unfolding_all rfl) : PE3 bs X (.Compare a [op, op'] [b, c] pos) (wChain r r' ta tb tc) := (pe_chain ho ho' ha hb hc hm).weak lift_chain
theorem t_chain {op op' : CmpOp} {r r' : R23} (ho : OpR X (compareOp op) (lift2 X.K bs r)) (ho' : OpR X (compareOp op') (lift2 X.K bs r')) (ha : PE3 bs X a ta) (hb : PE3 bs X b tb) (hc : PE3 bs X c tc)
    (hm : lastMarks [op, op'] [b, c] = false := by with_unfolding_all rfl) : PT3 bs X (.Compare a [op, op'] [b, c] pos) (wB (wChain r r' ta tb tc)) := by
  refine (pt_chain ho ho' ha hb hc hm).weak ?_
  rintro σ H Q ⟨τ, M, Q3, e, m, q, k⟩
  refine lift_chain (r := r) (r' := r') σ H _ ⟨τ, M, _, e, m, q, fun x H1 d M1 x1 m1 r1 q1 => ?_⟩
  cases d with
  | bl z =>
    cases r1
    exact ⟨z, rfl, k z H1 M1 x1 m1 q1⟩
  | _ => exact False.elim q1
variable {A B : TT3} {rest : List Expr}
def wAnd (t u : TT3) : TT3 := fun τ M Q => t τ M fun c M1 => ite3 c (u τ M1 Q) (Q false M1)
def wOr (t u : TT3) : TT3 := fun τ M Q => t τ M fun c M1 => ite3 c (Q true M1) (u τ M1 Q)
def wNot (t : TT3) : TT3 := fun τ M Q => t τ M fun c M1 => Q (!c) M1
def PW3 (bs : BS) (X : Cx) (e : Expr) (t : TT3) : Prop := PW X e (liftT X.K bs t)
theorem PW3.pt {e : Expr} {t : TT3} (h : PW3 bs X e t) : PT3 bs X e t := PW.pt h
theorem t_and1 (ha : PT3 bs X a A) : PW3 bs X (.BoolOp .And [a] pos) A := pw_and1 ha
theorem t_or1 (ha : PT3 bs X a A) : PW3 bs X (.BoolOp .Or [a] pos) A := pw_or1 ha
theorem t_and (ha : PT3 bs X a A) (hb : PW3 bs X (.BoolOp .And (b :: rest) pos) B) : PW3 bs X (.BoolOp .And (a :: b :: rest) pos) (wAnd A B) := by
  refine (pw_and ha hb).weak ?_
  rintro σ H Q ⟨τ, M, Q3, e, m, q, k⟩
  refine ⟨τ, M, _, e, m, q, fun z H1 M1 x1 m1 q1 => ?_⟩
  cases z with
  | true => exact iteT ⟨τ, M1, Q3, e.go (x1.still m), m1, q1, fun z H' M' x2 m2 q2 => k z H' M' (x1.trans x2) m2 q2⟩
  | false => exact iteF (k false H1 M1 x1 m1 q1)
theorem t_or (ha : PT3 bs X a A) (hb : PW3 bs X (.BoolOp .Or (b :: rest) pos) B) : PW3 bs X (.BoolOp .Or (a :: b :: rest) pos) (wOr A B) := by
  refine (pw_or ha hb).weak ?_
  rintro σ H Q ⟨τ, M, Q3, e, m, q, k⟩
  refine ⟨τ, M, _, e, m, q, fun z H1 M1 x1 m1 q1 => ?_⟩
  cases z with
  | true => exact iteT (k true H1 M1 x1 m1 q1)
  | false => exact iteF ⟨τ, M1, Q3, e.go (x1.still m), m1, q1, fun z H' M' x2 m2 q2 => k z H' M' (x1.trans x2) m2 q2⟩
theorem t_not (ha : PT3 bs X a A) : PT3 bs X (.UnaryOp .Not a pos) (wNot A) := by
  refine (pt_not ha).weak ?_
  rintro σ H Q ⟨τ, M, Q3, e, m, q, k⟩
  exact ⟨τ, M, _, e, m, q, fun z H1 M1 x1 m1 q1 => k (!z) H1 M1 x1 m1 q1⟩
def wAndV (ta tb : TE3) : TE3 := fun τ M Q => ta τ M fun x M1 => asB x fun c => ite3 c (tb τ M1 Q) (Q (.bl false) M1)
def wOrV (ta tb : TE3) : TE3 := fun τ M Q => ta τ M fun x M1 => asB x fun c => ite3 c (Q (.bl true) M1) (tb τ M1 Q)
def wNotV (ta : TE3) : TE3 := fun τ M Q => ta τ M fun x M1 => asB x fun c => Q (.bl (!c)) M1
theorem e_one {op} (h : PE3 bs X a ta) : PE3 bs X (.BoolOp op [a] pos) ta := pe_one h
theorem e_and (ha : PE3 bs X a ta) (hb : PE3 bs X (.BoolOp .And (b :: rest) pos) tb) : PE3 bs X (.BoolOp .And (a :: b :: rest) pos) (wAndV ta tb) := by
  refine (pe_and ha hb).weak ?_
  rintro σ H Q ⟨τ, M, Q3, e, m, q, k⟩
  refine ⟨τ, M, _, e, m, q, fun z H1 d M1 x1 m1 r1 q1 => ?_⟩
  cases d with
  | bl t =>
    cases r1
    cases t with
    | true => exact ⟨true, rfl, iteT ⟨τ, M1, Q3, e.go (x1.still m), m1, q1, fun z H' d M' x2 m2 r2 q2 => k z H' d M' (x1.trans x2) m2 r2 q2⟩⟩
    | false => exact ⟨false, rfl, iteF (k _ H1 _ M1 x1 m1 (.bl _) q1)⟩
  | _ => exact False.elim q1
theorem e_not (ha : PE3 bs X a ta) : PE3 bs X (.UnaryOp .Not a pos) (wNotV ta) := by
  refine (pe_not ha).weak ?_
  rintro σ H Q ⟨τ, M, Q3, e, m, q, k⟩
  refine ⟨τ, M, _, e, m, q, fun z H1 d M1 x1 m1 r1 q1 => ?_⟩
  cases d with
  | bl t =>
    cases r1
    exact ⟨t, rfl, k _ H1 _ M1 x1 m1 (.bl _) q1⟩
  | _ => exact False.elim q1
def wIf (c : TT3) (ta tb : TE3) : TE3 := fun τ M Q => c τ M fun z M1 => ite3 z (ta τ M1 Q) (tb τ M1 Q)
theorem e_if (hc : PT3 bs X c A) (ha : PE3 bs X a ta) (hb : PE3 bs X b tb) : PE3 bs X (.IfExp c a b pos) (wIf A ta tb) := by
  refine (pe_ifExp hc ha hb).weak ?_
  rintro σ H Q ⟨τ, M, Q3, e, m, q, k⟩
  refine ⟨τ, M, _, e, m, q, fun z H1 M1 x1 m1 q1 => ?_⟩
  cases z with
  | true => exact iteT ⟨τ, M1, Q3, e.go (x1.still m), m1, q1, fun z H' d M' x2 m2 r2 q2 => k z H' d M' (x1.trans x2) m2 r2 q2⟩
  | false => exact iteF ⟨τ, M1, Q3, e.go (x1.still m), m1, q1, fun z H' d M' x2 m2 r2 q2 => k z H' d M' (x1.trans x2) m2 r2 q2⟩
variable {es : List Expr} {t : TA3}
def wNil : TA3 := fun _ M Q => Q [] M
def wCons (ta : TE3) (tr : TA3) : TA3 := fun τ M Q => ta τ M fun x M1 => tr τ M1 fun xs M2 => Q (x :: xs) M2
theorem a_nil : PA3 bs X [] wNil := pa_nil.weak fun σ H Q ⟨τ, M, Q3, e, m, q, k⟩ => k [] H [] M .refl m .nil q
theorem a_cons (ha : PE3 bs X a ta) (hr : PA3 bs X es t) (hs : starEach (a :: es) X.env = (false, eval a X.env) :: starEach es X.env := by rfl) : PA3 bs X (a :: es) (wCons ta t) := by
  refine PA.weak (pa_cons ha hr hs) ?_
  rintro σ H Q ⟨τ, M, Q3, e, m, q, k⟩
  refine ⟨τ, M, _, e, m, q, fun z H1 d M1 x1 m1 r1 q1 => ⟨τ, M1, _, e.go (x1.still m), m1, q1, fun zs H2 ds M2 x2 m2 r2 q2 => ?_⟩⟩
  exact k _ H2 _ M2 (x1.trans x2) m2 (.cons (r1.go (x2.still m1)) r2) q2
def wTup (t : TA3) : TE3 := fun τ M Q => t τ M fun xs M1 => xs.length ≤ sizeLine ∧ Q (.tup xs) M1
def wLst (t : TA3) : TE3 := fun τ M Q => t τ M fun xs M1 => xs.length ≤ sizeLine ∧ ∀ p, M1 p = none → Q (.ref p) (mset M1 p (.lst xs))
theorem e_tup {x1} (h : PA3 bs X es t) : PE3 bs X (.Tuple es x1 pos) (wTup t) := by
  refine PE.weak (pe_tup h) ?_
  rintro σ H Q ⟨τ, M, Q3, e, m, q, k⟩
  refine ⟨τ, M, _, e, m, q, fun zs H1 ds M1 x1 m1 r1 q1 => ⟨by rw [r1.length]; exact q1.1, fun p hp => ?_⟩⟩
  obtain ⟨x2, m2⟩ := m1.upNew (o := .tup zs) hp
  exact k _ _ (.tup ds) M1 (x1.trans x2) m2 (.tup (SqT.of upd_same) (r1.go (x2.still m1))) q1.2
theorem e_lst (h : PA3 bs X es t) : PE3 bs X (.List es pos) (wLst t) := by
  refine PE.weak (pe_lst h) ?_
  rintro σ H Q ⟨τ, M, Q3, e, m, q, k⟩
  refine ⟨τ, M, _, e, m, q, fun zs H1 ds M1 x1 m1 r1 q1 => ⟨by rw [r1.length]; exact q1.1, fun p hp => ?_⟩⟩
  obtain ⟨x2, m2⟩ := m1.newL hp r1
  exact k _ _ (.ref p) _ (x1.trans x2) m2 (.ref p) (q1.2 p (m1.free hp))
/-- a built-in's call by values -/
def wCB (r : List D → Mp → VK3 → Prop) (t : TA3) : TE3 := fun τ M Q => t τ M fun ds M1 => r ds M1 Q
theorem lift_cb {r : List D → Mp → VK3 → Prop} : ∀ σ H Q, lift X.K bs (wCB r t) σ H Q → tCB (liftV X.K bs r) (liftA X.K bs t) σ H Q := by
  rintro σ H Q ⟨τ, M, Q3, e, m, q, k⟩
  refine ⟨τ, M, _, e, m, q, fun zs H1 ds M1 x1 m1 r1 q1 => ?_⟩
  exact ⟨ds, M1, Q3, r1, m1, q1, fun v H' z M' x2 m2 r2 q2 => k v H' z M' (x1.trans x2) m2 r2 q2⟩
end
end L3
set_option Elab.async false
set_option linter.all false
set_option maxRecDepth 100000
set_option maxHeartbeats 4000000
namespace L3
open PySem PySem.Spec PyProof.Rows L2
/-- what is wanted behind a statement -/
structure Ends3 where
  nx : St3 → Mp → Prop
  rt : VK3
  bk : St3 → Mp → Prop := fun _ _ => False
  ct : St3 → Mp → Prop := fun _ _ => False
abbrev TS3 := Ends3 → St3 → Mp → Prop
abbrev TG3 := D → St3 → Mp → (St3 → Mp → Prop) → Prop
abbrev TGs3 := List D → St3 → Mp → (St3 → Mp → Prop) → Prop
/-- σ' is σ but at some places -/
def But (ix : List Nat) (σ σ' : L2.St) : Prop := σ'.length = σ.length ∧ ∀ i, i ∉ ix → σ'[i]? = σ[i]?
theorem But.refl {ix : List Nat} {σ : L2.St} : But ix σ σ := ⟨rfl, fun _ _ => rfl⟩
theorem But.trans {ix : List Nat} {σ σ1 σ2 : L2.St} (a : But ix σ σ1) (b : But ix σ1 σ2) : But ix σ σ2 := ⟨b.1.trans a.1, fun i h => (b.2 i h).trans (a.2 i h)⟩
theorem But.more {ix iy : List Nat} {σ σ1 : L2.St} (a : But ix σ σ1) (h : ∀ i ∈ ix, i ∈ iy) : But iy σ σ1 := ⟨a.1, fun i hi => a.2 i fun z => hi (h i z)⟩
theorem wipe_at (σ : L2.St) (i : Nat) : ∀ vs : List Nat, i ∈ vs → i < σ.length → (L2.wipe σ vs)[i]? = some none
  | [], h, _ => by simp at h
  | v :: vs, h, hl => by
    unfold L2.wipe
    by_cases e : v = i
    · subst e
      rw [List.getElem?_set_self (by rw [L2.wipe_length]; exact hl)]
    · rw [List.getElem?_set_ne e]
      rcases List.mem_cons.mp h with z | z
      · exact absurd z.symm e
      · exact wipe_at σ i vs z hl
theorem wipe_off (σ : L2.St) (i : Nat) (vs : List Nat) (h : i ∉ vs) : (L2.wipe σ vs)[i]? = σ[i]? := L2.wipe_out h
theorem But.wipe {ix vs : List Nat} {σ σ' : L2.St} (b : But ix σ σ') (h : ∀ i ∈ ix, i ∈ vs) : L2.wipe σ' vs = L2.wipe σ vs := by
  refine List.ext_getElem? fun i => ?_
  by_cases hi : i ∈ vs
  · by_cases hl : i < σ.length
    · rw [wipe_at σ i vs hi hl, wipe_at σ' i vs hi (by rw [b.1]; exact hl)]
    · rw [List.getElem?_eq_none (by rw [L2.wipe_length, b.1]; omega), List.getElem?_eq_none (by rw [L2.wipe_length]; omega)]
  · rw [wipe_off σ' i vs hi, wipe_off σ i vs hi]
    exact b.2 i fun z => hi (h i z)
theorem wipe_wipe (σ : L2.St) (vs : List Nat) : L2.wipe (L2.wipe σ vs) vs = L2.wipe σ vs := by
  refine List.ext_getElem? fun i => ?_
  by_cases hi : i ∈ vs
  · by_cases hl : i < σ.length
    · rw [wipe_at _ i vs hi (by rw [L2.wipe_length]; exact hl), wipe_at σ i vs hi hl]
    · rw [List.getElem?_eq_none (by rw [L2.wipe_length, L2.wipe_length]; omega), List.getElem?_eq_none (by rw [L2.wipe_length]; omega)]
  · rw [wipe_off _ i vs hi]
section
variable (K : PySem.W.Frag) (bs : BS)
def liftS (t : TS3) : TS := fun D σ H => ∃ τ M D3, RE K H σ τ ∧ RM K bs H M ∧ t D3 τ M ∧
  (∀ σ' τ' H' M', Ext M M' H H' → RE K H' σ' τ' → RM K bs H' M' → D3.nx τ' M' → D.nx σ' H') ∧
  (∀ v d H' M', Ext M M' H H' → RM K bs H' M' → RD K H' v d → D3.rt d M' → D.rt v H') ∧
  (∀ σ' τ' H' M', Ext M M' H H' → RE K H' σ' τ' → RM K bs H' M' → D3.bk τ' M' → D.bk σ' H') ∧
  (∀ σ' τ' H' M', Ext M M' H H' → RE K H' σ' τ' → RM K bs H' M' → D3.ct τ' M' → D.ct σ' H')
def liftG (ix : List Nat) (g : TG3) : TG := fun v σ H Q => ∃ d τ M Q3, RD K H v d ∧ RE K H σ τ ∧ RM K bs H M ∧ g d τ M Q3 ∧
  ∀ σ' τ' H' M', Ext M M' H H' → But ix σ σ' → RE K H' σ' τ' → RM K bs H' M' → Q3 τ' M' → Q σ' H'
def liftGs (ix : List Nat) (g : TGs3) : TGs := fun vs σ H Q => ∃ ds τ M Q3, RDs K H vs ds ∧ RE K H σ τ ∧ RM K bs H M ∧ g ds τ M Q3 ∧
  ∀ σ' τ' H' M', Ext M M' H H' → But ix σ σ' → RE K H' σ' τ' → RM K bs H' M' → Q3 τ' M' → Q σ' H'
end
def PS3 (bs : BS) (X : Cx) (st : Stmt) (t : TS3) : Prop := PS X st (liftS X.K bs t)
def PSs3 (bs : BS) (X : Cx) (st : List Stmt) (t : TS3) : Prop := PSs X st (liftS X.K bs t)
def PG3 (bs : BS) (X : Cx) (e : Expr) (ix : List Nat) (g : TG3) : Prop := PG X e (liftG X.K bs ix g)
def PGs3 (bs : BS) (X : Cx) (es : List Expr) (ix : List Nat) (g : TGs3) : Prop := PGs X es (liftGs X.K bs ix g)
section
variable {bs : BS} {X : Cx} {st : Stmt} {sts : List Stmt} {t u : TS3} {e : Expr} {te : TE3} {pos : Pos}
def wNext : TS3 := fun D τ M => D.nx τ M
def wSeq (t u : TS3) : TS3 := fun D τ M => t { D with nx := u D } τ M
theorem ss_nil : PSs3 bs X [] wNext := pss_nil.weak fun D σ H ⟨τ, M, D3, e, m, q, k, _⟩ => k σ τ H M .refl e m q
theorem ss_cons (h1 : PS3 bs X st t) (h2 : PSs3 bs X sts u) : PSs3 bs X (st :: sts) (wSeq t u) := by
  refine PSs.weak (pss_cons h1 h2) ?_
  rintro D σ H ⟨τ, M, D3, e, m, q, kn, kr, kb, kc⟩
  refine ⟨τ, M, _, e, m, q, fun σ' τ' H' M' x e1 m1 q1 => ⟨τ', M', D3, e1, m1, q1, ?_, ?_, ?_, ?_⟩, kr, kb, kc⟩
  · exact fun σ2 τ2 H2 M2 x2 => kn σ2 τ2 H2 M2 (x.trans x2)
  · exact fun v d H2 M2 x2 => kr v d H2 M2 (x.trans x2)
  · exact fun σ2 τ2 H2 M2 x2 => kb σ2 τ2 H2 M2 (x.trans x2)
  · exact fun σ2 τ2 H2 M2 x2 => kc σ2 τ2 H2 M2 (x.trans x2)
theorem ss_one (h1 : PS3 bs X st t) : PSs3 bs X [st] t := pss_one h1
def wBreak : TS3 := fun D τ M => D.bk τ M
def wCont : TS3 := fun D τ M => D.ct τ M
def wDrop (te : TE3) : TS3 := fun D τ M => te τ M fun _ M1 => D.nx τ M1
theorem s_expr (he : PE3 bs X e te) (hs : swapsWith e none pos.line X.env = pure false := by rfl) : PS3 bs X (.Expr e pos) (wDrop te) := by
  refine PS.weak (ps_expr he hs) ?_
  rintro D σ H ⟨τ, M, D3, e, m, q, kn, _⟩
  exact ⟨τ, M, _, e, m, q, fun v H' d M' x m1 r q1 => kn σ τ H' M' x (e.go (x.still m)) m1 q1⟩
def wRet (te : TE3) : TS3 := fun D τ M => te τ M D.rt
theorem s_ret (he : PE3 bs X e te) : PS3 bs X (.Return (some e) pos) (wRet te) := by
  refine PS.weak (ps_ret he) ?_
  rintro D σ H ⟨τ, M, D3, e, m, q, _, kr, _⟩
  exact ⟨τ, M, _, e, m, q, fun v H' d M' x m1 r q1 => kr v d H' M' x m1 r q1⟩
def wRetN : TS3 := fun D _ M => D.rt .non M
def wIfS (c : TT3) (t u : TS3) : TS3 := fun D τ M => c τ M fun b M1 => ite3 b (t D τ M1) (u D τ M1)
theorem s_if {c : Expr} {a b : List Stmt} {tc : TT3} (hc : PT3 bs X c tc) (ha : PSs3 bs X a t) (hb : PSs3 bs X b u) : PS3 bs X (.If c a b pos) (wIfS tc t u) := by
  refine PS.weak (ps_if hc ha hb) ?_
  rintro D σ H ⟨τ, M, D3, e, m, q, kn, kr, kb, kc⟩
  refine ⟨τ, M, _, e, m, q, fun z H1 M1 x m1 q1 => ?_⟩
  have L : ∀ t : TS3, t D3 τ M1 → liftS X.K bs t D σ H1 := fun t q => ⟨τ, M1, D3, e.go (x.still m), m1, q, fun σ2 τ2 H2 M2 x2 => kn σ2 τ2 H2 M2 (x.trans x2), fun v d H2 M2 x2 => kr v d H2 M2 (x.trans x2),
    fun σ2 τ2 H2 M2 x2 => kb σ2 τ2 H2 M2 (x.trans x2), fun σ2 τ2 H2 M2 x2 => kc σ2 τ2 H2 M2 (x.trans x2)⟩
  cases z with
  | true => exact iteT (L t q1)
  | false => exact iteF (L u q1)
def wSet (i : Nat) (te : TE3) : TS3 := fun D τ M => te τ M fun d M1 => D.nx (setS τ i (some d)) M1
theorem lift_set {i : Nat} : ∀ D σ H, liftS X.K bs (wSet i te) D σ H → tAsg (lift X.K bs te) (gName i) D σ H := by
  rintro D σ H ⟨τ, M, D3, e, m, q, kn, _⟩
  exact ⟨τ, M, _, e, m, q, fun v H' d M' x m1 r q1 => kn _ _ H' M' x ((e.go (x.still m)).set r) m1 q1⟩
theorem s_set {i : Nat} {x : Str} {pos' : Pos} (hN : X.N.Nodup) (hi : X.N[i]? = some x) (hx : Loc X.env.scope x) (he : PE3 bs X e te) (hs : swapsWith e (some (.Name x pos')) pos.line X.env = pure false := by rfl)
    (hf : X.fn x = true ∨ X.env.scope.names.lookup x = some .local := by first | exact .inl rfl | exact .inr rfl | assumption) : PS3 bs X (.Assign [.Name x pos'] e pos) (wSet i te) :=
  PS.weak (ps_set hN hi hx he hs hf) lift_set
def wgName (i : Nat) : TG3 := fun d τ M Q => Q (setS τ i (some d)) M
theorem g_name {i : Nat} {x : Str} (hN : X.N.Nodup) (hi : X.N[i]? = some x) (hx : Loc X.env.scope x) (hf : X.fn x = true ∨ X.env.scope.names.lookup x = some .local := by first | exact .inl rfl | exact .inr rfl | assumption) : PG3 bs X (.Name x pos) [i] (wgName i) := by
  refine PG.weak (pg_name hN hi hx hf) ?_
  rintro v σ H Q ⟨d, τ, M, Q3, r, e, m, q, k⟩
  exact k _ _ H M .refl ⟨List.length_set, fun j hj => List.getElem?_set_ne (fun z => hj (by simp [z]))⟩ (e.set r) m q
def wgNil : TGs3 := fun ds τ M Q => match ds with
  | [] => Q τ M
  | _ => False
def wgCons (t : TG3) (u : TGs3) : TGs3 := fun ds τ M Q => match ds with
  | d :: r => t d τ M fun τ' M' => u r τ' M' Q
  | [] => False
theorem gs_nil : PGs3 bs X [] [] wgNil := by
  refine PGs.weak pgs_nil ?_
  rintro vs σ H Q ⟨ds, τ, M, Q3, r, e, m, q, k⟩
  cases ds with
  | nil => cases r; exact ⟨rfl, k _ _ H M .refl .refl e m q⟩
  | cons _ _ => exact False.elim q
theorem gs_cons {g : Expr} {gs : List Expr} {ix iy : List Nat} {t : TG3} {u : TGs3} (h1 : PG3 bs X g ix t) (h2 : PGs3 bs X gs iy u)
    (hs : (assignEach (g :: gs) X.env).map (·.2) = assign g X.env :: (assignEach gs X.env).map (·.2) := by rfl) : PGs3 bs X (g :: gs) (ix ++ iy) (wgCons t u) := by
  refine PGs.weak (pgs_cons h1 h2 hs) ?_
  rintro vs σ H Q ⟨ds, τ, M, Q3, r, e, m, q, k⟩
  cases ds with
  | nil => exact False.elim q
  | cons d ds =>
    cases r with
    | cons r1 r2 =>
      refine ⟨_, _, rfl, d, τ, M, _, r1, e, m, q, fun σ1 τ1 H1 M1 x b e1 m1 q1 => ?_⟩
      exact ⟨ds, τ1, M1, Q3, r2.go (x.still m), e1, m1, q1, fun σ2 τ2 H2 M2 x2 b2 e2 m2 q2 =>
        k σ2 τ2 H2 M2 (x.trans x2) ((b.more fun i h => List.mem_append_left _ h).trans (b2.more fun i h => List.mem_append_right _ h)) e2 m2 q2⟩
/-- (a, b, ..) = a tuple; ds of that length is what t asks -/
theorem g_tup {es : List Expr} {k n : Nat} {ix : List Nat} {t : TGs3} (hc : X.calm = true) (h : PGs3 bs X es ix t)
    (hn : (assignEach es X.env).length = n := by rfl) (hst : (assignEach es X.env).findIdx? (·.1) = none := by rfl) : PG3 bs X (.Tuple es k pos) ix (fun d τ M Q => match d with
      | .tup ds => ds.length = n ∧ t ds τ M Q
      | _ => False) := by
  refine PG.weak (pg_tup hc h hn hst) ?_
  rintro v σ H Q ⟨d, τ, M, Q3, r, e, m, q, k⟩
  cases d with
  | tup ds =>
    cases r with
    | tup h1 h2 => exact ⟨_, _, rfl, h1, by rw [h2.length]; exact q.1, ds, τ, M, Q3, h2, e, m, q.2, k⟩
  | _ => exact False.elim q
/-- o[i] = v by values -/
abbrev TSet3 := D → D → D → Mp → (Mp → Prop) → Prop
def liftSet (K : PySem.W.Frag) (bs : BS) (t : TSet3) : TSet := fun o i v H Q => ∃ do_ di dv M Q3, RD K H o do_ ∧ RD K H i di ∧ RD K H v dv ∧ RM K bs H M ∧ t do_ di dv M Q3 ∧ ∀ H' M', Ext M M' H H' → RM K bs H' M' → Q3 M' → Q H'
theorem PSet.weak {t t' : TSet} (h : PSet X t) (i : ∀ o i v H Q, t' o i v H Q → t o i v H Q) : PSet X t' := fun pins s σ H o j v ov iv u Q I r1 r2 r3 q => h pins s σ H o j v ov iv u Q I r1 r2 r3 (i o j v H Q q)
def wgSub (to ti : TE3) (t : TSet3) : TG3 := fun d τ M Q => to τ M fun o M1 => ti τ M1 fun i M2 => t o i d M2 fun M3 => Q τ M3
theorem g_sub {o i : Expr} {to ti : TE3} {t : TSet3} (ho : PE3 bs X o to) (hi : PE3 bs X i ti) (hs : PSet X (liftSet X.K bs t))
    (ha : ∀ v, assign (.Subscript o i pos) X.env v = (do
      let ov ← holding [v] (eval o X.env)
      let iv ← holding [v, ov] (eval i X.env)
      standAt pos
      holding [v, ov, iv] (setItem ov iv v)
      release [v, ov, iv] []) := by intro _; rfl) : PG3 bs X (.Subscript o i pos) [] (wgSub to ti t) := by
  refine PG.weak (pg_sub ho hi hs ha) ?_
  rintro v σ H Q ⟨d, τ, M, Q3, r, e, m, q, k⟩
  refine ⟨τ, M, _, e, m, q, fun ov H1 od M1 x1 m1 r1 q1 => ⟨τ, M1, _, e.go (x1.still m), m1, q1, fun iv H2 id M2 x2 m2 r2 q2 => ?_⟩⟩
  exact ⟨od, id, d, M2, _, r1.go (x2.still m1), r2, (r.go (x1.still m)).go (x2.still m1), m2, q2, fun H3 M3 x3 m3 q3 =>
    k σ τ H3 M3 (x1.trans (x2.trans x3)) .refl (((e.go (x1.still m)).go (x2.still m1)).go (x3.still m2)) m3 q3⟩
def wAsg (te : TE3) (g : TG3) : TS3 := fun D τ M => te τ M fun d M1 => g d τ M1 D.nx
theorem s_asg {tg : Expr} {g : TG3} {ix : List Nat} (he : PE3 bs X e te) (hg : PG3 bs X tg ix g) (hs : swapsWithSole [tg] e pos.line X.env = pure false := by rfl) (hw : swappedStores [tg] e X.env = pure none := by rfl)
    (h1 : (assignEach [tg] X.env).map (·.2) = [assign tg X.env] := by rfl) : PS3 bs X (.Assign [tg] e pos) (wAsg te g) := by
  refine PS.weak (ps_asg he hg hs hw h1) ?_
  rintro D σ H ⟨τ, M, D3, e, m, q, kn, _⟩
  refine ⟨τ, M, _, e, m, q, fun v H1 d M1 x m1 r q1 => ?_⟩
  exact ⟨d, τ, M1, D3.nx, r, e.go (x.still m), m1, q1, fun σ2 τ2 H2 M2 x2 _ e2 m2 q2 => kn σ2 τ2 H2 M2 (x.trans x2) e2 m2 q2⟩
/-- a, b = x, y of plain local names -/
def wPar (i j : Nat) (ta : TA3) : TS3 := fun D τ M => ta τ M fun ds M1 => match ds with
  | [d, e] => D.nx (setS (setS τ i (some d)) j (some e)) M1
  | _ => False
end
structure ItOk (K : PySem.W.Frag) (J : It) (P : Hp → Prop) (G : Mp → Prop) (ds : List D) : Prop where
  mono : ∀ M M' H H', RM0 K H M → Ext M M' H H' → P H → P H'
  stop : ∀ H M, RM0 K H M → P H → G M → J.stop ds.length H
  go : ∀ i d H M, RM0 K H M → P H → G M → ds[i]? = some d → J.go i H ∧ ∀ x H', J.yld i H x H' → Ext M M H H' ∧ RM0 K H' M ∧ RD K H' x d
abbrev TI3 := St3 → Mp → (List D → (Mp → Prop) → Mp → Prop) → Prop
def liftI (K : PySem.W.Frag) (bs : BS) (w : TI3) : TI := fun σ H R => ∃ τ M R3, RE K H σ τ ∧ RM K bs H M ∧ w τ M R3 ∧
  ∀ J P G ds H' M', Ext M M' H H' → RM K bs H' M' → ItOk K J P G ds → P H' → R3 ds G M' → R J H'
def PI3 (bs : BS) (X : Cx) (tg e : Expr) (w : TI3) : Prop := PI X tg e (liftI X.K bs w)
/-- a loop over ds -/
def forW (G : Mp → Prop) (g : TG3) (tb : TS3) (E : Ends3) : List D → St3 → Mp → Prop
  | [], τ, M => G M ∧ E.nx τ M
  | d :: r, τ, M => G M ∧ g d τ M fun τ2 M2 => tb { E with nx := forW G g tb E r, ct := forW G g tb E r, bk := E.nx } τ2 M2
def wFor (wi : TI3) (g : TG3) (tb : TS3) : TS3 := fun E τ M => wi τ M fun ds G M1 => forW G g tb E ds τ M1
section
variable {bs : BS} {X : Cx} {tg iter : Expr} {body : List Stmt} {wi : TI3} {g : TG3} {tb : TS3} {ix : List Nat} {pos : Pos}
theorem s_for (hp : PassesOwn (model X.prog X.w) X.A X.env X.xe) (hc : X.calm = true) (hi : PI3 bs X tg iter wi) (hg : PG3 bs X tg ix g) (hb : PSs3 bs X body tb)
    (hs : ∀ x, foldedSetIterable iter X.env x = pure x := by intro _; rfl) : PS3 bs X (.For tg iter body [] pos) (wFor wi g tb) := by
  refine PS.weak (ps_for hp hc hi hg hb hs) ?_
  rintro E σ H ⟨τ, M, D3, e, m, q, kn, kr, kb, kc⟩
  refine ⟨τ, M, _, e, m, q, fun J P G ds H1 M1 x1 m1 it p1 q1 => ?_⟩
  refine ⟨fun i mm σ' H' => mm = ds.length - i ∧ i ≤ ds.length ∧ P H' ∧ ∃ τ' M', RE X.K H' σ' τ' ∧ RM X.K bs H' M' ∧ Ext M M' H H' ∧ forW G g tb D3 (ds.drop i) τ' M', ?_, ?_⟩
  · exact ⟨ds.length, by simp, Nat.zero_le _, p1, τ, M1, e.go (x1.still m), m1, x1, by simpa using q1⟩
  · rintro i mm σ2 H2 ⟨rfl, hi', p2, τ2, M2, e2, m2, x2, q2⟩
    by_cases hlt : i < ds.length
    · right
      have hd : ds[i]? = some ds[i] := List.getElem?_eq_getElem hlt
      rw [List.drop_eq_getElem_cons hlt] at q2
      obtain ⟨g2, q2⟩ := q2
      obtain ⟨go, yl⟩ := it.go i ds[i] H2 M2 m2.m p2 g2 hd
      refine ⟨go, fun σ' H' => P H' ∧ ∃ τ' M', RE X.K H' σ' τ' ∧ RM X.K bs H' M' ∧ Ext M M' H H' ∧ forW G g tb D3 (ds.drop (i + 1)) τ' M', fun σ' H' h => ?_, fun x H3 y => ?_⟩
      · exact ⟨ds.length - (i + 1), by omega, rfl, hlt, h⟩
      · obtain ⟨x3, m30, r3⟩ := yl x H3 y
        have m3 := m2.to x3 m30
        have p3 := it.mono M2 M2 H2 H3 m2.m x3 p2
        refine ⟨ds[i], τ2, M2, _, r3, e2.go (x3.still m2), m3, q2, fun σ4 τ4 H4 M4 x4 b4 e4 m4 q4 => ?_⟩
        have p4 := it.mono M2 M4 H3 H4 m3.m x4 p3
        have x24 : Ext M M4 H H4 := x2.trans (x3.trans x4)
        refine ⟨τ4, M4, _, e4, m4, q4, fun σ5 τ5 H5 M5 x5 e5 m5 q5 => ?_, fun v d H5 M5 x5 m5 r5 q5 => kr v d H5 M5 (x24.trans x5) m5 r5 q5, fun σ5 τ5 H5 M5 x5 e5 m5 q5 => kn σ5 τ5 H5 M5 (x24.trans x5) e5 m5 q5, fun σ5 τ5 H5 M5 x5 e5 m5 q5 => ?_⟩
        · exact ⟨it.mono M4 M5 H4 H5 m4.m x5 p4, τ5, M5, e5, m5, x24.trans x5, q5⟩
        · exact ⟨it.mono M4 M5 H4 H5 m4.m x5 p4, τ5, M5, e5, m5, x24.trans x5, q5⟩
    · left
      have ei : i = ds.length := by omega
      subst ei
      rw [List.drop_length] at q2
      obtain ⟨g2, q2⟩ := q2
      exact ⟨it.stop H2 M2 m2.m p2 g2, kn σ2 τ2 H2 M2 x2 e2 m2 q2⟩
end
def whileW (c : TT3) (tb : TS3) (E : Ends3) : Nat → St3 → Mp → Prop
  | 0, _, _ => False
  | n + 1, τ, M => c τ M fun b M1 => ite3 b (tb { E with nx := whileW c tb E n, ct := whileW c tb E n, bk := E.nx } τ M1) (E.nx τ M1)
def wWhile (c : TT3) (tb : TS3) : TS3 := fun E τ M => ∃ n, whileW c tb E n τ M
section
variable {bs : BS} {X : Cx} {c : Expr} {body : List Stmt} {tc : TT3} {tb : TS3} {pos : Pos}
theorem s_while (hp : PassesOwn (model X.prog X.w) X.A X.env X.xe) (hc : PT3 bs X c tc) (hb : PSs3 bs X body tb) : PS3 bs X (.While c body [] pos) (wWhile tc tb) := by
  refine PS.weak (ps_while hp hc hb) ?_
  rintro E σ H ⟨τ, M, D3, e, m, ⟨n, q⟩, kn, kr, kb, kc⟩
  refine ⟨fun mm σ H' => ∃ τ' M', RE X.K H' σ τ' ∧ RM X.K bs H' M' ∧ Ext M M' H H' ∧ whileW tc tb D3 mm τ' M', ⟨n, τ, M, e, m, .refl, q⟩, ?_⟩
  rintro mm σ2 H2 ⟨τ2, M2, e2, m2, x2, q2⟩
  cases mm with
  | zero => exact False.elim q2
  | succ mm =>
    refine ⟨τ2, M2, _, e2, m2, q2, fun b H3 M3 x3 m3 q3 => ?_⟩
    cases b with
    | true =>
      refine iteT ⟨fun σ' H' => ∃ τ' M', RE X.K H' σ' τ' ∧ RM X.K bs H' M' ∧ Ext M M' H H' ∧ whileW tc tb D3 mm τ' M', fun σ' H' h => ⟨mm, Nat.lt_succ_self _, h⟩, ?_⟩
      have x23 : Ext M M3 H H3 := x2.trans x3
      exact ⟨τ2, M3, _, e2.go (x3.still m2), m3, q3, fun σ5 τ5 H5 M5 x5 e5 m5 q5 => ⟨τ5, M5, e5, m5, x23.trans x5, q5⟩, fun v d H5 M5 x5 m5 r5 q5 => kr v d H5 M5 (x23.trans x5) m5 r5 q5,
        fun σ5 τ5 H5 M5 x5 e5 m5 q5 => kn σ5 τ5 H5 M5 (x23.trans x5) e5 m5 q5, fun σ5 τ5 H5 M5 x5 e5 m5 q5 => ⟨τ5, M5, e5, m5, x23.trans x5, q5⟩⟩
    | false => exact iteF (kn σ2 τ2 H3 M3 (x2.trans x3) (e2.go (x3.still m2)) m3 q3)
end
/-- the list that comes of ds, from τ with the block's names forgotten -/
def lcW (G : Mp → Prop) (g : TG3) (tt : TT3) (te : TE3) (τ : St3) (Q : List D → Mp → Prop) : List D → List D → Mp → Prop
  | [], acc, M => G M ∧ Q acc M
  | d :: r, acc, M => G M ∧ g d τ M fun τ2 M2 => tt τ2 M2 fun b M3 => ite3 b (te τ2 M3 fun y M4 => acc.length < sizeLine ∧ lcW G g tt te τ Q r (acc ++ [y]) M4) (lcW G g tt te τ Q r acc M3)
def wLcL (wi : TI3) (g : TG3) (tt : TT3) (te : TE3) (vs : List Nat) : St3 → Mp → (List D → Mp → Prop) → Prop := fun τ M Q => wi τ M fun ds G M1 => lcW G g tt te (wipe3 τ vs) Q ds [] M1
def wLc (wi : TI3) (g : TG3) (tt : TT3) (te : TE3) (vs : List Nat) : TE3 := fun τ M Q => wLcL wi g tt te vs τ M fun acc M2 => ∀ p, M2 p = none → Q (.ref p) (mset M2 p (.lst acc))
def PTs3 (bs : BS) (X : Cx) (ifs : List Expr) (t : TT3) : Prop := PTs X ifs (liftT X.K bs t)
def wYes : TT3 := fun _ M Q => Q true M
theorem ts_nil {bs : BS} {X : Cx} : PTs3 bs X [] wYes := ⟨fun pins s σ H Q I ⟨τ, M, Q3, e, m, q, k⟩ => pts_nil.run pins s σ H Q I (k true H M .refl m q)⟩
theorem ts_one {bs : BS} {X : Cx} {c : Expr} {t : TT3} (h : PT3 bs X c t) : PTs3 bs X [c] t := pts_one h
/-- a fresh list at p, not in M -/
structure Fresh (K : PySem.W.Frag) (H : Hp) (M : Mp) (p : Addr) (ds : List D) : Prop where
  free : M p = none
  lst : ∃ vs, H p = some (.lst vs) ∧ RDs K H vs ds
theorem Fresh.go {K : PySem.W.Frag} {H H' : Hp} {M M' : Mp} {p : Addr} {ds : List D} (f : Fresh K H M p ds) (m : RM0 K H M) (x : Ext M M' H H') : Fresh K H' M' p ds := by
  obtain ⟨vs, h, r⟩ := f.lst
  refine ⟨?_, vs, x.fr p _ h f.free, r.go (x.still0 m)⟩
  cases q : M' p with
  | none => rfl
  | some o =>
    rcases x.dom p (by rw [q]; exact fun z => nomatch z) with z | z
    · exact absurd f.free z
    · rw [h] at z; cases z
theorem Fresh.laid {K : PySem.W.Frag} {H : Hp} {M : Mp} {p : Addr} {vs : List V} {ds : List D} (m : RM0 K H M) (hp : H p = none) (r : RDs K H vs ds) : Fresh K (upd H p (.lst vs)) M p ds :=
  ⟨m.free hp, vs, upd_same, r.go ((m.upNew hp).1.still0 m)⟩
/-- it is written, M stays -/
theorem Fresh.put {K : PySem.W.Frag} {H : Hp} {M : Mp} {p : Addr} {ds ds' : List D} {vs : List V} (f : Fresh K H M p ds) (m : RM0 K H M) (r : RDs K H vs ds') : Still K H (upd H p (.lst vs)) ∧ RM0 K (upd H p (.lst vs)) M ∧ Fresh K (upd H p (.lst vs)) M p ds' := by
  obtain ⟨ws, h, _⟩ := f.lst
  have s : Still K H (upd H p (.lst vs)) := by
    refine ⟨fun a xs q => ?_, fun a xs q => ?_⟩
    · rcases q with (q | ⟨o, q⟩) | q
      · exact .inl (.inl (by rw [upd_ne (by intro z; subst z; rw [h] at q; cases q)]; exact q))
      · exact .inl (.inr ⟨o, by rw [upd_ne (by intro z; subst z; rw [h] at q; cases q)]; exact q⟩)
      · exact .inr q
    · rcases q with ⟨o, q⟩ | q
      · exact .inl ⟨o, by rw [upd_ne (by intro z; subst z; rw [h] at q; cases q)]; exact q⟩
      · exact .inr q
  refine ⟨s, fun a o q => (m a o q).go s fun u hu => ?_, f.free, vs, upd_same, r.go s⟩
  rw [upd_ne (ne_m q f.free)]; exact hu
/-- it comes into M -/
theorem Fresh.take {K : PySem.W.Frag} {H : Hp} {M' : Mp} {p : Addr} {ds : List D} (f : Fresh K H M' p ds) (m : RM0 K H M') : RM0 K H (mset M' p (.lst ds)) := by
  intro a o q
  by_cases e : a = p
  · subst e; rw [mset_same] at q; cases q; exact f.lst
  · rw [mset_ne e] at q; exact m a o q
/-- a step that leaves out p: from H (p fresh there) to H' with p's list otherwise -/
theorem ext_but {M M' : Mp} {H H1 : Hp} {p : Addr} (h0 : H p = none) (x : Ext M M' H H1) (o : HO) : Ext M M' H (upd H1 p o) :=
  ⟨fun a u ha hm => by rw [upd_ne (ne_of_none ha h0)]; exact x.fr a u ha hm, x.dom⟩
section
variable {bs : BS} {X : Cx} {elt tg iter : Expr} {ifs : List Expr} {scope : Scope} {own : List (Str × Nat)} {pos : Pos} {wi : TI3} {g : TG3} {tt : TT3} {te : TE3} {ix : List Nat}
theorem lift_lcL (hix : ∀ i ∈ ix, i ∈ own.map (·.2)) : ∀ σ H (Q : VK), (∃ τ M Q3, RE X.K H σ τ ∧ RM X.K bs H M ∧ wLcL wi g tt te (own.map (·.2)) τ M Q3 ∧
      ∀ D H' acc M', Ext M M' H H' → RM X.K bs H' M' → Fresh X.K H' M' D acc → (M D ≠ none ∨ H D = none) → Q3 acc M' → Q (.ref D) H') →
    tLc (liftI X.K bs wi) (liftG X.K bs ix g) (liftT X.K bs tt) (lift X.K bs te) (own.map (·.2)) σ H Q := by
  rintro σ H Q ⟨τ, M, Q3, e, m, q, k⟩
  refine ⟨τ, M, _, e, m, q, fun J P G ds H1 M1 x1 m1 it p1 q1 => ?_⟩
  intro L hL
  refine ⟨fun i mm H' => mm = ds.length - i ∧ i ≤ ds.length ∧ P H' ∧ ∃ M' acc, RM X.K bs H' M' ∧ Ext M1 M' H1 H' ∧ Fresh X.K H' M' L acc ∧ lcW G g tt te (wipe3 τ (own.map (·.2))) Q3 (ds.drop i) acc M', ?_, ?_⟩
  · obtain ⟨x2, m2⟩ := m1.upNew (o := .lst []) hL
    exact ⟨ds.length, by simp, Nat.zero_le _, it.mono M1 M1 H1 _ m1.m x2 p1, M1, [], m2, x2, Fresh.laid m1.m hL .nil, by simpa using q1⟩
  · rintro i mm H2 ⟨rfl, hi', p2, M2, acc, m2, x2, f2, q2⟩
    by_cases hlt : i < ds.length
    · right
      have hd : ds[i]? = some ds[i] := List.getElem?_eq_getElem hlt
      rw [List.drop_eq_getElem_cons hlt] at q2
      obtain ⟨g2, q2⟩ := q2
      obtain ⟨go, yl⟩ := it.go i ds[i] H2 M2 m2.m p2 g2 hd
      refine ⟨go, fun H' => P H' ∧ ∃ M' acc, RM X.K bs H' M' ∧ Ext M1 M' H1 H' ∧ Fresh X.K H' M' L acc ∧ lcW G g tt te (wipe3 τ (own.map (·.2))) Q3 (ds.drop (i + 1)) acc M', fun H' h => ⟨ds.length - (i + 1), by omega, rfl, hlt, h⟩, fun x H3 y => ?_⟩
      obtain ⟨x3, m30, r3⟩ := yl x H3 y
      have m3 := m2.to x3 m30
      have p3 := it.mono M2 M2 H2 H3 m2.m x3 p2
      have f3 := f2.go m2.m x3
      have x13 := x2.trans x3
      have e3 : RE X.K H3 (L2.wipe σ (own.map (·.2))) (wipe3 τ (own.map (·.2))) := (e.go ((x1.still m).trans (x13.still m1))).wipe _
      refine ⟨ds[i], _, M2, _, r3, e3, m3, q2, fun σ4 τ4 H4 M4 x4 b4 e4 m4 q4 => ⟨(b4.wipe hix).trans (wipe_wipe _ _), ?_⟩⟩
      have p4 := it.mono M2 M4 H3 H4 m3.m x4 p3
      have f4 := f3.go m3.m x4
      have x14 := x13.trans x4
      refine ⟨τ4, M4, _, e4, m4, q4, fun b H5 M5 x5 m5 q5 => ?_⟩
      have p5 := it.mono M4 M5 H4 H5 m4.m x5 p4
      have f5 := f4.go m4.m x5
      have x15 := x14.trans x5
      cases b with
      | false => exact iteF ⟨p5, M5, acc, m5, x15, f5, q5⟩
      | true =>
        refine iteT ⟨τ4, M5, _, e4.go (x5.still m4), m5, q5, fun z H6 dz M6 x6 m6 r6 q6 => ?_⟩
        have f6 := f5.go m5.m x6
        have x16 := x15.trans x6
        obtain ⟨vs, hv, rv⟩ := f6.lst
        obtain ⟨s7, m7, f7⟩ := f6.put (vs := vs ++ [z]) m6.m (rv.app (.cons r6 .nil))
        have x17 : Ext M1 M6 H1 (upd H6 L (.lst (vs ++ [z]))) := ext_but hL x16 _
        have m7 := m1.to x17 m7
        refine ⟨vs, hv, by rw [rv.length]; exact q6.1, it.mono M1 M6 H1 _ m1.m x17 p1, M6, acc ++ [dz], m7, x17, f7, q6.2⟩
    · left
      have ei : i = ds.length := by omega
      subst ei
      rw [List.drop_length] at q2
      obtain ⟨g2, q2⟩ := q2
      refine ⟨it.stop H2 M2 m2.m p2 g2, k L H2 acc M2 (x1.trans x2) m2 f2 ?_ q2⟩
      cases z : H L with
      | none => exact .inr rfl
      | some o =>
        left
        intro zm
        rw [x1.fr L o z zm] at hL; cases hL
/-- as a value -/
theorem lift_lc (hix : ∀ i ∈ ix, i ∈ own.map (·.2)) : ∀ σ H (Q : VK), lift X.K bs (wLc wi g tt te (own.map (·.2))) σ H Q → tLc (liftI X.K bs wi) (liftG X.K bs ix g) (liftT X.K bs tt) (lift X.K bs te) (own.map (·.2)) σ H Q := by
  rintro σ H Q ⟨τ, M, Q3, e, m, q, k⟩
  refine lift_lcL hix σ H Q ⟨τ, M, _, e, m, q, fun L H' acc M' x m' f z q' => ?_⟩
  have y : Ext M (mset M' L (.lst acc)) H H' := ⟨x.fr, fun a h => by
    by_cases ea : a = L
    · subst ea; exact z
    · rw [mset_ne ea] at h; exact x.dom a h⟩
  exact k (.ref L) H' (.ref L) (mset M' L (.lst acc)) y (m.to y (f.take m'.m)) (.ref L) (q' L f.free)
/-- given to a name -/
theorem s_setLc (hix : ∀ i ∈ ix, i ∈ own.map (·.2)) {i : Nat} {y : Str} {py spos : Pos} (hc : X.calm = true) (hN : X.N.Nodup) (hy : X.N[i]? = some y) (hyl : X.env.scope.names.lookup y = some .local)
    (hsw : swapsWith (.ListComp elt [⟨tg, iter, ifs, 0⟩] scope pos) (some (.Name y py)) spos.line X.env = pure true) (hi : PI3 bs X tg iter wi) (ok : BlkOk X.N X.env.scope scope own)
    (hg : ∀ (s : Shared) (H : Hp) (C : Addr) (cl : List (Str × Addr)) (fp : List Addr), PG3 bs (X.blk s H scope (compEnvC scope cl C X.env) fp) tg ix g)
    (ht : ∀ (s : Shared) (H : Hp) (C : Addr) (cl : List (Str × Addr)) (fp : List Addr), PTs3 bs (X.blk s H scope (compEnvC scope cl C X.env) fp) ifs tt)
    (he : ∀ (s : Shared) (H : Hp) (C : Addr) (cl : List (Str × Addr)) (fp : List Addr), PE3 bs (X.blk s H scope (compEnvC scope cl C X.env) fp) elt te) (hs : ∀ x, foldedSetIterable iter X.env x = pure x := by intro _; rfl) :
    PS3 bs X (.Assign [.Name y py] (.ListComp elt [⟨tg, iter, ifs, 0⟩] scope pos) spos) (wSet i (wLc wi g tt te (own.map (·.2)))) := by
  refine PS.weak (ps_setLc (g := liftG X.K bs ix g) (tt := liftT X.K bs tt) (te := lift X.K bs te) hc hN hy hyl hsw hi ok hg ht he hs) ?_
  rintro D σ H ⟨τ, M, D3, e, m, q, kn, _⟩
  refine lift_lc hix σ H _ ⟨τ, M, _, e, m, q, fun v H' d M' x m1 r q1 => ?_⟩
  exact kn _ _ H' M' x ((e.go (x.still m)).set r) m1 q1
end
end L3
set_option Elab.async false
set_option linter.all false
set_option maxRecDepth 100000
set_option maxHeartbeats 4000000
namespace L3
open PySem PySem.Spec PyProof.Rows L2
section
variable {bs : BS} {X : Cx}
/-- from a rule by values to a rule by data -/
theorem op3 {f : Value → Value → Sem Value} {r : R23} (h : ∀ (d e : D) (x y : V) (H : Hp) (M : Mp) (Q : VK) (Q3 : VK3), RD X.K H x d → RD X.K H y e → RM X.K bs H M → r d e M Q3 →
    (∀ v H' z M', Ext M M' H H' → RM X.K bs H' M' → RD X.K H' v z → Q3 z M' → Q v H') → ∃ r2 : R2, OpR X f r2 ∧ r2 x y H Q) : OpR X f (lift2 X.K bs r) := by
  rintro pins s σ H x y v u Q I rx ry ⟨d, e, M, Q3, r1, r2, m, q, k⟩
  obtain ⟨rr, ho, hq⟩ := h d e x y H M Q Q3 r1 r2 m q k
  exact ho pins s σ H x y v u Q I rx ry hq
theorem call3 {f : Value} {r : List D → Mp → VK3 → Prop} (h : ∀ (ds : List D) (xs : List V) (H : Hp) (M : Mp) (Q : VK) (Q3 : VK3), RDs X.K H xs ds → RM X.K bs H M → r ds M Q3 →
    (∀ v H' z M', Ext M M' H H' → RM X.K bs H' M' → RD X.K H' v z → Q3 z M' → Q v H') → ∃ r2 : List V → Hp → VK → Prop, CallR X f r2 ∧ r2 xs H Q) : CallR X f (liftV X.K bs r) := by
  rintro pins s σ H xs us Q I rx ⟨ds, M, Q3, r1, m, q, k⟩
  obtain ⟨rr, ho, hq⟩ := h ds xs H M Q Q3 r1 m q k
  exact ho pins s σ H xs us Q I rx hq
def oAdd : R23 := fun d e M Q => match d, e with
  | .int i, .int j => Q (.int (i + j)) M
  | .str x, .str y => x.length + y.length ≤ sizeLine ∧ Q (.str (x ++ y)) M
  | .tup xs, .tup ys => xs.length + ys.length ≤ sizeLine ∧ Q (.tup (xs ++ ys)) M
  | .ref a, .ref b => match M a, M b with
    | some (.lst xs), some (.lst ys) => xs.length + ys.length ≤ sizeLine ∧ ∀ p, M p = none → Q (.ref p) (mset M p (.lst (xs ++ ys)))
    | _, _ => False
  | _, _ => False
theorem o_add : OpR X (binaryOp .Add) (lift2 X.K bs oAdd) := op3 fun d e x y H M Q Q3 r1 r2 m q k => by
  cases d with
  | int i =>
    cases e with
    | int j => cases r1; cases r2; exact ⟨_, op_add, _, _, rfl, rfl, k _ _ _ M .refl m (.int _) q⟩
    | _ => exact False.elim q
  | str i =>
    cases e with
    | str j => cases r1; cases r2; exact ⟨_, op_add_str, _, _, rfl, rfl, q.1, k _ _ _ M .refl m (.str _) q.2⟩
    | _ => exact False.elim q
  | tup xs =>
    cases e with
    | tup ys =>
      cases r1 with
      | tup h1 l1 =>
        cases r2 with
        | tup h2 l2 =>
          refine ⟨_, op_catA, _, _, _, _, rfl, rfl, h1, h2, by rw [l1.length, l2.length]; exact q.1, fun e => ?_, fun _ e => ?_, fun _ _ p hp => ?_⟩
          · subst e; cases l1; exact k _ _ _ M .refl m (.tup h2 l2) q.2
          · subst e; cases l2
            have q' : xs.length + 0 ≤ sizeLine ∧ Q3 (.tup (xs ++ [])) M := q
            rw [List.append_nil] at q'
            exact k _ _ _ M .refl m (.tup h1 l1) q'.2
          · obtain ⟨x2, m2⟩ := m.upNew (o := .tup _) hp
            exact k _ _ _ M x2 m2 (.tup (SqT.of upd_same) ((l1.app l2).go (x2.still m))) q.2
    | _ => exact False.elim q
  | ref a =>
    cases e with
    | ref b =>
      cases r1; cases r2
      simp only [oAdd] at q
      split at q
      · rename_i xs ys ha hb
        obtain ⟨vs, hv, l1⟩ := m.at ha
        obtain ⟨ws, hw, l2⟩ := m.at hb
        refine ⟨_, op_cat, _, _, _, _, rfl, rfl, hv, hw, by rw [l1.length, l2.length]; exact q.1, fun p hp => ?_⟩
        obtain ⟨x2, m2⟩ := m.newL hp (l1.app l2)
        exact k _ _ _ _ x2 m2 (.ref p) (q.2 p (m.free hp))
      · exact False.elim q
    | _ => exact False.elim q
  | _ => cases e <;> exact False.elim q
def oInt (C : Int → Int → Prop) (g : Int → Int → Int) : R23 := fun d e M Q => asI d fun i => asI e fun j => C i j ∧ Q (.int (g i j)) M
theorem o_int {f : Value → Value → Sem Value} {C : Int → Int → Prop} {g : Int → Int → Int} (h : OpR X f (rI C fun i j => .int (g i j))) : OpR X f (lift2 X.K bs (oInt C g)) := op3 fun d e x y H M Q Q3 r1 r2 m q k => by
  cases d with
  | int i =>
    cases e with
    | int j => cases r1; cases r2; exact ⟨_, h, _, _, rfl, rfl, q.1, k _ _ _ M .refl m (.int _) q.2⟩
    | _ => exact False.elim q
  | _ => cases e <;> exact False.elim q
def oSub : R23 := fun d e M Q => asI d fun i => asI e fun j => Q (.int (i - j)) M
theorem o_sub : OpR X (binaryOp .Sub) (lift2 X.K bs oSub) := op3 fun d e x y H M Q Q3 r1 r2 m q k => by
  cases d with
  | int i =>
    cases e with
    | int j => cases r1; cases r2; exact ⟨_, op_sub, _, _, rfl, rfl, k _ _ _ M .refl m (.int _) q⟩
    | _ => exact False.elim q
  | _ => cases e <;> exact False.elim q
/-- // by a positive divisor below 2 ^ 9000, or by a small one of any sign -/
def CFd (i j : Int) : Prop := j ≠ 0 ∧ j.natAbs.log2 < 9000
theorem op_fd : OpR X (binaryOp .FloorDiv) (rI CFd fun i j => .int (i.fdiv j)) := opI fun i j _ _ _ _ _ hc q => floordiv_int hc.1 q (.inl (PyProof.noPylong_of_log2 hc.2))
theorem op_ml : OpR X (binaryOp .Mult) (rI IntMulOk fun i j => .int (i * j)) := opI fun _ _ _ _ _ _ _ hc q => mul_int q hc
def oFd : R23 := oInt CFd fun i j => i.fdiv j
def oMd : R23 := oInt (fun _ j => j ≠ 0) fun i j => i.fmod j
def oPw : R23 := oInt CPow fun i j => i ^ j.toNat
def oShl : R23 := oInt CPow fun i j => i * 2 ^ j.toNat
theorem o_fd : OpR X (binaryOp .FloorDiv) (lift2 X.K bs oFd) := o_int op_fd
theorem o_md : OpR X (binaryOp .Mod) (lift2 X.K bs oMd) := o_int op_modN
theorem o_pw : OpR X (binaryOp .Pow) (lift2 X.K bs oPw) := o_int op_pow
def oMul : R23 := fun d e M Q => match d, e with
  | .int i, .int j => IntMulOk i j ∧ Q (.int (i * j)) M
  | .ref a, .int k => match M a with
    | some (.lst xs) => (-(2 ^ 63) ≤ k ∧ k < 2 ^ 63 ∧ xs.length * k.toNat ≤ sizeLine) ∧ ∀ p, M p = none → Q (.ref p) (mset M p (.lst (List.replicate k.toNat xs).flatten))
    | _ => False
  | _, _ => False
theorem RDs.rep {K : PySem.W.Frag} {H : Hp} {vs : List V} {ds : List D} (h : RDs K H vs ds) : ∀ k : Nat, RDs K H (List.replicate k vs).flatten (List.replicate k ds).flatten
  | 0 => .nil
  | k + 1 => by
    rw [List.replicate_succ, List.replicate_succ, List.flatten_cons, List.flatten_cons]
    exact h.app (RDs.rep h k)
theorem o_mul : OpR X (binaryOp .Mult) (lift2 X.K bs oMul) := op3 fun d e x y H M Q Q3 r1 r2 m q k => by
  cases d with
  | int i =>
    cases e with
    | int j => cases r1; cases r2; exact ⟨_, op_ml, _, _, rfl, rfl, q.1, k _ _ _ M .refl m (.int _) q.2⟩
    | _ => exact False.elim q
  | ref a =>
    cases e with
    | int j =>
      cases r1; cases r2
      simp only [oMul] at q
      split at q
      · rename_i xs ha
        obtain ⟨vs, hv, l1⟩ := m.at ha
        refine ⟨_, op_rep, _, _, _, rfl, rfl, hv, q.1.1, q.1.2.1, by rw [l1.length]; exact q.1.2.2, fun p hp => ?_⟩
        obtain ⟨x2, m2⟩ := m.newL hp (l1.rep j.toNat)
        exact k _ _ _ _ x2 m2 (.ref p) (q.2 p (m.free hp))
      · exact False.elim q
    | _ => exact False.elim q
  | _ => cases e <;> exact False.elim q
def oNeg : D → Mp → VK3 → Prop := fun d M Q => asI d fun i => Q (.int (-i)) M
def wUn (r : D → Mp → VK3 → Prop) (ta : TE3) : TE3 := fun τ M Q => ta τ M fun x M1 => r x M1 Q
theorem e_neg {a : Expr} {ta : TE3} {pos : Pos} (ha : PE3 bs X a ta) : PE3 bs X (.UnaryOp .USub a pos) (wUn oNeg ta) := by
  refine PE.weak (pe_un un_neg ha) ?_
  rintro σ H Q ⟨τ, M, Q3, e, m, q, k⟩
  refine ⟨τ, M, _, e, m, q, fun x H1 d M1 x1 m1 r1 q1 => ?_⟩
  cases d with
  | int i => cases r1; exact ⟨i, rfl, k _ H1 _ M1 x1 m1 (.int _) q1⟩
  | _ => exact False.elim q1
def oCmp (p : Int → Int → Bool) : R23 := fun d e M Q => asI d fun i => asI e fun j => Q (.bl (p i j)) M
theorem o_cmp {f : Value → Value → Sem Value} {p : Int → Int → Bool} (h : OpR X f (rI0 fun i j => .bl (p i j))) : OpR X f (lift2 X.K bs (oCmp p)) := op3 fun d e x y H M Q Q3 r1 r2 m q k => by
  cases d with
  | int i =>
    cases e with
    | int j => cases r1; cases r2; exact ⟨_, h, _, _, rfl, rfl, k _ _ _ M .refl m (.bl _) q⟩
    | _ => exact False.elim q
  | _ => cases e <;> exact False.elim q
def oLt : R23 := oCmp fun i j => decide (i < j)
def oLe : R23 := oCmp fun i j => decide (i ≤ j)
def oGt : R23 := oCmp fun i j => decide (j < i)
def oGe : R23 := oCmp fun i j => decide (j ≤ i)
theorem o_lt : OpR X (compareOp .Lt) (lift2 X.K bs oLt) := o_cmp op_lt
theorem o_le : OpR X (compareOp .LtE) (lift2 X.K bs oLe) := o_cmp op_le
theorem o_gt : OpR X (compareOp .Gt) (lift2 X.K bs oGt) := o_cmp op_gt
theorem o_ge : OpR X (compareOp .GtE) (lift2 X.K bs oGe) := o_cmp op_ge
/-- is None -/
def isN : D → Bool
  | .non => true
  | _ => false
def oIsN (neg : Bool) : R23 := fun d e M Q => match e with
  | .non => Q (.bl (if neg then !isN d else isN d)) M
  | _ => False
theorem isN_of {K : PySem.W.Frag} {H : Hp} {v : V} {d : D} (r : RD K H v d) : decide (v = .non) = isN d := by
  cases r <;> simp [isN]
theorem o_is : OpR X (compareOp .Is) (lift2 X.K bs (oIsN false)) := op3 fun d e x y H M Q Q3 r1 r2 m q k => by
  cases e with
  | non => cases r2; exact ⟨_, op_isN, rfl, k _ _ _ M .refl m (.bl _) (by rw [isN_of r1]; exact q)⟩
  | _ => exact False.elim q
theorem o_isnot : OpR X (compareOp .IsNot) (lift2 X.K bs (oIsN true)) := op3 fun d e x y H M Q Q3 r1 r2 m q k => by
  cases e with
  | non => cases r2; exact ⟨_, op_notN, rfl, k _ _ _ M .refl m (.bl _) (by rw [isN_of r1]; exact q)⟩
  | _ => exact False.elim q
mutual
def pdOf : D → PyData
  | .non => .none
  | .bl b => .bool b
  | .int i => .int i
  | .str x => .str x
  | .tup xs => .tuple (pdsOf xs)
  | .rol xs => .list (pdsOf xs)
  | .ref _ => .none
  | .ty _ => .none
def pdsOf : List D → List PyData
  | [] => []
  | d :: ds => pdOf d :: pdsOf ds
end
mutual
/-- no addresses within, texts that are texts -/
def plain : D → Bool
  | .non => true
  | .bl _ => true
  | .int _ => true
  | .str x => PyData.strOk x
  | .tup xs => plains xs
  | .rol xs => plains xs
  | .ref _ => false
  | .ty _ => false
def plains : List D → Bool
  | [] => true
  | d :: ds => plain d && plains ds
end
mutual
def deep : D → Nat
  | .tup xs => deeps xs + 1
  | .rol xs => deeps xs + 1
  | _ => 0
def deeps : List D → Nat
  | [] => 0
  | d :: ds => max (deep d) (deeps ds)
end
mutual
theorem depth_pd : ∀ d : D, (pdOf d).depth = deep d
  | .non => by simp [pdOf, deep, PyData.depth]
  | .bl _ => by simp [pdOf, deep, PyData.depth]
  | .int _ => by simp [pdOf, deep, PyData.depth]
  | .str _ => by simp [pdOf, deep, PyData.depth]
  | .ref _ => by simp [pdOf, deep, PyData.depth]
  | .ty _ => by simp [pdOf, deep, PyData.depth]
  | .tup xs => by simp [pdOf, deep, PyData.depth, depth_pds xs]
  | .rol xs => by simp [pdOf, deep, PyData.depth, depth_pds xs]
theorem depth_pds : ∀ ds : List D, PyData.depthAll (pdsOf ds) = deeps ds
  | [] => by simp [pdsOf, deeps, PyData.depthAll]
  | d :: ds => by simp [pdsOf, deeps, PyData.depthAll, depth_pd d, depth_pds ds]
end
mutual
theorem canLay_pd : ∀ d : D, plain d = true → (pdOf d).canLay0 = true
  | .non, _ => by simp [pdOf, PyData.canLay0]
  | .bl _, _ => by simp [pdOf, PyData.canLay0]
  | .int _, _ => by simp [pdOf, PyData.canLay0]
  | .str _, h => by simpa [pdOf, PyData.canLay0, plain] using h
  | .ref _, h => by simp [plain] at h
  | .ty _, h => by simp [plain] at h
  | .tup xs, h => by simpa [pdOf, PyData.canLay0] using canLay_pds xs (by simpa [plain] using h)
  | .rol xs, h => by simpa [pdOf, PyData.canLay0] using canLay_pds xs (by simpa [plain] using h)
theorem canLay_pds : ∀ ds : List D, plains ds = true → PyData.canLayAll0 (pdsOf ds) = true
  | [], _ => by simp [pdsOf, PyData.canLayAll0]
  | d :: ds, h => by
    have h' : plain d = true ∧ plains ds = true := by simpa [plains] using h
    simp [pdsOf, PyData.canLayAll0, canLay_pd d h'.1, canLay_pds ds h'.2]
end
mutual
theorem dp_of {K : PySem.W.Frag} {H : Hp} : ∀ (d : D) (v : V), plain d = true → RD K H v d → Dp K H v (pdOf d)
  | .non, _, _, r => by cases r; simp only [pdOf]; exact .non
  | .bl b, _, _, r => by cases r; simp only [pdOf]; exact .bl b
  | .int i, _, _, r => by cases r; simp only [pdOf]; exact .int i
  | .str x, _, _, r => by cases r; simp only [pdOf]; exact .str x
  | .ref _, _, h, _ => by simp [plain] at h
  | .ty _, _, h, _ => by simp [plain] at h
  | .tup xs, _, h, r => by
    cases r with
    | tup h1 h2 => simp only [pdOf]; exact .tup h1 (dps_of xs _ (by simpa [plain] using h) h2)
  | .rol xs, _, h, r => by
    cases r with
    | rol h1 h2 => simp only [pdOf]; exact .lst h1.sq (dps_of xs _ (by simpa [plain] using h) h2)
theorem dps_of {K : PySem.W.Frag} {H : Hp} : ∀ (ds : List D) (vs : List V), plains ds = true → RDs K H vs ds → DpAll K H vs (pdsOf ds)
  | [], _, _, r => by cases r; simp only [pdsOf]; exact .nil
  | d :: ds, _, h, r => by
    have h' : plain d = true ∧ plains ds = true := by simpa [plains] using h
    cases r with
    | cons r1 r2 => simp only [pdsOf]; exact .cons (dp_of d _ h'.1 r1) (dps_of ds _ h'.2 r2)
end
/-- a list at an address as a list of data -/
def top (M : Mp) : D → D
  | .ref a => match M a with
    | some (.lst ds) => .rol ds
    | _ => .ref a
  | d => d
theorem dp_top {K : PySem.W.Frag} {H : Hp} {M : Mp} {v : V} {d : D} (m : RM0 K H M) (r : RD K H v d) (h : plain (top M d) = true) : Dp K H v (pdOf (top M d)) := by
  cases d with
  | ref a =>
    cases r
    simp only [top] at h ⊢
    split at h
    · rename_i ds ha
      obtain ⟨vs, hv, l⟩ := m a _ ha
      simp only [ha, pdOf]
      exact .lst (SqL.of hv) (dps_of ds vs (by simpa [plain] using h) l)
    · simp [plain] at h
  | _ => exact dp_of _ v h r
/-- data that == and repr take -/
structure Pl (d : D) : Prop where
  p : plain d = true
  d : deep d ≤ 64
def eqD (d e : D) : Bool := PyData.eqv (pdOf d) (pdOf e)
def eqP (neg : Bool) (d e : D) (Q : D → Prop) : Prop := Pl d ∧ Pl e ∧ Q (.bl (if neg then !eqD d e else eqD d e))
def oEq (neg : Bool) : R23 := fun d e M Q => match d with
  | .str x => match e with
    | .str y => Q (.bl (if neg then !decide (x = y) else decide (x = y))) M
    | e => eqP neg (.str x) (top M e) fun z => Q z M
  | d => eqP neg (top M d) (top M e) fun z => Q z M
theorem shaped_pl {d : D} (h : Pl d) : SeqAt.shaped (pdOf d) = true := by
  unfold SeqAt.shaped
  rw [canLay_pd d h.p, depth_pd, decide_eq_true h.d]
  rfl
theorem o_eqG {neg : Bool} {f : Value → Value → Sem Value} {r1 r2 : R2} (h1 : OpR X f r1) (h2 : OpR X f r2)
    (g1 : ∀ x y : V, ∀ H Q, scal x y = true → Q (V.bl (if neg then !decide (x = y) else decide (x = y))) H → r1 x y H Q)
    (g2 : ∀ (x y : V) H (Q : VK) (d e : PyData), Dp X.K H x d → Dp X.K H y e → SeqAt.shaped d = true → SeqAt.shaped e = true → Q (.bl (if neg then !PyData.eqv d e else PyData.eqv d e)) H → r2 x y H Q) : OpR X f (lift2 X.K bs (oEq neg)) := op3 fun d e x y H M Q Q3 w1 w2 m q k => by
  have gen : ∀ d e, RD X.K H x d → RD X.K H y e → eqP neg (top M d) (top M e) (fun z => Q3 z M) → ∃ r, OpR X f r ∧ r x y H Q := fun d e w1 w2 q =>
    ⟨_, h2, g2 _ _ _ _ _ _ (dp_top m.m w1 q.1.p) (dp_top m.m w2 q.2.1.p) (shaped_pl q.1) (shaped_pl q.2.1) (k _ _ _ M .refl m (.bl _) q.2.2)⟩
  cases d with
  | str a =>
    cases e with
    | str b =>
      cases w1; cases w2
      refine ⟨_, h1, g1 _ _ _ _ rfl (k _ _ _ M .refl m (.bl _) ?_)⟩
      have e : decide (V.str a = V.str b) = decide (a = b) := by
        rw [Bool.eq_iff_iff]; simp
      rw [e]
      exact q
    | _ => exact gen _ _ w1 w2 q
  | _ => exact gen _ _ w1 w2 q
theorem o_eq (hu : X.A.units + 64 < cLine) : OpR X (compareOp .Eq) (lift2 X.K bs (oEq false)) := o_eqG op_eq (op_eqD hu) (fun _ _ _ _ hs q => ⟨hs, q⟩) fun _ _ _ _ _ _ a b c d q => ⟨_, _, a, b, c, d, q⟩
theorem o_ne (hu : X.A.units + 64 < cLine) : OpR X (compareOp .NotEq) (lift2 X.K bs (oEq true)) := o_eqG op_ne (op_neD hu) (fun _ _ _ _ hs q => ⟨hs, q⟩) fun _ _ _ _ _ _ a b c d q => ⟨_, _, a, b, c, d, q⟩
def flat : D → Bool
  | .non => true
  | .bl _ => true
  | .int _ => true
  | .str _ => true
  | _ => false
def eqF : D → D → Bool
  | .non, .non => true
  | .bl a, .bl b => a == b
  | .bl a, .int b => (if a then 1 else 0) == b
  | .int a, .bl b => a == (if b then 1 else 0)
  | .int a, .int b => a == b
  | .str a, .str b => a == b
  | _, _ => false
theorem flat_of {K : PySem.W.Frag} {H : Hp} {v : V} {d : D} (r : RD K H v d) (h : flat d = true) : flatV v = true := by
  cases r <;> first | rfl | simp [flat] at h
theorem eqF_of {K : PySem.W.Frag} {H : Hp} {v w : V} {d e : D} (r : RD K H v d) (r2 : RD K H w e) (h : flat d = true) (h2 : flat e = true) : eqV v w = eqF d e := by
  cases r <;> first
    | (simp [flat] at h; done)
    | (cases r2 <;> first | rfl | (simp [flat] at h2; done))
theorem flats_of {K : PySem.W.Frag} {H : Hp} : ∀ {vs : List V} {ds : List D}, RDs K H vs ds → ds.all flat = true → vs.all flatV = true
  | _, _, .nil, _ => rfl
  | _, _, .cons r t, h => by
    rw [List.all_cons, Bool.and_eq_true] at h
    rw [List.all_cons, flat_of r h.1, flats_of t h.2]; rfl
theorem any_of {K : PySem.W.Frag} {H : Hp} {w : V} {e : D} (rw_ : RD K H w e) (he : flat e = true) : ∀ {vs : List V} {ds : List D}, RDs K H vs ds → ds.all flat = true → (vs.any fun y => eqV y w) = ds.any fun y => eqF y e
  | _, _, .nil, _ => rfl
  | _, _, .cons r t, h => by
    rw [List.all_cons, Bool.and_eq_true] at h
    rw [List.any_cons, List.any_cons, eqF_of r rw_ h.1 he, any_of rw_ he t h.2]
/-- the items of a tuple, a list -/
def lstOf : Option MO → Option (List D)
  | some (.lst ds) => some ds
  | _ => none
def items (M : Mp) : D → Option (List D)
  | .tup ds => some ds
  | .rol ds => some ds
  | .ref a => lstOf (M a)
  | _ => none
def asL (o : Option (List D)) (k : List D → Prop) : Prop := match o with
  | some ds => k ds
  | none => False
theorem asL_some {ds : List D} {k : List D → Prop} : asL (some ds) k = k ds := rfl
theorem lstOf_some {o : Option MO} {ds : List D} (h : lstOf o = some ds) : o = some (.lst ds) := by
  unfold lstOf at h
  split at h
  · cases h; rfl
  · cases h
theorem items_of {K : PySem.W.Frag} {H : Hp} {M : Mp} {v : V} {d : D} {ds : List D} (m : RM0 K H M) (r : RD K H v d) (h : items M d = some ds) : ∃ p vs, v = .ref p ∧ (SqL K H p vs ∨ SqT K H p vs) ∧ RDs K H vs ds := by
  cases d with
  | tup es =>
    cases r with
    | tup h1 h2 => cases h; exact ⟨_, _, rfl, .inr h1, h2⟩
  | rol es =>
    cases r with
    | rol h1 h2 => cases h; exact ⟨_, _, rfl, .inl h1.sq, h2⟩
  | ref a =>
    cases r
    obtain ⟨vs, hv, l⟩ := m a _ (lstOf_some h)
    exact ⟨_, _, rfl, .inl (SqL.of hv), l⟩
  | _ => cases h
def oIn (neg : Bool) : R23 := fun d e M Q => asL (items M e) fun ds => flat d = true ∧ ds.all flat = true ∧ Q (.bl (if neg then !(ds.any fun y => eqF y d) else ds.any fun y => eqF y d)) M
theorem o_notin : OpR X (compareOp .NotIn) (lift2 X.K bs (oIn true)) := op3 fun d e x y H M Q Q3 r1 r2 m q k => by
  unfold oIn asL at q
  split at q
  · rename_i ds hd
    obtain ⟨p, vs, rfl, hs, l⟩ := items_of m.m r2 hd
    refine ⟨_, op_notIn_seq, p, vs, rfl, hs, flat_of r1 q.1, flats_of l q.2.1, k _ _ _ M .refl m (.bl _) ?_⟩
    simp only [inV, any_of r1 q.1 l q.2.1]
    exact q.2.2
  · exact False.elim q
theorem atI_rel {K : PySem.W.Frag} {H : Hp} {vs : List V} {ds : List D} {i : Int} {d : D} (l : RDs K H vs ds) (h : atI ds i = some d) : ∃ v, atI vs i = some v ∧ RD K H v d := by
  unfold atI at h ⊢
  rw [l.length]
  cases e : ixN ds.length i with
  | none => rw [e] at h; cases h
  | some j =>
    rw [e] at h
    exact l.get (i := j) h
def oIxS (z : Str) (i : Int) (M : Mp) (Q : VK3) : Prop := match atI z.cps.toList i with
  | some c => z.length ≤ sizeLine ∧ Q (.str ⟨#[c]⟩) M
  | none => False
def oIx : R23 := fun d e M Q => asI e fun i => match d with
  | .str z => oIxS z i M Q
  | d => asL (items M d) fun ds => asS (atI ds i) fun v => Q v M
theorem i_ix : IxR X (lift2 X.K bs oIx) := by
  rintro value slice pins s σ H x y v u Q I rx ry ⟨d, e, M, Q3, r1, r2, m, q, k⟩ hs
  have it : ∀ i, (asL (items M d) fun ds => asS (atI ds i) fun v => Q3 v M) → y = .int i → wpAny (model X.prog X.w) X.A (subscriptTail value slice v u) (EP X pins σ Q) X.xe s := by
    intro i q hy
    unfold asL at q
    split at q
    · rename_i ds hd
      unfold asS at q
      split at q
      · rename_i z hz
        obtain ⟨p, vs, rfl, hq, l⟩ := items_of m.m r1 hd
        obtain ⟨w, hw, rw'⟩ := atI_rel l hz
        refine ix_seq value slice pins s σ H _ y v u Q I rx ry ?_ hs
        rcases hq with hq | hq
        · exact .inl ⟨p, vs, i, w, rfl, hy, hq, hw, k _ _ _ M .refl m rw' q⟩
        · exact .inr (.inl ⟨p, vs, i, w, rfl, hy, hq, hw, k _ _ _ M .refl m rw' q⟩)
      · exact False.elim q
    · exact False.elim q
  cases e with
  | int i =>
    cases r2
    cases d with
    | str z =>
      cases r1
      have q : oIxS z i M Q3 := q
      unfold oIxS at q
      split at q
      · rename_i c hc
        exact ix_seq value slice pins s σ H _ _ v u Q I rx ry (.inr (.inr ⟨z, i, c, rfl, rfl, q.1, hc, k _ _ _ M .refl m (.str _) q.2⟩)) hs
      · exact False.elim q
    | _ => exact it i q rfl
  | _ => exact False.elim q
theorem e_ix {a b : Expr} {ta tb : TE3} {pos : Pos} (ha : PE3 bs X a ta) (hb : PE3 bs X b tb) (hs : PlainIx b := by exact fun _ _ => rfl) : PE3 bs X (.Subscript a b pos) (wOp oIx ta tb) := PE.weak (pe_ix i_ix ha hb hs) lift_op
/-- slices -/
def PO3 (bs : BS) (X : Cx) (e : Option Expr) (t : St3 → Mp → (Option Int → Mp → Prop) → Prop) : Prop := PO X e (fun σ H Q => ∃ τ M Q3, RE X.K H σ τ ∧ RM X.K bs H M ∧ t τ M Q3 ∧ ∀ o H' M', Ext M M' H H' → RM X.K bs H' M' → Q3 o M' → Q o H')
def wNoPart : St3 → Mp → (Option Int → Mp → Prop) → Prop := fun _ M Q => Q none M
def wPart (t : TE3) : St3 → Mp → (Option Int → Mp → Prop) → Prop := fun τ M Q => t τ M fun d M1 => asI d fun i => Q (some i) M1
theorem p_none : PO3 bs X none wNoPart := ⟨fun pins s σ H Q I ⟨τ, M, Q3, e, m, q, k⟩ => po_none.run pins s σ H Q I (k none H M .refl m q)⟩
theorem p_some {e : Expr} {t : TE3} (h : PE3 bs X e t) : PO3 bs X (some e) (wPart t) := by
  refine ⟨fun pins s σ H Q I ⟨τ, M, Q3, e, m, q, k⟩ => (po_some h).run pins s σ H Q I ⟨τ, M, _, e, m, q, fun v H' d M' x m' r q' => ?_⟩⟩
  cases d with
  | int i => cases r; exact ⟨i, rfl, k _ H' M' x m' q'⟩
  | _ => exact False.elim q'
def cutD (xs : List D) (lo hi : Option Int) : List D := (xs.drop (HT.sIx xs.length 0 lo)).take (HT.sIx xs.length xs.length hi - HT.sIx xs.length 0 lo)
def oSl : D → Option Int → Option Int → Mp → VK3 → Prop := fun d lo hi M Q => match d with
  | .tup ds => Q (.tup (cutD ds lo hi)) M
  | .rol ds => ∀ p, M p = none → Q (.ref p) (mset M p (.lst (cutD ds lo hi)))
  | .ref a => match M a with
    | some (.lst ds) => ∀ p, M p = none → Q (.ref p) (mset M p (.lst (cutD ds lo hi)))
    | _ => False
  | _ => False
theorem cut_rel {K : PySem.W.Frag} {H : Hp} {vs : List V} {ds : List D} (l : RDs K H vs ds) (lo hi : Option Int) : RDs K H (cutV vs lo hi) (cutD ds lo hi) := by
  unfold cutV cutD
  rw [l.length]
  exact (l.drop _).take _
theorem cut_whole {ds : List D} {lo hi : Option Int} (h1 : HT.sIx ds.length 0 lo = 0) (h2 : HT.sIx ds.length ds.length hi = ds.length) : cutD ds lo hi = ds := by
  unfold cutD
  rw [h1, h2]
  simp
theorem s_sl : SlR X (fun x lo hi H Q => ∃ d M Q3, RD X.K H x d ∧ RM X.K bs H M ∧ oSl d lo hi M Q3 ∧ ∀ v H' z M', Ext M M' H H' → RM X.K bs H' M' → RD X.K H' v z → Q3 z M' → Q v H') := by
  rintro pins s σ H x v vl vu lo hi sl Q I rx hs pl pu ⟨d, M, Q3, r, m, q, k⟩
  cases d with
  | tup ds =>
    cases r with
    | tup h1 h2 =>
      refine sl_tupA pins s σ H _ v vl vu lo hi sl Q I rx hs pl pu ⟨_, _, rfl, h1, fun w => ?_, fun w p hp => ?_⟩
      · rw [h2.length] at w
        have q' : Q3 (.tup (cutD ds lo hi)) M := q
        rw [cut_whole w.1 w.2] at q'
        exact k _ _ _ M .refl m (.tup h1 h2) q'
      · obtain ⟨x2, m2⟩ := m.upNew (o := .tup _) hp
        exact k _ _ _ M x2 m2 (.tup (SqT.of upd_same) ((cut_rel h2 lo hi).go (x2.still m))) q
  | rol ds =>
    cases r with
    | rol h1 h2 =>
      refine sl_list pins s σ H _ v vl vu lo hi sl Q I rx hs pl pu ⟨_, _, rfl, h1.sq, fun p hp => ?_⟩
      obtain ⟨x2, m2⟩ := m.newL hp (cut_rel h2 lo hi)
      exact k _ _ _ _ x2 m2 (.ref p) (q p (m.free hp))
  | ref a =>
    cases r
    simp only [oSl] at q
    split at q
    · rename_i ds ha
      obtain ⟨vs, hv, l⟩ := m.at ha
      refine sl_list pins s σ H _ v vl vu lo hi sl Q I rx hs pl pu ⟨_, _, rfl, SqL.of hv, fun p hp => ?_⟩
      obtain ⟨x2, m2⟩ := m.newL hp (cut_rel l lo hi)
      exact k _ _ _ _ x2 m2 (.ref p) (q p (m.free hp))
    · exact False.elim q
  | _ => exact False.elim q
def wSl (te : TE3) (tl th : St3 → Mp → (Option Int → Mp → Prop) → Prop) : TE3 := fun τ M Q => te τ M fun d M1 => tl τ M1 fun lo M2 => th τ M2 fun hi M3 => oSl d lo hi M3 Q
def oPut : TSet3 := fun o i v M Q => match o, i with
  | .ref a, .int k => match M a with
    | some (.lst ds) => match ixN ds.length k with
      | some j => Q (mset M a (.lst (ds.set j v)))
      | none => False
    | _ => False
  | _, _ => False
theorem p_put : PSet X (liftSet X.K bs oPut) := by
  rintro pins s σ H o i v ov iv u Q I r1 r2 r3 ⟨od, id, dv, M, Q3, ro, ri, rv, m, q, k⟩
  cases od with
  | ref a =>
    cases id with
    | int z =>
      cases ro; cases ri
      simp only [oPut] at q
      split at q
      · rename_i ds ha
        split at q
        · rename_i j hj
          obtain ⟨vs, hv, l⟩ := m.at ha
          refine set_list pins s σ H _ _ v ov iv u Q I r1 r2 r3 ⟨a, vs, z, j, rfl, rfl, hv, by rw [l.length]; exact hj, ?_⟩
          obtain ⟨x2, m2⟩ := m.putL ha (RDs.set rv j l)
          exact k _ _ x2 m2 q
        · exact False.elim q
      · exact False.elim q
    | _ => exact False.elim q
  | _ => cases id <;> exact False.elim q
abbrev M23 := D → List D → Mp → VK3 → Prop
def liftM (K : PySem.W.Frag) (bs : BS) (r : M23) : V → List V → Hp → VK → Prop := fun x xs H Q => ∃ d ds M Q3, RD K H x d ∧ RDs K H xs ds ∧ RM K bs H M ∧ r d ds M Q3 ∧ ∀ v H' z M', Ext M M' H H' → RM K bs H' M' → RD K H' v z → Q3 z M' → Q v H'
def wBM (r : M23) (to : TE3) (t : TA3) : TE3 := fun τ M Q => to τ M fun d M1 => (match d with | .ref a => ∃ ds, M1 a = some (.lst ds) | _ => False) ∧ t τ M1 fun ds M2 => r d ds M2 Q
theorem e_bm {o e : Expr} {es : List Expr} {to : TE3} {t : TA3} {name : Str} {apos cpos : Pos} {id : String} {r : M23} (pa : PlainAttrs "list") (slot : Slot "list" name id) (hty : typeOf (.builtin id) = pure (.type "method_descriptor")) (hm : MtR X id (liftM X.K bs r))
    (ho : PE3 bs X o to) (ha : PA3 bs X (e :: es) t)
    (hbase : attributeBase o name X.env (eval o X.env) = eval o X.env := by rfl)
    (hfew : ((backTo cpos (starEach (e :: es) X.env)).all (fun x => !x.1) && (backToKw cpos (keywordEach [] X.env)).all (fun x => x.1.isSome)
      && decide ((e :: es).length + ([] : List Keyword).length + (if ([] : List Keyword).isEmpty then 0 else 1) < 30)) = true := by rfl)
    (hline : (apos.endLine == cpos.line) = true := by rfl) (hs : starEach (e :: es) X.env = (false, eval e X.env) :: starEach es X.env := by rfl) (hplain : (backTo cpos (starEach es X.env)).any (·.1) = false := by rfl) :
    PE3 bs X (.Call (.Attribute o name apos) (e :: es) [] cpos) (wBM r to t) := by
  refine PE.weak (pe_bm pa slot hty hm ho ha hbase hfew hline hs hplain) ?_
  rintro σ H Q ⟨τ, M, Q3, e, m, q, k⟩
  refine ⟨τ, M, _, e, m, q, fun v H1 d M1 x1 m1 r1 q1 => ?_⟩
  cases d with
  | ref a =>
    cases r1
    obtain ⟨⟨ds, ha⟩, q1⟩ := q1
    obtain ⟨vs, hv, l⟩ := m1.at ha
    refine ⟨.inl ⟨rfl, vs, SqL.of hv⟩, τ, M1, _, e.go (x1.still m), m1, q1, fun ws H2 es M2 x2 m2 r2 q2 => ?_⟩
    exact ⟨.ref a, es, M2, Q3, .ref a, r2, m2, q2, fun v H' z M' x3 m3 r3 q3 => k v H' z M' (x1.trans (x2.trans x3)) m3 r3 q3⟩
  | _ => exact False.elim q1.1
def oApp : M23 := fun d ds M Q => match d, ds with
  | .ref a, [y] => match M a with
    | some (.lst xs) => xs.length < sizeLine ∧ Q .non (mset M a (.lst (xs ++ [y])))
    | _ => False
  | _, _ => False
theorem m_app : MtR X "list.append" (liftM X.K bs oApp) := by
  rintro pins s σ H x xs v us Q I r1 r2 ⟨d, ds, M, Q3, rd, rs, m, q, k⟩
  unfold oApp at q
  split at q
  · rename_i a y
    cases rd
    split at q
    · rename_i zs ha
      obtain ⟨vs, hv, l⟩ := m.at ha
      cases rs with
      | cons ry rn =>
        cases rn
        refine mt_append pins s σ H _ _ v us Q I r1 r2 ⟨a, vs, _, rfl, rfl, hv, by rw [l.length]; exact q.1, ?_⟩
        obtain ⟨x2, m2⟩ := m.putL ha (l.app (.cons ry .nil))
        exact k _ _ _ _ x2 m2 .non q.2
    · exact False.elim q
  · exact False.elim q
theorem e_append {o e : Expr} {to te : TE3} {apos cpos : Pos} (ho : PE3 bs X o to) (he : PE3 bs X e te) (hs1 : starEach [e] X.env = (false, eval e X.env) :: starEach [] X.env := by rfl)
    (hbase : attributeBase o "append" X.env (eval o X.env) = eval o X.env := by rfl)
    (hfew : ((backTo cpos (starEach (e :: []) X.env)).all (fun x => !x.1) && (backToKw cpos (keywordEach [] X.env)).all (fun x => x.1.isSome)
      && decide ((e :: []).length + ([] : List Keyword).length + (if ([] : List Keyword).isEmpty then 0 else 1) < 30)) = true := by rfl)
    (hline : (apos.endLine == cpos.line) = true := by rfl) :
    PE3 bs X (.Call (.Attribute o "append" apos) [e] [] cpos) (wBM oApp to (wCons te wNil)) :=
  e_bm PySem.F.plainAttrs_list PySem.F.slot_list_append PySem.F.type_list_append m_app ho (a_cons he a_nil hs1) hbase hfew hline hs1 rfl
end
end L3
set_option Elab.async false
set_option linter.all false
set_option maxRecDepth 100000
set_option maxHeartbeats 4000000
namespace L3
open PySem PySem.Spec PyProof.Rows L2
section
variable {bs : BS} {X : Cx} {tg : Expr}
def iSeq (K : PySem.W.Frag) (tl : TE) : TI := fun σ H R => tl σ H fun x H1 => ∃ a, x = .ref a ∧ ((∃ xs, SqL K H1 a xs ∧ R (Itl K a) H1) ∨ ∃ xs, SqT K H1 a xs ∧ R (Itt K a) H1)
theorem pi_seq {l : Expr} {tl : TE} (hl : PE X l tl) : PI X tg l (iSeq X.K tl) := by
  constructor
  intro pins s σ H R I h
  refine thn (hl.run pins s σ H _ I h) ?_
  rintro v s1 ⟨x, H1, I1, r1, a, rfl, q1⟩
  cases r1
  have nw : ∀ b, b ∈ [s1.heap.objs.size] → FpOk X pins H1 b := by
    intro b hb
    rw [List.mem_singleton] at hb
    rw [hb]
    exact I1.fpOk (Nat.le_refl _) I1.fresh
  rcases q1 with ⟨xs, hq, q⟩ | ⟨xs, hq, q⟩
  · obtain ⟨its, rv, p, hz⟩ := I1.list hq
    exact wpAny_pyIter_list p.isList ⟨_, [s1.heap.objs.size], _, _, H1, rfl, I1.kept (t' := s1.toks) (fun b o e => Heap.get?_push_of_some _ e), turn_list a _, ⟨_, Heap.get?_push_size _ rfl, rfl, rfl⟩, nw, q⟩
  · obtain ⟨its, rv, p, hz⟩ := I1.tuple hq
    have p' : s1.heap.IsTuple a its.toArray := p
    exact wpAny_pyIter_tuple p' ⟨_, [s1.heap.objs.size], _, _, H1, rfl, I1.kept (t' := s1.toks) (fun b o e => Heap.get?_push_of_some _ e), turn_tuple a _, ⟨_, Heap.get?_push_size _ rfl, rfl, rfl⟩, nw, q⟩
/-- what must stand still while a sequence is walked -/
def keepG (M : Mp) (d : D) (ds : List D) : Mp → Prop := match d with
  | .ref a => fun M' => M' a = some (.lst ds)
  | _ => fun _ => True
theorem it_tup {K : PySem.W.Frag} {a : Addr} {vs : List V} {ds : List D} {H0 : Hp} : ItOk K (Itt K a) (fun H => SqT K H a vs ∧ RDs K H vs ds) (fun _ => True) ds where
  mono := fun M M' H H' m x p => ⟨(x.still0 m).1 _ _ p.1, p.2.go (x.still0 m)⟩
  stop := fun H M m p _ => ⟨vs, p.1, by rw [p.2.length]; exact Nat.le_refl _⟩
  go := fun i d H M m p _ hd => by
    obtain ⟨v, hv, r⟩ := p.2.get hd
    refine ⟨⟨vs, v, p.1, hv⟩, ?_⟩
    rintro x H' ⟨rfl, y⟩
    have e := y vs p.1
    rw [hv] at e
    cases e
    exact ⟨.refl, m, r⟩
theorem it_rol {K : PySem.W.Frag} {a : Addr} {vs : List V} {ds : List D} : ItOk K (Itl K a) (fun H => RoL K H a vs ∧ RDs K H vs ds) (fun _ => True) ds where
  mono := fun M M' H H' m x p => ⟨(x.still0 m).2 _ _ p.1, p.2.go (x.still0 m)⟩
  stop := fun H M m p _ => ⟨vs, p.1.sq, by rw [p.2.length]; exact Nat.le_refl _⟩
  go := fun i d H M m p _ hd => by
    obtain ⟨v, hv, r⟩ := p.2.get hd
    refine ⟨⟨vs, v, p.1.sq, hv⟩, ?_⟩
    rintro x H' ⟨rfl, y⟩
    have e := y vs p.1.sq
    rw [hv] at e
    cases e
    exact ⟨.refl, m, r⟩
theorem it_lst {K : PySem.W.Frag} {a : Addr} {ds : List D} : ItOk K (Itl K a) (fun _ => True) (fun M => M a = some (.lst ds)) ds where
  mono := fun _ _ _ _ _ _ _ => True.intro
  stop := fun H M m _ g => by
    obtain ⟨vs, hv, l⟩ := m a _ g
    exact ⟨vs, SqL.of hv, by rw [l.length]; exact Nat.le_refl _⟩
  go := fun i d H M m _ g hd => by
    obtain ⟨vs, hv, l⟩ := m a _ g
    obtain ⟨v, hv', r⟩ := l.get hd
    refine ⟨⟨vs, v, SqL.of hv, hv'⟩, ?_⟩
    rintro x H' ⟨rfl, y⟩
    have e := y vs (SqL.of hv)
    rw [hv'] at e
    cases e
    exact ⟨.refl, m, r⟩
def wItems (tl : TE3) : TI3 := fun τ M R => tl τ M fun d M1 => asL (items M1 d) fun ds => R ds (keepG M1 d ds) M1
theorem w_seq {l : Expr} {tl : TE3} (hl : PE3 bs X l tl) : PI3 bs X tg l (wItems tl) := by
  refine PI.weak (pi_seq hl) ?_
  rintro σ H R ⟨τ, M, R3, e, m, q, k⟩
  refine ⟨τ, M, _, e, m, q, fun v H1 d M1 x1 m1 r1 q1 => ?_⟩
  unfold asL at q1
  split at q1
  · rename_i ds hd
    cases d with
    | tup es =>
      cases hd
      cases r1 with
      | tup h1 h2 => exact ⟨_, rfl, .inr ⟨_, h1, k _ _ _ _ H1 M1 x1 m1 (it_tup (H0 := H1)) ⟨h1, h2⟩ q1⟩⟩
    | rol es =>
      cases hd
      cases r1 with
      | rol h1 h2 => exact ⟨_, rfl, .inl ⟨_, h1.sq, k _ _ _ _ H1 M1 x1 m1 it_rol ⟨h1, h2⟩ q1⟩⟩
    | ref a =>
      cases r1
      obtain ⟨vs, hv, l⟩ := m1.at (lstOf_some hd)
      exact ⟨_, rfl, .inl ⟨vs, SqL.of hv, k _ _ _ _ H1 M1 x1 m1 it_lst True.intro q1⟩⟩
    | _ => cases hd
  · exact False.elim q1
/-- range -/
def rgD (lo : Int) (n : Nat) : List D := (List.range n).map fun i => D.int (lo + (i : Nat))
theorem rgD_get {lo : Int} {n i : Nat} {d : D} (h : (rgD lo n)[i]? = some d) : i < n ∧ d = .int (lo + (i : Nat)) := by
  unfold rgD at h
  rw [List.getElem?_map] at h
  by_cases hi : i < n
  · rw [List.getElem?_range hi] at h
    exact ⟨hi, (Option.some.inj h).symm⟩
  · rw [List.getElem?_eq_none (by rw [List.length_range]; omega)] at h
    cases h
theorem it_rg {K : PySem.W.Frag} {lo : Int} {n : Nat} : ItOk K (Itr lo n) (fun _ => True) (fun _ => True) (rgD lo n) where
  mono := fun _ _ _ _ _ _ _ => True.intro
  stop := fun H M m _ g => by show n ≤ (rgD lo n).length; unfold rgD; rw [List.length_map, List.length_range]; exact Nat.le_refl _
  go := fun i d H M m _ g hd => by
    obtain ⟨hi, rfl⟩ := rgD_get hd
    refine ⟨hi, ?_⟩
    rintro x H' ⟨rfl, rfl⟩
    exact ⟨.refl, m, .int _⟩
def wRng1 (t : TA3) : TI3 := fun τ M R => t τ M fun ds M1 => match ds with
  | [.int j] => -(2 ^ 62) ≤ j ∧ j < 2 ^ 62 ∧ R (rgD 0 j.toNat) (fun _ => True) M1
  | _ => False
def wRng2 (t : TA3) : TI3 := fun τ M R => t τ M fun ds M1 => match ds with
  | [.int i, .int j] => (-(2 ^ 62) ≤ i ∧ i < 2 ^ 62 ∧ -(2 ^ 62) ≤ j ∧ j < 2 ^ 62) ∧ R (rgD i (j - i).toNat) (fun _ => True) M1
  | _ => False
theorem w_rng1 {a : Expr} {ta : TA3} {p pos : Pos} (hm : X.mg "range" = none) (ha : PA3 bs X [a] ta) (hg : Gl X "range" := by rfl) (hs : starEach [a] X.env = [(false, eval a X.env)] := by rfl) : PI3 bs X tg (.Call (.Name "range" p) [a] [] pos) (wRng1 ta) := by
  refine PI.weak (pi_range1 hg hm ha hs) ?_
  rintro σ H R ⟨τ, M, R3, e, m, q, k⟩
  refine ⟨τ, M, _, e, m, q, fun vs H1 ds M1 x1 m1 r1 q1 => ?_⟩
  split at q1
  · rename_i j
    cases r1 with
    | cons r rn =>
      cases rn
      cases r
      exact ⟨j, rfl, q1.1, q1.2.1, k _ _ _ _ H1 M1 x1 m1 it_rg True.intro q1.2.2⟩
  · exact False.elim q1
end
section
variable {bs : BS} {X : Cx} {e : Expr} {es : List Expr} {t : TA3} {x : Str} {p pos : Pos}
theorem e_callB {id : String} {r : List D → Mp → VK3 → Prop} (hc : CallR X (.builtin id) (liftV X.K bs r)) (hm : X.mg x = none) (hv : bootBuiltins x = some (.builtin id)) (ha : PA3 bs X (e :: es) t) (hg : Gl X x := by rfl) (hn : x ≠ "__name__" := by decide) (hdb : (x == ("__debug__" : Str)) = false := by decide)
    (he : starEach (e :: es) X.env = (false, eval e X.env) :: starEach es X.env := by rfl) (hpl : (backTo pos (starEach es X.env)).any (·.1) = false := by rfl) : PE3 bs X (.Call (.Name x p) (e :: es) [] pos) (wCB r t) :=
  PE.weak (pe_callB hc hg hm hv ha hn hdb he hpl) lift_cb
theorem e_callTy {T : String} {r : List D → Mp → VK3 → Prop} (hc : CallR X (.type T) (liftV X.K bs r)) (hm : X.mg x = none) (hv : bootBuiltins x = some (.type T)) (ha : PA3 bs X (e :: es) t) (hg : Gl X x := by rfl) (hn : x ≠ "__name__" := by decide) (hdb : (x == ("__debug__" : Str)) = false := by decide)
    (he : starEach (e :: es) X.env = (false, eval e X.env) :: starEach es X.env := by rfl) (hpl : (backTo pos (starEach es X.env)).any (·.1) = false := by rfl) : PE3 bs X (.Call (.Name x p) (e :: es) [] pos) (wCB r t) :=
  PE.weak (pe_callTy hc hg hm hv ha hn hdb he hpl) lift_cb
/-- one argument -/
def b1 (r : D → Mp → VK3 → Prop) : List D → Mp → VK3 → Prop := fun ds M Q => match ds with
  | [d] => r d M Q
  | _ => False
theorem call1 {f : Value} {r : D → Mp → VK3 → Prop} (h : ∀ (d : D) (x : V) (H : Hp) (M : Mp) (Q : VK) (Q3 : VK3), RD X.K H x d → RM X.K bs H M → r d M Q3 →
    (∀ v H' z M', Ext M M' H H' → RM X.K bs H' M' → RD X.K H' v z → Q3 z M' → Q v H') → ∃ r2 : List V → Hp → VK → Prop, CallR X f r2 ∧ r2 [x] H Q) : CallR X f (liftV X.K bs (b1 r)) := call3 fun ds xs H M Q Q3 r1 m q k => by
  match ds, r1, q with
  | [], _, q => exact False.elim q
  | [d], .cons r1 .nil, q => exact h d _ H M Q Q3 r1 m q k
  | _ :: _ :: _, _, q => exact False.elim q
def bLen : List D → Mp → VK3 → Prop := b1 fun d M Q => match d with
  | .str z => z.length ≤ sizeLine ∧ Q (.int z.length) M
  | d => asL (items M d) fun ds => Q (.int ds.length) M
theorem c_len : CallR X (.builtin "len") (liftV X.K bs bLen) := call1 fun d x H M Q Q3 r m q k => by
  have it : (asL (items M d) fun ds => Q3 (.int ds.length) M) → ∃ r2 : List V → Hp → VK → Prop, CallR X (.builtin "len") r2 ∧ r2 [x] H Q := fun q => by
    unfold asL at q
    split at q
    · rename_i ds hd
      obtain ⟨p, vs, rfl, hs, l⟩ := items_of m.m r hd
      exact ⟨_, call_len_seq, p, vs, rfl, hs, by rw [l.length]; exact k _ _ _ M .refl m (.int _) q⟩
    · exact False.elim q
  cases d with
  | str z => cases r; exact ⟨_, call_len_str, z, rfl, q.1, k _ _ _ M .refl m (.int _) q.2⟩
  | _ => exact it q
def bTuple : List D → Mp → VK3 → Prop := b1 fun d M Q => asL (items M d) fun ds => Q (.tup ds) M
theorem c_tuple : CallR X (.type "tuple") (liftV X.K bs bTuple) := call1 fun d x H M Q Q3 r m q k => by
  unfold asL at q
  split at q
  · rename_i ds hd
    obtain ⟨p, vs, rfl, hs, l⟩ := items_of m.m r hd
    refine ⟨_, call_tuple_of, p, vs, rfl, ?_⟩
    rcases hs with hs | hs
    · refine .inl ⟨hs, fun c hc => ?_⟩
      obtain ⟨x2, m2⟩ := m.upNew (o := .tup vs) hc
      exact k _ _ _ M x2 m2 (.tup (SqT.of upd_same) (l.go (x2.still m))) q
    · exact .inr ⟨hs, k _ _ _ M .refl m (.tup hs l) q⟩
  · exact False.elim q
def bList : List D → Mp → VK3 → Prop := b1 fun d M Q => asL (items M d) fun ds => ∀ p, M p = none → Q (.ref p) (mset M p (.lst ds))
def bAbs : List D → Mp → VK3 → Prop := b1 fun d M Q => asI d fun i => Q (.int (if i < 0 then -i else i)) M
def bInt : List D → Mp → VK3 → Prop := b1 fun d M Q => match d with
  | .int i => Q (.int i) M
  | .bl b => Q (.int (if b then 1 else 0)) M
  | _ => False
theorem c_int : CallR X (.type "int") (liftV X.K bs bInt) := call1 fun d x H M Q Q3 r m q k => by
  cases d with
  | int i => cases r; exact ⟨_, call_int1, .inl ⟨i, rfl, k _ _ _ M .refl m (.int _) q⟩⟩
  | bl i => cases r; exact ⟨_, call_int1, .inr ⟨i, rfl, k _ _ _ M .refl m (.int _) q⟩⟩
  | _ => exact False.elim q
def b2I (g : Int → Int → Int) : List D → Mp → VK3 → Prop := fun ds M Q => match ds with
  | [.int i, .int j] => Q (.int (g i j)) M
  | _ => False
def bMax : List D → Mp → VK3 → Prop := b2I fun i j => if j > i then j else i
def bMin : List D → Mp → VK3 → Prop := b2I fun i j => if j < i then j else i
theorem c_2I {f : Value} {g : Int → Int → Int} (h : CallR X f (fun xs H Q => ∃ i j, xs = [V.int i, V.int j] ∧ Q (.int (g i j)) H)) : CallR X f (liftV X.K bs (b2I g)) := call3 fun ds xs H M Q Q3 r1 m q k => by
  unfold b2I at q
  split at q
  · rename_i i j
    cases r1 with
    | cons r rn =>
      cases rn with
      | cons r' rn =>
        cases rn
        cases r
        cases r'
        exact ⟨_, h, i, j, rfl, k _ _ _ M .refl m (.int _) q⟩
  · exact False.elim q
theorem c_max (hc : X.calm = true) : CallR X (.builtin "max") (liftV X.K bs bMax) := c_2I (call_max2 hc)
theorem c_min (hc : X.calm = true) : CallR X (.builtin "min") (liftV X.K bs bMin) := c_2I (call_min2 hc)
/-- a list of truths -/
def bls : List D → Option (List Bool)
  | [] => some []
  | .bl b :: r => (bls r).map (b :: ·)
  | _ :: _ => none
theorem bls_of {K : PySem.W.Frag} {H : Hp} : ∀ {ds : List D} {vs : List V} {l : List Bool}, bls ds = some l → RDs K H vs ds → vs = l.map V.bl
  | [], _, _, h, r => by cases r; cases h; rfl
  | d :: ds, _, l, h, r => by
    cases r with
    | cons r1 r2 =>
      cases d with
      | bl b =>
        cases r1
        simp only [bls] at h
        obtain ⟨l', h', rfl⟩ := Option.map_eq_some_iff.mp h
        rw [bls_of h' r2]; rfl
      | _ => cases h
mutual
def showOk : D → Bool
  | .int i => decide (i.natAbs.log2 < 1920)
  | .tup xs => showOks xs
  | .rol xs => showOks xs
  | _ => true
def showOks : List D → Bool
  | [] => true
  | d :: ds => showOk d && showOks ds
end
mutual
theorem show_pd : ∀ d : D, showOk d = true → (pdOf d).showable = true
  | .non, _ => by simp [pdOf, PyData.showable]
  | .bl _, _ => by simp [pdOf, PyData.showable]
  | .int _, h => by simpa [pdOf, PyData.showable, showOk] using h
  | .str _, _ => by simp [pdOf, PyData.showable]
  | .ref _, _ => by simp [pdOf, PyData.showable]
  | .ty _, _ => by simp [pdOf, PyData.showable]
  | .tup xs, h => by simpa [pdOf, PyData.showable] using show_pds xs (by simpa [showOk] using h)
  | .rol xs, h => by simpa [pdOf, PyData.showable] using show_pds xs (by simpa [showOk] using h)
theorem show_pds : ∀ ds : List D, showOks ds = true → PyData.showableAll (pdsOf ds) = true
  | [], _ => by simp [pdsOf, PyData.showableAll]
  | d :: ds, h => by
    have h' : showOk d = true ∧ showOks ds = true := by simpa [showOks] using h
    simp [pdsOf, PyData.showableAll, show_pd d h'.1, show_pds ds h'.2]
end
def shown (d : D) : Str := (pdOf d).shown
/-- data whose text fits -/
structure Sh (d : D) : Prop where
  pl : Pl d
  ok : showOk d = true
  sz : (shown d).length ≤ sizeLine
def bRepr : List D → Mp → VK3 → Prop := b1 fun d M Q => Sh (top M d) ∧ Q (.str (shown (top M d))) M
theorem c_repr (hG : X.A.guards = some []) (hu : X.A.units + 64 + 100 < cLine) : CallR X (.builtin "repr") (liftV X.K bs bRepr) := by
  rintro pins s σ H xs us Q I rx ⟨ds, M, Q3, r1, m, q, k⟩
  match ds, r1, rx, q with
  | [], _, _, q => exact False.elim q
  | _ :: _ :: _, _, _, q => exact False.elim q
  | [d], .cons r1 .nil, .cons rv .nil, q =>
    obtain ⟨sh, q⟩ := q
    rename_i v u
    have dp := dp_top m.m r1 sh.pl.p
    have sok := show_pd _ sh.ok
    have nd := PyData.hasDict_of_canLay _ (canLay_pd _ sh.pl.p)
    have kk : ∀ s', Inv X pins σ H s' → ∀ u', (∃ t, u' = Value.str (shown (top M d)) t) → EP X pins σ Q u' s' := fun s' I' u' e => ⟨.str _, H, I', e, k _ _ _ M .refl m (.str _) q⟩
    have rf : ∀ a, u = .ref a → wpAny (model X.prog X.w) X.A (call (.builtin "repr") [u]) (EP X pins σ Q) X.xe s := by
      rintro a rfl
      obtain ⟨as, rd⟩ := Dp.reads I _ _ _ dp rv
      refine repr_of_reads' (h₀ := s.heap) rd sok (PyData.noDict_hsm nd) hG ?_ (fun _ _ e => e) (fun h' t tk keep => kk _ (I.kept keep) _ ⟨t, rfl⟩) sh.sz
      rw [depth_pd]
      have := sh.pl.d
      omega
    cases d with
    | non => cases r1; cases rv; exact PySem.P.repr_of_none (kk _ (I.tok _) _ ⟨_, rfl⟩)
    | bl b => cases r1; cases rv; exact PySem.P.repr_of_bool (kk _ (I.tok _) _ ⟨_, rfl⟩)
    | int i =>
      cases r1
      obtain ⟨t, rfl⟩ := rv
      have hz : i.natAbs.log2 < 1920 := by simpa [top, showOk] using sh.ok
      exact PySem.P.repr_of_int hz (kk _ (I.tok _) _ ⟨_, rfl⟩)
    | str z =>
      cases r1
      obtain ⟨t, rfl⟩ := rv
      have hz : (reprText z).length ≤ sizeLine := by simpa [top, shown, pdOf, PyData.shown] using sh.sz
      exact PySem.P.repr_of_str (kk _ (I.tok _) _ ⟨_, rfl⟩) hz
    | tup ds => cases r1; cases rv; exact rf _ rfl
    | rol ds => cases r1; cases rv; exact rf _ rfl
    | ref a => cases r1; cases rv; exact rf _ rfl
    | ty n => exact absurd sh.pl.p (by simp [top, plain])
end
/-- what is wished of an exception: its class by name, its fields -/
abbrev XK3 := Str → List (Str × D) → Mp → Prop
abbrev Sp3 := List D → Mp → VK3 → XK3 → Prop
/-- an exception's own dict -/
def RXd (K : PySem.W.Frag) (H : Hp) : Option Addr → List (Str × D) → Prop
  | some a, fs => ∃ gs, H a = some (.xd gs) ∧ RKv K H gs fs
  | none, fs => fs = []
/-- its class c is the one called n, its own dict is a's -/
def RX (K : PySem.W.Frag) (H : Hp) (n : Str) (c : Value) (a : Option Addr) (fs : List (Str × D)) : Prop := Cl K n c ∧ RXd K H a fs
def liftSp (K : PySem.W.Frag) (sp : Sp3) : Sp := fun vs H Q E => ∃ ds M Q3 E3, RDs K H vs ds ∧ RM0 K H M ∧ sp ds M Q3 E3 ∧
  (∀ v H' d M', Ext M M' H H' → RM0 K H' M' → RD K H' v d → Q3 d M' → Q v H') ∧
  ∀ n c a H' fs M', Ext M M' H H' → RM0 K H' M' → RX K H' n c a fs → E3 n fs M' → E c a H'
structure FnG (P : Program) (w : World) (K : PySem.W.Frag) (mg : Str → Option Value) (base : Heap) (CX : CXT) (k : Nat) (f : Addr) (fd : FuncData) (ps : List Str) (sp : Sp) : Prop where
  len : ∀ vs H Q E, sp vs H Q E → vs.length = ps.length
  run : ∀ (A : Around) (outer : List Env) (s : Shared) (H : Hp) (args : Args) (us : List Value) (vs : List V) (Q : VK) (E : XK), A.guards = some [] → Room k A → Env0 P w K mg base A outer s H → BindsTo s fd args (ps.zip us) →
    Vals vs us → sp vs H Q E → codeAny (model P w) A (.call (.ref f) args) (CR CX outer P w H s Q E) s
theorem FnG.mono {P : Program} {w : World} {K : PySem.W.Frag} {mg : Str → Option Value} {base : Heap} {CX : CXT} {j k : Nat} {f : Addr} {fd : FuncData} {ps : List Str} {sp : Sp} (F : FnG P w K mg base CX j f fd ps sp) (h : j ≤ k) :
    FnG P w K mg base CX k f fd ps sp := ⟨F.len, fun A outer s H args us vs Q E hg hr => F.run A outer s H args us vs Q E hg (hr.mono h)⟩
/-- a def by its body -/
theorem fn_g {CX : CXT} {P : Program} {w : World} {K : PySem.W.Frag} {mg : Str → Option Value} {base : Heap} {k : Nat} {f : Addr} {x qual : Str} {st : Stmt} {fd : FuncData} {N ps : List Str} {sp : Sp} (F : Fun K x qual st f fd) (S : FnScope N ps (defScope st))
    (len : ∀ vs H Q E, sp vs H Q E → vs.length = ps.length)
    (body : ∀ (cdv : Value) (A : Around) (outer : List Env) (s : Shared) (H : Hp) (vs : List V) (Q : VK) (E : XK), A.guards = some [] → Room k (A.deeper (envOfC qual (defScope st) s.heap.objs.size f cdv)) → sp vs H Q E →
      ∃ t, PSs (cxOf CX P w K mg base N qual (defScope st) f cdv A outer s H E) (defBody st) t ∧ t { nx := fun _ H' => Q .non H', rt := Q } (L2.start N vs) H) :
    FnG P w K mg base CX (k + 1) f fd ps sp := by
  obtain ⟨oc, od, kV, doc, pm, an, cdv, ct, osl, rfl, lk, hcd⟩ := F.ex
  constructor
  · exact len
  intro A outer s H args us vs Q E hG hr e0 hb r hsp
  have sizes := len vs H Q E hsp
  have inK : K.In s.heap := e0.mod.kin.keeps (fun b o z => (e0.bs b o z).1)
  have noLim : s.heap.NoLimit := e0.mod.nolimit.keeps (fun b o z => (e0.bs b o z).1)
  have kinds : ∀ y ∈ ps.zip us, (defScope st).names.lookup y.1 = some .local ∨ ((defScope st).names.lookup y.1 = some .cell ∧ ((cellsFrom (s.heap.objs.size + 1) (defScope st).names []).lookup y.1).isSome = true) := by
    rintro ⟨n, v⟩ hy
    rcases S.par n (List.of_mem_zip hy).1 with z | z
    · exact .inl z
    · exact .inr ⟨z, PySem.W.cellsFrom_some _ _ _ (.inl z)⟩
  refine codeAny_call_function hr.depth (inK _ _ lk) rfl S.co S.gen rfl (PySem.W.codeRec_of inK hcd) (hb _ _ _ _ ?_)
  refine wpAny_newFunctionEnv_cells S.kind kinds ?_
  rintro env rfl s1 x
  refine ⟨noLim.keeps x.toInCall.keep, codeAny_func ?_⟩
  obtain ⟨t, ht, hq⟩ := body cdv A outer s H vs Q E hG (hr.deeper _) hsp
  have I := inv_start (CX := CX) (E := E) S hr.hd e0 sizes r x
  refine wpAny_mono (ht.run [] s1 (L2.start N vs) H _ I hq) ?_ (fun _ _ z => z)
  have done : ∀ (σ' : L2.St) (H' : Hp) (v : V) (u : Value) (s' : Shared), Inv (cxOf CX P w K mg base N qual (defScope st) f cdv A outer s H E) [] σ' H' s' → RelV v u → Q v H' → CE outer P w H s Q u s' :=
    fun σ' H' v u s' J rv q => ⟨v, H', J.os, J.bare, J.base, J.hok, rv, q⟩
  intro fl s' hs
  cases fl with
  | next =>
    obtain ⟨σ', H', J, q⟩ := hs
    exact done σ' H' .non .none s' J rfl q
  | ret u =>
    obtain ⟨v, σ', H', J, rv, q⟩ := hs
    exact done σ' H' v u s' J rv q
  | brk => obtain ⟨_, _, _, q⟩ := hs; cases q
  | cont => obtain ⟨_, _, _, q⟩ := hs; cases q
/-- what a def's body is read to -/
def start3 (n : Nat) (ds : List D) : St3 := ds.map some ++ List.replicate (n - ds.length) none
def spOf (np n : Nat) (t : XK3 → TS3) : Sp3 := fun ds M Q E => ds.length = np ∧ t E { nx := fun _ M' => Q .non M', rt := Q } (start3 n ds) M
theorem getS_app_l : ∀ (ds : List D) (r : St3) (i : Nat), i < ds.length → getS (ds.map some ++ r) i = ds[i]?
  | [], _, _, h => by simp at h
  | d :: ds, r, 0, _ => rfl
  | d :: ds, r, i + 1, h => by
    show getS (ds.map some ++ r) i = _
    rw [getS_app_l ds r i (by simpa using h)]
    simp
theorem getS_none (n i : Nat) : getS (List.replicate n none) i = none := by
  induction n generalizing i with
  | zero => rfl
  | succ n ih =>
    cases i with
    | zero => rfl
    | succ i => exact ih i
theorem getS_app_r : ∀ (ds : List D) (n i : Nat), ds.length ≤ i → getS (ds.map some ++ List.replicate n none) i = none
  | [], n, i, _ => getS_none n i
  | d :: ds, n, 0, h => by simp at h
  | d :: ds, n, i + 1, h => getS_app_r ds n i (by simpa using h)
theorem re_start {K : PySem.W.Frag} {H : Hp} {N : List Str} {vs : List V} {ds : List D} (r : RDs K H vs ds) : RE K H (L2.start N vs) (start3 N.length ds) := by
  have hl := r.length
  constructor
  · unfold L2.start start3
    simp [hl]
  · intro i d h
    unfold start3 at h
    by_cases hi : i < ds.length
    · rw [getS_app_l ds _ i hi] at h
      obtain ⟨v, hv, rv⟩ := r.get h
      refine ⟨v, ?_, rv⟩
      unfold L2.start
      rw [List.getElem?_append_left (by rw [List.length_map]; omega), List.getElem?_map, hv]
      rfl
    · rw [getS_app_r ds _ i (by omega)] at h
      cases h
/-- the def called x, with n parameters, keeps sp at so deep a level -/
def Def3 (P : Program) (w : World) (K : PySem.W.Frag) (mg : Str → Option Value) (base : Heap) (CX : CXT) (k : Nat) (x : Str) (sp : Sp3) : Prop :=
  ∃ f fd ps, mg x = some (.ref f) ∧ PySem.W.keepIn K (.ref f) = true ∧ Binds K fd ps [] ∧ FnG P w K mg base CX k f fd ps (liftSp K sp)
theorem Def3.mono {P : Program} {w : World} {K : PySem.W.Frag} {mg : Str → Option Value} {base : Heap} {CX : CXT} {j k : Nat} {x : Str} {sp : Sp3} (F : Def3 P w K mg base CX j x sp) (h : j ≤ k) : Def3 P w K mg base CX k x sp := by
  obtain ⟨f, fd, ps, a, b, c, d⟩ := F
  exact ⟨f, fd, ps, a, b, c, d.mono h⟩
/-- from its body's reading: E3 is the wish of the exceptions, bs the standing condition -/
theorem fng_of {CX : CXT} {P : Program} {w : World} {K : PySem.W.Frag} {mg : Str → Option Value} {base : Heap} {k : Nat} {f : Addr} {x qual : Str} {st : Stmt} {fd : FuncData} {N ps : List Str} {t : XK3 → TS3} (F : Fun K x qual st f fd) (S : FnScope N ps (defScope st))
    (body : ∀ (cdv : Value) (A : Around) (outer : List Env) (s : Shared) (H : Hp) (E : XK) (bs : BS) (E3 : XK3), A.guards = some [] → Room k (A.deeper (envOfC qual (defScope st) s.heap.objs.size f cdv)) →
      (∀ n c a H' fs M', RM0 K H' M' → bs.ok M' H' → RX K H' n c a fs → E3 n fs M' → E c a H') →
      PSs3 bs (cxOf CX P w K mg base N qual (defScope st) f cdv A outer s H E) (defBody st) (t E3)) :
    FnG P w K mg base CX (k + 1) f fd ps (liftSp K (spOf ps.length N.length t)) := by
  refine fn_g F S (fun vs H Q E h => ?_) fun cdv A outer s H vs Q E hG hr h => ?_
  · obtain ⟨ds, M, Q3, E3, r, m, ⟨l, q⟩, _⟩ := h
    rw [r.length]; exact l
  · obtain ⟨ds, M, Q3, E3, r, m, ⟨l, q⟩, kq, ke⟩ := h
    refine ⟨_, body cdv A outer s H E (bsOf M H) E3 hG hr (fun n c a H' fs M' m' x r' e => ke n c a H' fs M' x m' r' e), ?_⟩
    refine ⟨start3 N.length ds, M, _, re_start r, ⟨m, .refl⟩, q, fun σ' τ' H' M' x e m' q' => ?_, fun v d H' M' x m' r' q' => ?_, fun _ _ _ _ _ _ _ z => z.elim, fun _ _ _ _ _ _ _ z => z.elim⟩
    · exact kq .non H' .non M' x m'.m .non q'
    · exact kq v H' d M' x m'.m r' q'
theorem def_of {CX : CXT} {P : Program} {w : World} {K : PySem.W.Frag} {mg : Str → Option Value} {base : Heap} {k : Nat} {f : Addr} {x qual : Str} {st : Stmt} {fd : FuncData} {N ps : List Str} {t : XK3 → TS3} (hm : mg x = some (.ref f)) (F : Fun K x qual st f fd) (b : Binds K fd ps [])
    (S : FnScope N ps (defScope st))
    (body : ∀ (cdv : Value) (A : Around) (outer : List Env) (s : Shared) (H : Hp) (E : XK) (bs : BS) (E3 : XK3), A.guards = some [] → Room k (A.deeper (envOfC qual (defScope st) s.heap.objs.size f cdv)) →
      (∀ n c a H' fs M', RM0 K H' M' → bs.ok M' H' → RX K H' n c a fs → E3 n fs M' → E c a H') →
      PSs3 bs (cxOf CX P w K mg base N qual (defScope st) f cdv A outer s H E) (defBody st) (t E3)) :
    Def3 P w K mg base CX (k + 1) x (spOf ps.length N.length t) := ⟨f, fd, ps, hm, F.kp, b, fng_of F S body⟩
section
variable {bs : BS} {X : Cx} {CX : CXT} {k : Nat} {x : Str} {sp : Sp3} {E3 : XK3} {e : Expr} {es : List Expr} {t : TA3} {p pos : Pos}
def wCall (sp : Sp3) (E : XK3) (t : TA3) : TE3 := fun τ M Q => t τ M fun ds M1 => sp ds M1 Q E
/-- a def that leans on nothing in M, and whose answer does not either -/
def wCallP (sp : Sp3) (E : XK3) (t : TA3) : TE3 := fun τ M Q => t τ M fun ds M1 => sp ds M0 (fun d _ => Q d M1) (fun c fs _ => E c fs M1)
theorem run_g {f : Addr} {fd : FuncData} {ps : List Str} {spv : Sp} {E : XK} {pins : List (Addr × Obj)} {σ : L2.St} {H : Hp} {s : Shared} {Q : VK} {us : List Value} {vs : List V} (F : FnG X.prog X.w X.K X.mg X.base CX k f fd ps spv) (hG : X.A.guards = some []) (hr : Room k X.A)
    (hb : Binds X.K fd ps []) (hx : Passes CX X E) (I : Inv X pins σ H s) (r : Vals vs us) (h : spv vs H Q E) : wpAny (model X.prog X.w) X.A (call (.ref f) us) (EP X pins σ Q) X.xe s := by
  have hl : (us ++ []).length = ps.length := by rw [List.append_nil, ← r.length]; exact F.len _ _ _ _ h
  have bd := hb s us I.kIn hl
  rw [List.append_nil] at bd
  refine wpAny_call (codeAny_mono (F.run X.A X.stack s H ⟨us, []⟩ us vs Q E hG hr I.env0 bd r h) ?_)
  intro res s' hq
  cases res with
  | error z => exact hx pins σ H s z s' I hq
  | ok fl =>
    cases fl with
    | ret u => exact I.after hq
    | next => cases hq
    | brk => cases hq
    | cont => cases hq
theorem pe_g {f : Addr} {fd : FuncData} {ps : List Str} {spv : Sp} {E : XK} {ta : TA} (F : FnG X.prog X.w X.K X.mg X.base CX k f fd ps spv) (hG : X.A.guards = some []) (hr : Room k X.A) (hm : X.mg x = some (.ref f)) (hk : PySem.W.keepIn X.K (.ref f) = true) (hb : Binds X.K fd ps []) (hx : Passes CX X E)
    (ha : PA X (e :: es) ta) (hg : Gl X x) (hdb : (x == ("__debug__" : Str)) = false) (he : starEach (e :: es) X.env = (false, eval e X.env) :: starEach es X.env) (hpl : (backTo pos (starEach es X.env)).any (·.1) = false) :
    PE X (.Call (.Name x p) (e :: es) [] pos) (tCall spv [] E ta) := by
  constructor
  intro pins s σ H Q I h
  refine wpAny_Call_Name_kw (ld_glob I hg hm ?_ hdb)
  refine PySem.W.callWith_K (h₀ := X.base) I.ok.mod.kin hk (thn (ha.run pos pins s σ H _ I h) ?_) he hpl
  rintro us s1 ⟨vs, H1, I1, r, q⟩
  have q' : spv (vs ++ []) H1 Q E := q
  rw [List.append_nil] at q'
  exact ⟨I1.kIn, run_g F hG hr hb hx I1 r q'⟩
/-- how an exception of a callee passes on: what is wanted of it here -/
def PassX (bs : BS) (CX : CXT) (X : Cx) (E3 : XK3) : Prop := ∃ E : XK, Passes CX X E ∧ ∀ n c a H' fs M', RM0 X.K H' M' → bs.ok M' H' → RX X.K H' n c a fs → E3 n fs M' → E c a H'
theorem e_call (F : Def3 X.prog X.w X.K X.mg X.base CX k x sp) (hG : X.A.guards = some []) (hr : Room k X.A) (hx : PassX bs CX X E3) (ha : PA3 bs X (e :: es) t) (hg : Gl X x := by rfl) (hdb : (x == ("__debug__" : Str)) = false := by decide)
    (he : starEach (e :: es) X.env = (false, eval e X.env) :: starEach es X.env := by rfl) (hpl : (backTo pos (starEach es X.env)).any (·.1) = false := by rfl) : PE3 bs X (.Call (.Name x p) (e :: es) [] pos) (wCall sp E3 t) := by
  obtain ⟨f, fd, ps, hm, hk, hb, F⟩ := F
  obtain ⟨E, hp, he3⟩ := hx
  refine PE.weak (pe_g F hG hr hm hk hb hp ha hg hdb he hpl) ?_
  rintro σ H Q ⟨τ, M, Q3, e, m, q, kk⟩
  refine ⟨τ, M, _, e, m, q, fun vs H1 ds M1 x1 m1 r1 q1 => ?_⟩
  show liftSp X.K sp (vs ++ []) H1 Q E
  rw [List.append_nil]
  refine ⟨ds, M1, Q3, E3, r1, m1.m, q1, fun v H' d M' x2 m2 r2 q2 => kk v H' d M' (x1.trans x2) (m1.to x2 m2) r2 q2, fun n c a H' fs M' x2 m2 r2 q2 => he3 n c a H' fs M' m2 (bs.go m1.b x2) r2 q2⟩
/-- from nothing: all that stood is kept -/
theorem ext_all {M M' : Mp} {H H' : Hp} (x : Ext M0 M' H H') : Ext M M H H' := ⟨fun a o h _ => x.fr a o h rfl, fun _ h => .inl h⟩
theorem rm_all {K : PySem.W.Frag} {M M' : Mp} {H H' : Hp} (m : RM0 K H M) (x : Ext M0 M' H H') : RM0 K H' M := (m.keep fun a o h => x.fr a o h rfl).2
theorem e_callP (F : Def3 X.prog X.w X.K X.mg X.base CX k x sp) (hG : X.A.guards = some []) (hr : Room k X.A) (hx : PassX bs CX X E3) (ha : PA3 bs X (e :: es) t) (hg : Gl X x := by rfl) (hdb : (x == ("__debug__" : Str)) = false := by decide)
    (he : starEach (e :: es) X.env = (false, eval e X.env) :: starEach es X.env := by rfl) (hpl : (backTo pos (starEach es X.env)).any (·.1) = false := by rfl) : PE3 bs X (.Call (.Name x p) (e :: es) [] pos) (wCallP sp E3 t) := by
  obtain ⟨f, fd, ps, hm, hk, hb, F⟩ := F
  obtain ⟨E, hp, he3⟩ := hx
  refine PE.weak (pe_g F hG hr hm hk hb hp ha hg hdb he hpl) ?_
  rintro σ H Q ⟨τ, M, Q3, e, m, q, kk⟩
  refine ⟨τ, M, _, e, m, q, fun vs H1 ds M1 x1 m1 r1 q1 => ?_⟩
  show liftSp X.K sp (vs ++ []) H1 Q E
  rw [List.append_nil]
  refine ⟨ds, M0, _, _, r1, (fun a o h => nomatch h), q1, fun v H' d M' x2 m2 r2 q2 => ?_, fun n c a H' fs M' x2 m2 r2 q2 => ?_⟩
  · exact kk v H' d M1 (x1.trans (ext_all x2)) (m1.to (ext_all x2) (rm_all m1.m x2)) r2 q2
  · exact he3 n c a H' fs M1 (rm_all m1.m x2) (bs.go m1.b (ext_all x2)) r2 q2
end
end L3
set_option Elab.async false
set_option linter.all false
set_option maxRecDepth 100000
set_option maxHeartbeats 4000000
namespace L3
open PySem PySem.Spec PyProof.Rows L2
theorem law_at {P : Program} {w : World} {K : PySem.W.Frag} {mg mb : Str → Option Value} {CX : CXT} {k : Nat} {fa a : Addr} {fd : FuncData} {x : Str} {sp : Sp} {t : Shared} {vs : List Value} {ns : List Int}
    (inK : K.In t.heap) (nsM : t.heap.Ns mainGlobals mg) (nsB : t.heap.Ns builtinsNs mb) (boots : ∀ y : Str, y ≠ "__name__" → mb y = bootBuiltins y) (noLim : t.heap.NoLimit) (noGen : t.gens = #[])
    (obj : t.heap.get? a = some { cls := .type "list", data := .seq vs.toArray }) (hnt : IntsAre vs ns) (len : ns.length ≤ sizeLine) (room : Room k callerA)
    (F : ∀ base : Heap, K.In base → base.Ns mainGlobals mg → FnG P w K mg base CX k fa fd [x] sp) (bind : ∀ (s : Shared) (u : Value), BindsTo s fd ⟨[u], []⟩ [(x, u)])
    (said : ∀ H : Hp, RoL K H a (ns.map V.int) → sp [.ref a] H (fun v _ => v = .bl true) (fun _ _ _ => False)) (quiet : ∀ H e s', CX [] H t (fun _ _ _ => False) e s' → False) :
    codeAny (model P w) callerA (.call (.ref fa) ⟨[.ref a], []⟩) (fun r s' => r = .ok (.ret (.bool true)) ∧ OldK t.heap s'.heap ∧ s'.os = t.os ∧ AllBare s'.gens) t := by
  have vals := vals_ints hnt
  have lens := hnt.length
  -- H: nothing, or the script as a thing that nobody writes
  suffices main : ∀ H : Hp, RoL K H a (ns.map V.int) → HOk P w H t.heap → (∀ b u, H b = some u → b = a ∧ ∃ o xs, u = .frz o (.lst xs)) → (H a ≠ none → K.lookup a = none) →
      codeAny (model P w) callerA (.call (.ref fa) ⟨[.ref a], []⟩) (fun r s' => r = .ok (.ret (.bool true)) ∧ OldK t.heap s'.heap ∧ s'.os = t.os ∧ AllBare s'.gens) t by
    cases q : K.lookup a with
    | some o =>
      have z := inK a o q
      rw [obj] at z
      cases z
      exact main (fun _ => none) (.inr ⟨vs.toArray, _, q, by rw [List.size_toArray, lens]; exact len, by simpa using vals⟩) (fun _ _ z => nomatch z) (fun _ _ z => nomatch z) fun z => absurd rfl z
    | none =>
      refine main (upd (fun _ => none) a (.frz { cls := .type "list", data := .seq vs.toArray } (.lst (ns.map V.int)))) (.inl ⟨_, upd_same⟩) (fun b u z => ?_) (fun b u z => ?_) fun _ => q
      · by_cases e : b = a
        · subst e
          rw [upd_same] at z
          cases z
          exact ⟨obj, by rw [List.length_map]; exact len, vs, _, vals, obj⟩
        · rw [upd_ne e] at z; cases z
      · by_cases e : b = a
        · subst e
          rw [upd_same] at z
          cases z
          exact ⟨rfl, _, _, rfl⟩
        · rw [upd_ne e] at z; cases z
  intro H ro hok one out
  have dataH : ∀ {b : Addr} {o : Obj} {es : Array DictEntry} {n : Nat}, t.heap.get? b = some o → o.data = .dict es n → H b = none := by
    intro b o es n z d
    cases q : H b with
    | none => rfl
    | some u =>
      obtain ⟨rfl, _⟩ := one b u q
      rw [obj] at z
      cases z
      cases d
  have nsH : ∀ {b : Addr} {m : Str → Option Value}, t.heap.Ns b m → (hidT t.heap H).Ns b m := by
    rintro b m ⟨o, es, n, z, d, r⟩
    exact ⟨o, es, n, hidT_get z (dataH z d), d, r⟩
  have inH : K.In (hidT t.heap H) := by
    intro b o z
    refine hidT_get (inK b o z) ?_
    cases q : H b with
    | none => rfl
    | some u =>
      obtain ⟨rfl, _⟩ := one b u q
      rw [out (by rw [q]; exact fun z => nomatch z)] at z
      cases z
  have limH : (hidT t.heap H).NoLimit := by
    obtain ⟨mc, l1, l2⟩ := noLim
    exact ⟨mc, nsH l1, l2⟩
  have env : Env0 P w K mg (hidT t.heap H) callerA [] t H :=
    ⟨rfl, ⟨inH, nsH nsM, ⟨mb, nsH nsB, boots⟩, limH⟩, fun _ _ z => of_hidT z, Nat.le_of_eq (hidT_size _ _), True.intro, fun b z => (List.not_mem_nil (show b ∈ ([] : List Addr) from z)).elim, hok, .of_eq noGen⟩
  refine codeAny_mono ((F _ inH (nsH nsM)).run callerA [] t H ⟨[.ref a], []⟩ [.ref a] [.ref a] _ _ rfl room env (bind t (.ref a)) (.cons rfl .nil) (said H ro)) ?_
  intro r s' z
  cases r with
  | error e => exact (quiet H e s' z).elim
  | ok fl =>
    cases fl with
    | ret u =>
      obtain ⟨v, H', os, bare, un, hok', rv, e⟩ := z
      have e' : v = .bl true := e
      subst e'
      cases rv
      refine ⟨rfl, OldK.of_keep fun b o z => ?_, os, bare⟩
      cases q : H b with
      | none => exact un.keep b o z q (by simp [frs]) (by simp)
      | some u =>
        obtain ⟨rfl, ob, xs, rfl⟩ := one b u q
        obtain ⟨z1, _⟩ := hok b _ q
        obtain ⟨z2, _⟩ := hok' b _ (un.frzs b ob _ q)
        rw [z] at z1
        cases z1
        exact z2
    | next => cases z
    | brk => cases z
    | cont => cases z
theorem rm_nil {K : PySem.W.Frag} {H : Hp} : RM0 K H M0 := by
  intro a o h
  cases h
/-- the goal that k_head leaves, from the law's def -/
theorem law_end {l : PySem.W.OpenLaw} {k : Nat} {q : Program} {loose : List Str} {XP : (Str → Option Value) → Heap → Prop} {YP : World → Heap → Prop} {d : DefRec} {K : Params → PySem.W.Frag} {CX : Program → World → CXT} {sp : Sp3} {x : Str}
    (hn : l.most = some 63) (hdf : d.params.defaults = []) (room : Room k callerA) (hY : ∀ (w : World) (h : Heap), YP w h → (K w.params).In h)
    (F : ∀ (w : World) (mg : Str → Option Value) (fa : Addr) (h : Heap), (K w.params).In h → h.Ns mainGlobals mg → mg d.name = some (.ref fa) →
      ∃ fd : FuncData, (∀ (s : Shared) (u : Value), BindsTo s fd ⟨[u], []⟩ [(x, u)]) ∧
        ∀ base : Heap, (K w.params).In base → base.Ns mainGlobals mg → FnG l.prog w (K w.params) mg base (CX l.prog w) k fa fd [x] (liftSp (K w.params) sp))
    (said : ∀ ns : List Int, ns.length ≤ 63 → sp [.rol (ns.map D.int)] M0 (fun v _ => v = .bl true) (fun _ _ _ => False))
    (quiet : ∀ (P : Program) (w : World) (H : Hp) (s : Shared) (e : Value) (s' : Shared), CX P w [] H s (fun _ _ _ => False) e s' → False) :
    PySem.W.WalkO q loose XP YP l.row.toRowW d [] (fun f vs => PySem.call f vs) := by
  refine Att.attach_call hn hdf ?_
  intro w s0 t mg mb fa o pm cd doc a vs ns G Y ho hd hcd hmg hobj hints hlen hg
  have inK := hY w _ Y
  obtain ⟨fd, hb, hF⟩ := F w mg fa _ inK G.T.g hmg
  refine law_at inK G.T.g G.T.b G.T.builtins G.T.nolimit hg hobj hints (Nat.le_trans hlen (by decide)) room hF hb (fun H ro => ?_) fun H e s' => quiet l.prog w H t e s'
  refine ⟨[.rol (ns.map D.int)], M0, _, _, .cons (.rol ro (RDs.ofInts ns)) .nil, rm_nil, said ns hlen, fun v H' d' M' _ _ rd e => ?_, fun _ _ _ _ _ _ _ _ _ z => z⟩
  subst e
  cases rd
  rfl
end L3
set_option Elab.async false
set_option linter.all false
set_option maxRecDepth 100000
set_option maxHeartbeats 4000000
namespace L3
open PySem PySem.Spec PyProof.Rows L2
/-- no exception -/
def X0 : XK3 := fun _ _ _ => False
theorem passX1 {bs : BS} {X : Cx} : PassX bs (L2.CX X.prog X.w) X X0 := ⟨E0, passL, fun _ _ _ _ _ _ _ _ _ z => z.elim⟩
theorem passXE {bs : BS} {P : Program} {w : World} {K : PySem.W.Frag} {mg : Str → Option Value} {base : Heap} {N : List Str} {qual : Str} {scope : Scope} {f : Addr} {cd : Value} {A : Around} {outer : List Env} {s : Shared} {H : Hp} {E : XK} {E3 : XK3}
    (h : ∀ n c a H' fs M', RM0 K H' M' → bs.ok M' H' → RX K H' n c a fs → E3 n fs M' → E c a H') : PassX bs (L2.CX P w) (cxOf (L2.CX P w) P w K mg base N qual scope f cd A outer s H E) E3 :=
  ⟨E, passes_call (W := fun c a _ H => E c a H) (takes_of rfl rfl rfl rfl) (fun _ _ _ _ z => z), h⟩
theorem quietX : ∀ (P : Program) (w : World) (H : Hp) (s : Shared) (e : Value) (s' : Shared), L2.CX P w [] H s (fun _ _ _ => False) e s' → False := by
  intro P w H s e s' h
  obtain ⟨_, _, _, _, _, _, _, _, _, _, _, _, z⟩ := h
  exact z.elim
theorem hu_more {k : Nat} {A : Around} (r : Room k A) : A.units + 64 + 100 < cLine := by have := r.un; omega
def wgTupN (n : Nat) (t : TGs3) : TG3 := fun d τ M Q => match d with
  | .tup ds => ds.length = n ∧ t ds τ M Q
  | _ => False
section
variable {bs : BS} {X : Cx} {e b : Expr} {es : List Expr} {te tb : TE3} {pos : Pos}
theorem g_tupN {es : List Expr} {k n : Nat} {ix : List Nat} {t : TGs3} (hc : X.calm = true) (h : PGs3 bs X es ix t)
    (hn : (assignEach es X.env).length = n := by rfl) (hst : (assignEach es X.env).findIdx? (·.1) = none := by rfl) : PG3 bs X (.Tuple es k pos) ix (wgTupN n t) := g_tup hc h hn hst
/-- [e] * k: the list of one is forgotten -/
def wRep (te tb : TE3) : TE3 := fun τ M Q => te τ M fun d M1 => tb τ M1 fun i M2 => match i with
  | .int k => -(2 ^ 63) ≤ k ∧ k < 2 ^ 63 ∧ k.toNat ≤ sizeLine ∧ ∀ p, M2 p = none → Q (.ref p) (mset M2 p (.lst (List.replicate k.toNat d)))
  | _ => False
theorem flat_one (k : Nat) (d : D) : (List.replicate k [d]).flatten = List.replicate k d := by
  induction k with
  | zero => rfl
  | succ k ih => rw [List.replicate_succ, List.flatten_cons, ih, List.replicate_succ]; rfl
theorem e_rep {p1 : Pos} (he : PE3 bs X e te) (hb : PE3 bs X b tb) (hs : starEach [e] X.env = (false, eval e X.env) :: starEach [] X.env := by rfl) : PE3 bs X (.BinOp (.List [e] p1) .Mult b pos) (wRep te tb) := by
  refine PE.weak (pe_op op_rep (pe_lst (pa_cons he pa_nil hs)) hb) ?_
  rintro σ H Q ⟨τ, M, Q3, e, m, q, k⟩
  refine ⟨τ, M, _, e, m, q, fun v H1 d M1 x1 m1 r1 q1 => ⟨(by show 1 ≤ sizeLine; decide), fun p hp => ?_⟩⟩
  obtain ⟨x2, m2⟩ := m1.upNew (o := .lst [v]) hp
  have f2 : Fresh X.K (upd H1 p (.lst [v])) M1 p [d] := Fresh.laid m1.m hp (.cons r1 .nil)
  refine ⟨τ, M1, _, (e.go (x1.still m)).go (x2.still m1), m2, q1, fun y H2 dy M2 x3 m3 r3 q3 => ?_⟩
  have f3 := f2.go m2.m x3
  obtain ⟨vs, hv, rv⟩ := f3.lst
  cases dy with
  | int z =>
    cases r3
    obtain ⟨b1, b2, b3, q3⟩ := q3
    refine ⟨p, z, vs, rfl, rfl, hv, b1, b2, by rw [rv.length]; simpa using b3, fun p2 hp2 => ?_⟩
    obtain ⟨x4, m4⟩ := m3.newL hp2 (rv.rep z.toNat)
    rw [flat_one] at x4 m4
    exact k _ _ _ _ (x1.trans (x2.trans (x3.trans x4))) m4 (.ref p2) (q3 p2 (m3.free hp2))
  | _ => exact False.elim q3
end
end L3
set_option Elab.async false
set_option linter.all false
set_option maxRecDepth 100000
set_option maxHeartbeats 4000000
namespace L3
open PySem PySem.Spec PyProof.Rows L2
section
variable {bs : BS} {X : Cx} {a b : Expr} {ta tb : TE3} {pos p p2 pos2 : Pos}
theorem rds_rg {K : PySem.W.Frag} {H : Hp} (i j : Int) : RDs K H (rgV i j) (rgD i (j - i).toNat) := by
  unfold rgV rgD
  generalize List.range (j - i).toNat = l
  induction l with
  | nil => exact .nil
  | cons x r ih => exact .cons (.int _) ih
def wLstRg1 (ta : TE3) : TE3 := fun τ M Q => ta τ M fun d M1 => asI d fun n => (-(2 ^ 62) ≤ n ∧ n ≤ 16777216) ∧ ∀ q, M1 q = none → Q (.ref q) (mset M1 q (.lst (rgD 0 n.toNat)))
def wTupRg1 (ta : TE3) : TE3 := fun τ M Q => ta τ M fun d M1 => asI d fun n => (-(2 ^ 62) ≤ n ∧ n ≤ 16777216) ∧ Q (.tup (rgD 0 n.toNat)) M1
theorem rg1_ok {n : Int} (h : -(2 ^ 62) ≤ n ∧ n ≤ 16777216) : RgOk 0 n := ⟨by omega, by omega, by omega, by omega, by omega⟩
theorem e_listRg1 (hc : X.calm = true) (zl : X.mg "list" = none) (zr : X.mg "range" = none) (ha : PE3 bs X a ta) (gl : Gl X "list" := by rfl) (gr : Gl X "range" := by rfl)
    (na : starEach [a] X.env = (false, eval a X.env) :: starEach [] X.env := by rfl) (nb : starEach [.Call (.Name "range" p2) [a] [] pos2] X.env = (false, eval (.Call (.Name "range" p2) [a] [] pos2) X.env) :: starEach [] X.env := by rfl) :
    PE3 bs X (.Call (.Name "list" p) [.Call (.Name "range" p2) [a] [] pos2] [] pos) (wLstRg1 ta) := by
  refine PE.weak (pe_listRg hc gl zl (prg_1 gr zr ha na) nb) ?_
  rintro σ H Q ⟨τ, M, Q3, e, m, q, k⟩
  refine ⟨τ, M, _, e, m, q, fun v H1 d M1 x1 m1 r1 q1 => ?_⟩
  cases d with
  | int n =>
    cases r1
    refine ⟨n, rfl, rg1_ok q1.1, fun p hp => ?_⟩
    have l := rds_rg (K := X.K) (H := H1) 0 n
    rw [Int.sub_zero] at l
    obtain ⟨x2, m2⟩ := m1.newL hp l
    exact k _ _ _ _ (x1.trans x2) m2 (.ref p) (q1.2 p (m1.free hp))
  | _ => exact False.elim q1
end
end L3
set_option Elab.async false
set_option linter.all false
set_option maxRecDepth 100000
set_option maxHeartbeats 4000000
namespace L3
open PySem PySem.Spec PyProof.Rows L2
/-- the cell that goes over the tuple at a -/
abbrev cellT (a : Addr) : Obj := { cls := .type "tuple_iterator", data := .fields #[.ref a, .int 0 0] }
/-- the cell that counts with it -/
abbrev cellE (c : Addr) : Obj := { cls := .type "enumerate", data := .fields #[.none, .bool false, .ref c, rawInt 0, .none, .none] }
theorem newE_tup (a : Addr) (its : Array Value) : Meets (Builtin.«enumerate.__new__» ⟨[.type "enumerate", .ref a], []⟩)
    (fun _ R s => s.heap.IsTuple a its ∧ R (.ok (.ret (.ref (s.heap.push (cellT a)).objs.size))) { s with heap := (s.heap.push (cellT a)).push (cellE s.heap.objs.size) }) :=
  .of_wp fun prog w A R s h => by
    obtain ⟨hp, g, d, tk, os⟩ := s
    obtain ⟨ht, h⟩ := h
    have sub := sub_enumerate
    have go : ∀ {A' : Around} {E : Value → Shared → Prop} {Q : Value → Shared → Prop},
        Q (.ref hp.objs.size) ⟨hp.push (cellT a), g, d, tk, os⟩ → wpAny (model prog w) A' (pyIter (.ref a)) Q E ⟨hp, g, d, tk, os⟩ := fun q => wpAny_pyIter_tuple ht q
    wp_walk using go
    refine wpAny_stack_any fun _ => wpAny_pure ?_
    split
    · rename_i cl _ _ _ _ _
      cases (cl == Value.type "enumerate")
      all_goals
        wp_walk using go
        exact ⟨_, rfl, h⟩
    · wp_walk using go
      exact ⟨_, rfl, h⟩
section
variable {prog : Program} {w : World} {A : Around} {E : Value → Shared → Prop} {s : Shared}
theorem callE_tup {a : Addr} {its : Array Value} {Q : Value → Shared → Prop} (ht : s.heap.IsTuple a its)
    (h : ∀ h', IsEnum h' (s.heap.objs.size + 1) s.heap.objs.size 0 .none → h'.IsTupleIter s.heap.objs.size a 0 → (∀ b o, s.heap.get? b = some o → h'.get? b = some o) → Q (.ref (s.heap.objs.size + 1)) { s with heap := h' }) :
    wpAny (model prog w) A (call (.type "enumerate") [.ref a]) Q E s := by
  refine callType_new F.called_enumerate (by decide) (F.typeCall_enumerate_1 _) (F.newCall_enumerate_1 _) (fun _ => F.args_object_init_2 _ _) F.entry_enumerate_new (newE_tup a its) ⟨ht, ?_⟩
  have hz : (s.heap.push (cellT a)).objs.size = s.heap.objs.size + 1 := Heap.size_push ..
  show _ ∧ _
  rw [hz]
  have he : IsEnum ((s.heap.push (cellT a)).push (cellE s.heap.objs.size)) (s.heap.objs.size + 1) s.heap.objs.size 0 .none := by
    have z := Heap.get?_push_size (s.heap.push (cellT a)) (o := cellE s.heap.objs.size) rfl
    rwa [hz] at z
  have hi : ((s.heap.push (cellT a)).push (cellE s.heap.objs.size)).IsTupleIter s.heap.objs.size a 0 := ⟨_, Heap.get?_push_of_some _ (Heap.get?_push_size _ rfl), rfl, rfl⟩
  exact ⟨⟨_, he, rfl⟩, h _ he hi fun b o x => Heap.get?_push_of_some _ (Heap.get?_push_of_some _ x)⟩
end
/-- the tuple at a, each item in a new pair with its number -/
def IteT (K : PySem.W.Frag) (a : Addr) : It :=
  ⟨fun i H => ∃ (xs : List V) (x : V), SqT K H a xs ∧ xs[i]? = some x, fun i H v H' => ∃ T x, v = .ref T ∧ H T = none ∧ H' = upd H T (.tup [.int (i : Nat), x]) ∧ ∀ xs, SqT K H a xs → xs[i]? = some x, fun i H => ∃ xs : List V, SqT K H a xs ∧ xs.length = i⟩
theorem turn_enumT {P : Program} {w : World} {K : PySem.W.Frag} {elts : List Expr} {kk : Nat} {tpos : Pos} (a e it : Addr) (hat : a ≠ it) (hae : e ≠ a) :
    Turn P w K (.Tuple elts kk tpos) (IteT K a) [e, it] e (fun i h => (∃ old, IsEnum h e it ((i : Nat) : Int) old) ∧ h.IsTupleIter it a i ∧ e ≠ it) where
  mem := by simp
  obj := fun i h st b hb => by
    obtain ⟨⟨old, he⟩, ⟨o, ho, _, hd⟩, _⟩ := st
    rcases (by simpa using hb : b = e ∨ b = it) with z | z
    · subst z; exact ⟨_, he, fun v q => nomatch q⟩
    · subst z; exact ⟨o, ho, fun v q => by rw [hd] at q; cases q⟩
  keep := fun i h h' st k => ⟨⟨st.1.choose, k e (by simp) _ st.1.choose_spec⟩, st.2.1.at fun o q => k it (by simp) o q, st.2.2⟩
  item := by
    intro X hP hw hK hc i pins s σ H E I hf st hg
    subst hP hw hK
    obtain ⟨⟨old, he⟩, hit, hne⟩ := st
    obtain ⟨xs, x, hq, hx⟩ := hg
    obtain ⟨its, rv, p, hz⟩ := I.tuple hq
    obtain ⟨u, hu, ru⟩ := rv.get hx
    have hel : e < s.heap.objs.size := Heap.lt_size he
    have hil : it < s.heap.objs.size := by obtain ⟨_, q, _⟩ := hit; exact Heap.lt_size q
    have p' : s.heap.IsTuple a its.toArray := p
    have hsz : i < its.toArray.size := by
      have := (List.getElem?_eq_some_iff.mp hu).1
      simpa using this
    have hef : e ∉ [it, a] := by simp [hne, hae]
    have hd1 : X.A.in1.handled = none := I.ok.hd hc
    refine wpAny_pyNext_enum_itemD (Draws.tuple hd1 it a hat its.toArray) he ⟨hit, p'⟩ hsz hne hef fun y h' tk hy ho hst hT hsz2 hk => ?_
    have hyu : y = u := by
      have e1 : its.toArray[i]? = some u := by simpa using hu
      rw [e1] at hy; exact (Option.some.inj hy).symm
    subst hyu
    refine ⟨_, rfl, wpAny_letOwnedTupleGo_enum (s := { s with heap := h', toks := tk + 1 }) ho fun h2 he2 sb => ?_⟩
    have hT2 : h2.get? s.heap.objs.size = some { cls := .type "tuple", data := .seq #[.int i tk, y] } := (sb.2 _ (Nat.ne_of_gt hel)).trans hT
    have new : ObjOk X.prog X.w (upd H s.heap.objs.size (.tup [.int (i : Nat), x])) h2 s.heap.objs.size (.tup [.int (i : Nat), x]) := ⟨by show 2 ≤ sizeLine; decide, [.int i tk, y], .cons ⟨_, rfl⟩ (.cons ru .nil), ⟨_, hT2, rfl, _, rfl⟩⟩
    have I1 : Inv X pins σ (upd H s.heap.objs.size (.tup [.int (i : Nat), x])) { s with heap := h2, toks := tk + 1 } :=
      I.turnedNew (t' := tk + 1) (ch := [e, it]) (fun b ob hb q => by
        have n1 : b ≠ e := fun z => hb (by simp [z])
        have n2 : b ≠ it := fun z => hb (by simp [z])
        exact (sb.2 b n1).trans (hk b ob n1 n2 q)) hf (Nat.le_refl _) new
    refine ⟨.ref s.heap.objs.size, _, I1, rfl, ⟨_, x, rfl, I.hok.fresh (Nat.le_refl _), rfl, fun ys hy => by rw [I.tuple_inj hy hq]; exact hx⟩, ⟨⟨y, ?_⟩, hst.1.at fun o q => (sb.2 it (Ne.symm hne)).trans q, hne⟩, fun b hb => ?_⟩
    · have e1 : ((i + 1 : Nat) : Int) = (i : Int) + 1 := by omega
      rw [e1]; exact he2
    · have hb' : b < s.heap.objs.size := by
        rcases (by simpa using hb : b = e ∨ b = it) with z | z <;> subst z <;> assumption
      rw [upd_ne (Nat.ne_of_lt hb')]
      exact (hf b hb).1
  done := by
    intro X hP hw hK hc i pins s σ H E I hf st hg
    subst hP hw hK
    obtain ⟨⟨old, he⟩, hit, hne⟩ := st
    obtain ⟨xs, hq, hx⟩ := hg
    obtain ⟨its, rv, p, hz⟩ := I.tuple hq
    obtain ⟨f0, f1, f2, f3, f4, f5⟩ := hf it (by simp)
    have hd1 : X.A.in1.handled = none := I.ok.hd hc
    have p' : s.heap.IsTuple a its.toArray := p
    have hn : its.toArray.size = i := by rw [List.size_toArray, ← rv.length, hx]
    have hit' : s.heap.IsTupleIter it a its.toArray.size := by rw [hn]; exact hit
    exact wpAny_pyNext_enum_endD (Draws.tuple hd1 it a hat its.toArray) he ⟨hit', p'⟩ fun h' eb => ⟨rfl, I.turned (t' := s.toks) (fun b o hb q => eb b o hb q) f0 f1 f3 f4 f5⟩
  self := fun A i s Q E st h => wpAny_pyIter_enum st.1.choose_spec h
def iEnumA (K : PySem.W.Frag) (ta : TA) : TI := fun σ H R => ta σ H fun vs H1 => ∃ a xs, vs = [.ref a] ∧ ((SqL K H1 a xs ∧ R (Ite K a) H1) ∨ (SqT K H1 a xs ∧ R (IteT K a) H1))
theorem pi_enumA {X : Cx} {e : Expr} {ta : TA} {p pos tpos : Pos} {elts : List Expr} {kk : Nat} (hg : Gl X "enumerate") (hm : X.mg "enumerate" = none) (ha : PA X [e] ta) (hs : starEach [e] X.env = [(false, eval e X.env)] := by rfl) :
    PI X (.Tuple elts kk tpos) (.Call (.Name "enumerate" p) [e] [] pos) (iEnumA X.K ta) := by
  refine ⟨fun pins s σ H R I h => ?_⟩
  refine Call_ (ld_blt I hg hm boot_enumerate (PyProof.Rows.callWith_type1 (thn (ha.run pos pins s σ H _ I h) fun us s1 ⟨vs, H1, I1, r1, a, xs, ex, q⟩ => ?_) hs rfl))
  subst ex
  cases r1 with
  | cons r rr =>
    cases rr
    cases r
    have fresh : ∀ b, b ∈ [s1.heap.objs.size + 1, s1.heap.objs.size] → FpOk X pins H1 b := fun b hb => by
      have hle : s1.heap.objs.size ≤ b := by
        rcases (by simpa using hb : b = s1.heap.objs.size + 1 ∨ b = s1.heap.objs.size) with z | z <;> omega
      exact I1.fpOk hle (I1.hok.fresh hle)
    rcases q with ⟨hq, q⟩ | ⟨hq, q⟩
    · obtain ⟨its, rv, p', hz⟩ := I1.list hq
      refine call_enumerate_list p'.isList fun h' he hit hsz hk => wpAny_pyIter_enum he ?_
      exact ⟨s1.heap.objs.size + 1, [s1.heap.objs.size + 1, s1.heap.objs.size], _, _, H1, rfl, I1.kept (t' := s1.toks) hk, turn_enum a _ _, ⟨⟨.none, he⟩, hit, Nat.succ_ne_self _⟩, fresh, q⟩
    · obtain ⟨its, rv, p', hz⟩ := I1.tuple hq
      have p2 : s1.heap.IsTuple a its.toArray := p'
      have hal : a < s1.heap.objs.size := by obtain ⟨_, y, _⟩ := p2; exact Heap.lt_size y
      refine callE_tup p2 fun h' he hit hk => wpAny_pyIter_enum he ?_
      exact ⟨s1.heap.objs.size + 1, [s1.heap.objs.size + 1, s1.heap.objs.size], _, _, H1, rfl, I1.kept (t' := s1.toks) hk, turn_enumT a (s1.heap.objs.size + 1) s1.heap.objs.size (Nat.ne_of_lt hal) (Nat.ne_of_gt (Nat.lt_succ_of_lt hal)), ⟨⟨.none, he⟩, hit, Nat.succ_ne_self _⟩, fresh, q⟩
section
variable {bs : BS} {X : Cx}
def enD (ds : List D) : List D := (List.range ds.length).map fun i => .tup [.int (i : Nat), ds.getD i .non]
theorem enD_get {ds : List D} {i : Nat} {d : D} (h : (enD ds)[i]? = some d) : ∃ x, ds[i]? = some x ∧ d = .tup [.int (i : Nat), x] := by
  unfold enD at h
  rw [List.getElem?_map] at h
  obtain ⟨j, hj, rfl⟩ := Option.map_eq_some_iff.mp h
  obtain ⟨hlt, hij⟩ := List.getElem?_eq_some_iff.mp hj
  rw [List.getElem_range] at hij
  subst hij
  rw [List.length_range] at hlt
  refine ⟨ds[i], List.getElem?_eq_getElem hlt, ?_⟩
  rw [List.getD_eq_getElem?_getD, List.getElem?_eq_getElem hlt]; rfl
theorem enD_len {ds : List D} : (enD ds).length = ds.length := by simp [enD]
theorem it_enT {K : PySem.W.Frag} {a : Addr} {vs : List V} {ds : List D} : ItOk K (IteT K a) (fun H => SqT K H a vs ∧ RDs K H vs ds) (fun _ => True) (enD ds) where
  mono := fun M M' H H' m x p => ⟨(x.still0 m).1 _ _ p.1, p.2.go (x.still0 m)⟩
  stop := fun H M m p _ => ⟨vs, p.1, by rw [p.2.length, enD_len]⟩
  go := fun i d H M m p _ hd => by
    obtain ⟨x, hx, rfl⟩ := enD_get hd
    obtain ⟨v, hv, r⟩ := p.2.get hx
    refine ⟨⟨vs, v, p.1, hv⟩, ?_⟩
    rintro x' H' ⟨T, v', rfl, hT, rfl, e1⟩
    have f1 := e1 vs p.1
    rw [hv] at f1; cases f1
    obtain ⟨x2, m2⟩ := m.upNew (o := .tup [.int (i : Nat), v]) hT
    exact ⟨x2, m2, .tup (SqT.of upd_same) (.cons (.int _) (.cons (r.go (x2.still0 m)) .nil))⟩
theorem it_enL {K : PySem.W.Frag} {a : Addr} {ds : List D} : ItOk K (Ite K a) (fun _ => True) (fun M => M a = some (.lst ds)) (enD ds) where
  mono := fun _ _ _ _ _ _ _ => True.intro
  stop := fun H M m _ g => by
    obtain ⟨vs, hv, l⟩ := m a _ g
    exact ⟨vs, SqL.of hv, by rw [l.length, enD_len]; exact Nat.le_refl _⟩
  go := fun i d H M m _ g hd => by
    obtain ⟨x, hx, rfl⟩ := enD_get hd
    obtain ⟨vs, hvs, l⟩ := m a _ g
    obtain ⟨v, hv, r⟩ := l.get hx
    refine ⟨⟨vs, v, SqL.of hvs, hv⟩, ?_⟩
    rintro x' H' ⟨T, v', rfl, hT, rfl, e1⟩
    have f1 := e1 vs (SqL.of hvs)
    rw [hv] at f1; cases f1
    obtain ⟨x2, m2⟩ := m.upNew (o := .tup [.int (i : Nat), v]) hT
    exact ⟨x2, m2, .tup (SqT.of upd_same) (.cons (.int _) (.cons (r.go (x2.still0 m)) .nil))⟩
theorem it_enR {K : PySem.W.Frag} {a : Addr} {vs : List V} {ds : List D} : ItOk K (Ite K a) (fun H => RoL K H a vs ∧ RDs K H vs ds) (fun _ => True) (enD ds) where
  mono := fun M M' H H' m x p => ⟨(x.still0 m).2 _ _ p.1, p.2.go (x.still0 m)⟩
  stop := fun H M m p _ => ⟨vs, p.1.sq, by rw [p.2.length, enD_len]; exact Nat.le_refl _⟩
  go := fun i d H M m p _ hd => by
    obtain ⟨x, hx, rfl⟩ := enD_get hd
    obtain ⟨v, hv, r⟩ := p.2.get hx
    refine ⟨⟨vs, v, p.1.sq, hv⟩, ?_⟩
    rintro x' H' ⟨T, v', rfl, hT, rfl, e1⟩
    have f1 := e1 vs p.1.sq
    rw [hv] at f1; cases f1
    obtain ⟨x2, m2⟩ := m.upNew (o := .tup [.int (i : Nat), v]) hT
    exact ⟨x2, m2, .tup (SqT.of upd_same) (.cons (.int _) (.cons (r.go (x2.still0 m)) .nil))⟩
def wEnum (t : TA3) : TI3 := fun τ M R => t τ M fun ds M1 => match ds with
  | [d] => asL (items M1 d) fun xs => R (enD xs) (keepG M1 d xs) M1
  | _ => False
theorem w_enum {a : Expr} {ta : TA3} {p pos tpos : Pos} {elts : List Expr} {kk : Nat} (hm : X.mg "enumerate" = none) (ha : PA3 bs X [a] ta) (hg : Gl X "enumerate" := by rfl)
    (hs : starEach [a] X.env = [(false, eval a X.env)] := by rfl) : PI3 bs X (.Tuple elts kk tpos) (.Call (.Name "enumerate" p) [a] [] pos) (wEnum ta) := by
  refine PI.weak (pi_enumA hg hm ha hs) ?_
  rintro σ H R ⟨τ, M, R3, e, m, q, k⟩
  refine ⟨τ, M, _, e, m, q, fun vs H1 ds M1 x1 m1 r1 q1 => ?_⟩
  split at q1
  · rename_i d
    unfold asL at q1
    split at q1
    · rename_i xs hd
      cases r1 with
      | cons r rn =>
        cases rn
        cases d with
        | tup es =>
          cases hd
          cases r with
          | tup h1 h2 => exact ⟨_, _, rfl, .inr ⟨h1, k _ _ _ _ H1 M1 x1 m1 it_enT ⟨h1, h2⟩ q1⟩⟩
        | rol es =>
          cases hd
          cases r with
          | rol h1 h2 => exact ⟨_, _, rfl, .inl ⟨h1.sq, k _ _ _ _ H1 M1 x1 m1 it_enR ⟨h1, h2⟩ q1⟩⟩
        | ref b =>
          cases r
          obtain ⟨vs, hv, l⟩ := m1.at (lstOf_some hd)
          exact ⟨_, vs, rfl, .inl ⟨SqL.of hv, k _ _ _ _ H1 M1 x1 m1 it_enL True.intro q1⟩⟩
        | _ => cases hd
    · exact False.elim q1
  · exact False.elim q1
end
section
variable {bs : BS} {X : Cx}
def wTupRg2 (ta tb : TE3) : TE3 := fun τ M Q => ta τ M fun d M1 => tb τ M1 fun e M2 => asI d fun i => asI e fun j => (-(2 ^ 60) ≤ i ∧ i < 2 ^ 60 ∧ -(2 ^ 60) ≤ j ∧ j < 2 ^ 60 ∧ j - i ≤ 16777216) ∧ Q (.tup (rgD i (j - i).toNat)) M2
end
end L3
set_option Elab.async false
set_option linter.all false
set_option maxRecDepth 100000
set_option maxHeartbeats 4000000
namespace L3
open PySem PySem.Spec PyProof.Rows L2
/-- a new list may be taken as a thing that nobody writes -/
def FQ (Q : VK) : VK := fun v H => Q v H ∨ ∃ p vs, H p = some (.lst vs) ∧ ∀ o, Q v (upd H p (.frz o (.lst vs)))
section
variable {X : Cx} {pins : List (Addr × Obj)} {σ : L2.St} {H : Hp} {s : Shared}
theorem inv_frz {p : Addr} {vs : List V} (I : Inv X pins σ H s) (h : H p = some (.lst vs)) : ∃ o, Inv X pins σ (upd H p (.frz o (.lst vs))) s := by
  obtain ⟨z, its, n, r, e⟩ := I.hok p _ h
  have hok : HOk X.prog X.w (upd H p (.frz { cls := .type "list", data := .seq its.toArray n } (.lst vs))) s.heap := by
    intro b u q
    by_cases hb : b = p
    · subst hb
      rw [upd_same] at q
      cases q
      exact ⟨e, z, its, n, r, e⟩
    · rw [upd_ne hb] at q
      refine (I.hok b u q).stay (fun _ _ _ w => w) (fun c w => ?_) fun c xs w => ?_
      · rw [upd_ne (by intro y; subst y; rw [h] at w; cases w)]; exact w
      · rw [upd_ne (by intro y; subst y; rw [h] at w; cases w)]; exact w
  refine ⟨_, I.un (h' := s.heap) (t' := s.toks) (H' := upd H p (.frz { cls := .type "list", data := .seq its.toArray n } (.lst vs))) ⟨fun _ _ q _ _ _ => q, fun b o q _ _ _ => ⟨o.slots, q⟩, fun b o q n' _ => ?_, fun b o q _ => ⟨o, q⟩, fun b xs q => ?_, fun b o u q => ?_, fun b ps q => ⟨#[], ?_⟩⟩ hok⟩
  · rw [upd_ne (by intro w; subst w; rw [n'] at h; cases h)]; exact n'
  · rw [upd_ne (by intro w; subst w; rw [h] at q; cases q)]; exact q
  · rw [upd_ne (by intro w; subst w; rw [h] at q; cases q)]; exact q
  · rw [upd_ne (by intro w; subst w; rw [h] at q; cases q), q]; simp
theorem ep_frz {Q : VK} {u : Value} (h : EP X pins σ (FQ Q) u s) : EP X pins σ Q u s := by
  obtain ⟨v, H', I, r, q | ⟨p, vs, hp, k⟩⟩ := h
  · exact ⟨v, H', I, r, q⟩
  · obtain ⟨o, I'⟩ := inv_frz I hp
    exact ⟨v, _, I', r, k o⟩
end
section
variable {X : Cx}
theorem PE_frz {e : Expr} {t : TE} (h : PE X e t) : PE X e fun σ H Q => t σ H (FQ Q) := ⟨fun pins s σ H Q I q => thn (h.run pins s σ H _ I q) fun _ _ => ep_frz⟩
theorem OpR_frz {f : Value → Value → Sem Value} {r : R2} (h : OpR X f r) : OpR X f fun x y H Q => r x y H (FQ Q) := fun pins s σ H x y v u Q I r1 r2 q => thn (h pins s σ H x y v u _ I r1 r2 q) fun _ _ => ep_frz
theorem CallR_frz {f : Value} {r : List V → Hp → VK → Prop} (h : CallR X f r) : CallR X f fun xs H Q => r xs H (FQ Q) := fun pins s σ H xs us Q I r1 q => thn (h pins s σ H xs us _ I r1 q) fun _ _ => ep_frz
def FD (D : Ends) : Ends := { nx := fun σ H => D.nx σ H ∨ ∃ p vs, H p = some (.lst vs) ∧ ∀ o, D.nx σ (upd H p (.frz o (.lst vs))), rt := D.rt, bk := D.bk, ct := D.ct }
theorem PS_frz {st : Stmt} {t : TS} (h : PS X st t) : PS X st fun D σ H => t (FD D) σ H := ⟨fun pins s σ H D I q => thn (h.run pins s σ H _ I q) fun f s' z => by
  cases f with
  | next =>
    obtain ⟨σ', H', J, q | ⟨p, vs, hp, k⟩⟩ := z
    · exact ⟨σ', H', J, q⟩
    · obtain ⟨o, J'⟩ := inv_frz J hp
      exact ⟨σ', _, J', k o⟩
  | brk => exact z
  | cont => exact z
  | ret u => exact z⟩
end
section
variable {K : PySem.W.Frag} {bs : BS} {M M1 : Mp} {H H1 : Hp} {p : Addr} {vs : List V} {ds : List D} {Q : VK}
theorem still_frz {o : Obj} (h : H p = some (.lst vs)) : Still K H (upd H p (.frz o (.lst vs))) := by
  refine ⟨fun a xs q => ?_, fun a xs q => ?_⟩
  · rcases q with (q | ⟨u, q⟩) | q
    · exact .inl (.inl (by rw [upd_ne (by intro z; subst z; rw [h] at q; cases q)]; exact q))
    · exact .inl (.inr ⟨u, by rw [upd_ne (by intro z; subst z; rw [h] at q; cases q)]; exact q⟩)
    · exact .inr q
  · rcases q with ⟨u, q⟩ | q
    · exact .inl ⟨u, by rw [upd_ne (by intro z; subst z; rw [h] at q; cases q)]; exact q⟩
    · exact .inr q
/-- a list just laid -/
theorem fq_new (m : RM K bs H M) (hp : H p = none) (r : RDs K H vs ds) (k : ∀ H', Ext M M H H' → RM K bs H' M → RD K H' (.ref p) (.rol ds) → Q (.ref p) H') : FQ Q (.ref p) (upd H p (.lst vs)) := by
  refine .inr ⟨p, vs, upd_same, fun o => ?_⟩
  rw [upd_upd]
  obtain ⟨x2, m2⟩ := m.upNew (o := .frz o (.lst vs)) hp
  exact k _ x2 m2 (.rol (.inl ⟨o, upd_same⟩) (r.go (x2.still m)))
end
/-- M without a -/
def mdel (M : Mp) (a : Addr) : Mp := fun b => if b = a then none else M b
/-- a list in M is taken out, as data -/
def frzK (Q : VK3) : VK3 := fun d M => match d with
  | .ref p => match M p with
    | some (.lst ds) => Q (.rol ds) (mdel M p)
    | _ => False
  | d => Q d M
def wFrz (te : TE3) : TE3 := fun τ M Q => te τ M (frzK Q)
section
variable {bs : BS} {X : Cx} {e a b : Expr} {te ta tb : TE3} {t : TA3} {es : List Expr} {pos : Pos}
def wLstF (t : TA3) : TE3 := fun τ M Q => t τ M fun xs M1 => xs.length ≤ sizeLine ∧ Q (.rol xs) M1
theorem e_lstF (h : PA3 bs X es t) : PE3 bs X (.List es pos) (wLstF t) := by
  refine PE.weak (PE_frz (pe_lst h)) ?_
  rintro σ H Q ⟨τ, M, Q3, e, m, q, k⟩
  refine ⟨τ, M, _, e, m, q, fun zs H1 ds M1 x1 m1 r1 q1 => ⟨by rw [r1.length]; exact q1.1, fun p hp => ?_⟩⟩
  exact fq_new m1 hp r1 fun H' x2 m2 r2 => k _ H' _ M1 (x1.trans x2) m2 r2 q1.2
def wRepF (te tb : TE3) : TE3 := fun τ M Q => te τ M fun d M1 => tb τ M1 fun i M2 => asI i fun k => -(2 ^ 63) ≤ k ∧ k < 2 ^ 63 ∧ k.toNat ≤ sizeLine ∧ Q (.rol (List.replicate k.toNat d)) M2
variable {p p2 pos2 : Pos}
def wLstRgF1 (ta : TE3) : TE3 := fun τ M Q => ta τ M fun d M1 => asI d fun n => (-(2 ^ 62) ≤ n ∧ n ≤ 16777216) ∧ Q (.rol (rgD 0 n.toNat)) M1
def wLstRgF2 (ta tb : TE3) : TE3 := fun τ M Q => ta τ M fun d M1 => tb τ M1 fun e M2 => asI d fun i => asI e fun j => (-(2 ^ 60) ≤ i ∧ i < 2 ^ 60 ∧ -(2 ^ 60) ≤ j ∧ j < 2 ^ 60 ∧ j - i ≤ 16777216) ∧ Q (.rol (rgD i (j - i).toNat)) M2
end
section
variable {bs : BS} {X : Cx} {elt tg iter : Expr} {ifs : List Expr} {scope : Scope} {own : List (Str × Nat)} {pos : Pos} {wi : TI3} {g : TG3} {tt : TT3} {te : TE3} {ix : List Nat}
def wLcF (wi : TI3) (g : TG3) (tt : TT3) (te : TE3) (vs : List Nat) : TE3 := fun τ M Q => wLcL wi g tt te vs τ M fun acc M2 => Q (.rol acc) M2
theorem ext_frz {M M' : Mp} {H H' : Hp} {L : Addr} {vs : List V} {o : Obj} (x : Ext M M' H H') (hv : H' L = some (.lst vs)) (hf : M' L = none) (z : M L ≠ none ∨ H L = none) : Ext M M' H (upd H' L (.frz o (.lst vs))) := by
  refine ⟨fun a u ha hm => ?_, x.dom⟩
  by_cases e : a = L
  · subst e
    rcases z with z | z
    · exact absurd hm z
    · rw [ha] at z; cases z
  · rw [upd_ne e]; exact x.fr a u ha hm
theorem lift_lcF (hix : ∀ i ∈ ix, i ∈ own.map (·.2)) : ∀ σ H (Q : VK), lift X.K bs (wLcF wi g tt te (own.map (·.2))) σ H Q → tLc (liftI X.K bs wi) (liftG X.K bs ix g) (liftT X.K bs tt) (lift X.K bs te) (own.map (·.2)) σ H (FQ Q) := by
  rintro σ H Q ⟨τ, M, Q3, e, m, q, k⟩
  refine lift_lcL hix σ H _ ⟨τ, M, _, e, m, q, fun L H' acc M' x m' f z q' => ?_⟩
  obtain ⟨vs, hv, r⟩ := f.lst
  refine .inr ⟨L, vs, hv, fun o => ?_⟩
  have st := still_frz (K := X.K) (o := o) hv
  have y := ext_frz (o := o) x hv f.free z
  refine k (.ref L) _ (.rol acc) M' y (m.to y fun a u h => (m'.m a u h).go st fun w hw => ?_) (.rol (.inl ⟨o, upd_same⟩) (r.go st)) q'
  rw [upd_ne (ne_m h f.free)]; exact hw
theorem e_lcF (hix : ∀ i ∈ ix, i ∈ own.map (·.2)) (hc : X.calm = true) (hN : X.N.Nodup) (hi : PI3 bs X tg iter wi) (ok : BlkOk X.N X.env.scope scope own)
    (hg : ∀ (s : Shared) (H : Hp) (C : Addr) (cl : List (Str × Addr)) (fp : List Addr), PG3 bs (X.blk s H scope (compEnvC scope cl C X.env) fp) tg ix g)
    (ht : ∀ (s : Shared) (H : Hp) (C : Addr) (cl : List (Str × Addr)) (fp : List Addr), PTs3 bs (X.blk s H scope (compEnvC scope cl C X.env) fp) ifs tt)
    (he : ∀ (s : Shared) (H : Hp) (C : Addr) (cl : List (Str × Addr)) (fp : List Addr), PE3 bs (X.blk s H scope (compEnvC scope cl C X.env) fp) elt te) (hs : ∀ x, foldedSetIterable iter X.env x = pure x := by intro _; rfl) :
    PE3 bs X (.ListComp elt [⟨tg, iter, ifs, 0⟩] scope pos) (wLcF wi g tt te (own.map (·.2))) :=
  PE.weak (PE_frz (pe_lc (g := liftG X.K bs ix g) (tt := liftT X.K bs tt) (te := lift X.K bs te) hc hN hi ok hg ht he hs)) (lift_lcF hix)
theorem s_setLcF (hix : ∀ i ∈ ix, i ∈ own.map (·.2)) {i : Nat} {y : Str} {py spos : Pos} (hc : X.calm = true) (hN : X.N.Nodup) (hy : X.N[i]? = some y) (hyl : X.env.scope.names.lookup y = some .local)
    (hsw : swapsWith (.ListComp elt [⟨tg, iter, ifs, 0⟩] scope pos) (some (.Name y py)) spos.line X.env = pure true) (hi : PI3 bs X tg iter wi) (ok : BlkOk X.N X.env.scope scope own)
    (hg : ∀ (s : Shared) (H : Hp) (C : Addr) (cl : List (Str × Addr)) (fp : List Addr), PG3 bs (X.blk s H scope (compEnvC scope cl C X.env) fp) tg ix g)
    (ht : ∀ (s : Shared) (H : Hp) (C : Addr) (cl : List (Str × Addr)) (fp : List Addr), PTs3 bs (X.blk s H scope (compEnvC scope cl C X.env) fp) ifs tt)
    (he : ∀ (s : Shared) (H : Hp) (C : Addr) (cl : List (Str × Addr)) (fp : List Addr), PE3 bs (X.blk s H scope (compEnvC scope cl C X.env) fp) elt te) (hs : ∀ x, foldedSetIterable iter X.env x = pure x := by intro _; rfl) :
    PS3 bs X (.Assign [.Name y py] (.ListComp elt [⟨tg, iter, ifs, 0⟩] scope pos) spos) (wSet i (wLcF wi g tt te (own.map (·.2)))) := by
  refine PS.weak (PS_frz (ps_setLc (g := liftG X.K bs ix g) (tt := liftT X.K bs tt) (te := lift X.K bs te) hc hN hy hyl hsw hi ok hg ht he hs)) ?_
  rintro D σ H ⟨τ, M, D3, e, m, q, kn, _⟩
  exact lift_lcF hix σ H (fun v H' => D.nx (σ.set i (some v)) H') ⟨τ, M, _, e, m, q, fun v H' d M' x m1 r q1 => kn _ _ H' M' x ((e.go (x.still m)).set r) m1 q1⟩
end
def LstV (K : PySem.W.Frag) (H : Hp) (a : Addr) (xs : List V) : Prop := H a = some (.lst xs) ∨ RoL K H a xs
theorem LstV.sq {K : PySem.W.Frag} {H : Hp} {a : Addr} {xs : List V} (h : LstV K H a xs) : SqL K H a xs := by
  rcases h with h | h
  · exact SqL.of h
  · exact h.sq
def lstI (M : Mp) : D → Option (List D)
  | .rol ds => some ds
  | .ref a => lstOf (M a)
  | _ => none
theorem lst_of {K : PySem.W.Frag} {H : Hp} {M : Mp} {v : V} {d : D} {ds : List D} (m : RM0 K H M) (r : RD K H v d) (h : lstI M d = some ds) : ∃ p vs, v = .ref p ∧ LstV K H p vs ∧ RDs K H vs ds := by
  cases d with
  | rol es =>
    cases r with
    | rol h1 h2 => cases h; exact ⟨_, _, rfl, .inr h1, h2⟩
  | ref a =>
    cases r
    obtain ⟨vs, hv, l⟩ := m a _ (lstOf_some h)
    exact ⟨_, _, rfl, .inl hv, l⟩
  | _ => cases h
theorem inv_lstV {X : Cx} {pins : List (Addr × Obj)} {σ : L2.St} {H : Hp} {s : Shared} {l : Addr} {xs : List V} (I : Inv X pins σ H s) (h : LstV X.K H l xs) :
    xs.length ≤ sizeLine ∧ ∃ (its : List Value) (n : Nat), Vals xs its ∧ xs.length = its.length ∧ s.heap.get? l = some { cls := .type "list", data := .seq its.toArray n } := by
  rcases h with h | ⟨o, h⟩ | ⟨its, n, h, z, v⟩
  · obtain ⟨z, its, n, r, e⟩ := I.hok l _ h
    exact ⟨z, its, n, r, r.length, e⟩
  · obtain ⟨_, z, its, n, r, e⟩ := I.hok l _ h
    exact ⟨z, its, n, r, r.length, e⟩
  · have e := I.kIn l _ h
    have hl := v.length
    exact ⟨by rw [hl, Array.length_toList]; exact z, its.toList, n, v, hl, by simpa using e⟩
section
variable {bs : BS} {X : Cx}
def rCatV (K : PySem.W.Frag) : R2 := fun x y H Q => ∃ l b xs zs, x = .ref l ∧ y = .ref b ∧ LstV K H l xs ∧ LstV K H b zs ∧ xs.length + zs.length ≤ sizeLine ∧ ∀ p, H p = none → Q (.ref p) (upd H p (.lst (xs ++ zs)))
theorem op_catV : OpR X (binaryOp .Add) (rCatV X.K) := by
  intro pins s σ H x y v u Q I rx ry h
  obtain ⟨l, b, xs, zs, rfl, rfl, hH, hB, hz, q⟩ := h
  cases rx
  cases ry
  obtain ⟨z, its, n, r, hl, e⟩ := inv_lstV I hH
  obtain ⟨z2, its2, n2, r2, hl2, e2⟩ := inv_lstV I hB
  refine PySem.P.add_list e e2 ?_ (by rw [List.size_toArray, List.size_toArray]; omega)
  have ea : its.toArray ++ its2.toArray = (its ++ its2).toArray := by simp
  rw [ea]
  exact ⟨.ref _, _, I.lnew (t' := s.toks) (r.append r2) (by rw [List.length_append]; omega), rfl, q _ I.fresh⟩
def catL (xs ys : List D) (M : Mp) (Q : VK3) : Prop := xs.length + ys.length ≤ sizeLine ∧ Q (.rol (xs ++ ys)) M
def catM (xs ys : List D) (M : Mp) (Q : VK3) : Prop := xs.length + ys.length ≤ sizeLine ∧ ∀ p, M p = none → Q (.ref p) (mset M p (.lst (xs ++ ys)))
/-- + whose list is data -/
def oAddF : R23 := fun d e M Q => match d with
  | .int _ => oAdd d e M Q
  | .str _ => oAdd d e M Q
  | .tup _ => oAdd d e M Q
  | d => asL (lstI M d) fun xs => asL (lstI M e) fun ys => catL xs ys M Q
/-- + whose list may be written -/
def oAddM : R23 := fun d e M Q => asL (lstI M d) fun xs => asL (lstI M e) fun ys => catM xs ys M Q
theorem op3w {f : Value → Value → Sem Value} {r : R23} {d e : D} {x y : V} {H : Hp} {M : Mp} {Q : VK} {Q3 : VK3} (ho : OpR X f (lift2 X.K bs r)) (r1 : RD X.K H x d) (r2 : RD X.K H y e) (m : RM X.K bs H M) (q : r d e M Q3)
    (k : ∀ v H' z M', Ext M M' H H' → RM X.K bs H' M' → RD X.K H' v z → Q3 z M' → Q v H') : ∃ r2 : R2, OpR X f r2 ∧ r2 x y H Q := ⟨_, ho, d, e, M, Q3, r1, r2, m, q, k⟩
theorem o_addF : OpR X (binaryOp .Add) (lift2 X.K bs oAddF) := op3 fun d e x y H M Q Q3 r1 r2 m q k => by
  have li : (asL (lstI M d) fun xs => asL (lstI M e) fun ys => catL xs ys M Q3) → ∃ r2 : R2, OpR X (binaryOp .Add) r2 ∧ r2 x y H Q := fun q => by
    unfold asL at q
    split at q
    · rename_i xs hx
      split at q
      · rename_i ys hy
        obtain ⟨a, vs, rfl, hv, l1⟩ := lst_of m.m r1 hx
        obtain ⟨b, ws, rfl, hw, l2⟩ := lst_of m.m r2 hy
        refine ⟨_, OpR_frz op_catV, a, b, vs, ws, rfl, rfl, hv, hw, by rw [l1.length, l2.length]; exact q.1, fun p hp => ?_⟩
        exact fq_new m hp (l1.app l2) fun H' x2 m2 r3 => k _ H' _ M x2 m2 r3 q.2
      · exact False.elim q
    · exact False.elim q
  cases d with
  | int _ => exact op3w o_add r1 r2 m q k
  | str _ => exact op3w o_add r1 r2 m q k
  | tup _ => exact op3w o_add r1 r2 m q k
  | _ => exact li q
def rRepV (K : PySem.W.Frag) : R2 := fun x y H Q => ∃ l k xs, x = .ref l ∧ y = .int k ∧ LstV K H l xs ∧ -(2 ^ 63) ≤ k ∧ k < 2 ^ 63 ∧ xs.length * k.toNat ≤ sizeLine ∧
  ∀ p, H p = none → Q (.ref p) (upd H p (.lst (List.replicate k.toNat xs).flatten))
theorem op_repV : OpR X (binaryOp .Mult) (rRepV X.K) := by
  intro pins s σ H x y v u Q I rx ry h
  obtain ⟨l, k, xs, rfl, rfl, hH, h1, h2, hz, q⟩ := h
  cases rx
  obtain ⟨t, rfl⟩ := ry
  obtain ⟨z, its, n, r, hl, e⟩ := inv_lstV I hH
  have hlen : its.toArray.size * k.toNat ≤ sizeLine := by rw [List.size_toArray, ← hl]; exact hz
  have hcap : ¬ its.toArray.size * k.toNat > (2 ^ 63 - 1) / 8 := by
    have : (sizeLine : Nat) ≤ (2 ^ 63 - 1) / 8 := by decide
    omega
  have hfit : ¬ (!Builtin.List.listFitsIndex k) = true := by
    rw [fitsIndex_both h1 h2]
    exact Bool.false_ne_true
  have hlong : ¬ Builtin.List.listTooLong (its.toArray.size * k.toNat) = true := by
    rw [notLongL hlen]
    exact Bool.false_ne_true
  have hnew : List.foldl (fun x1 x2 => x1 ++ x2) #[] (List.replicate (if its.toArray.isEmpty = true then 0 else k.toNat) its.toArray) = (List.replicate k.toNat its).flatten.toArray := by
    have f0 : ∀ m : Nat, List.foldl (fun x1 x2 => x1 ++ x2) #[] (List.replicate m its.toArray) = (List.replicate m its).flatten.toArray := fun m => by
      have := foldl_rep its m []
      rw [List.nil_append] at this
      exact this
    rw [f0]
    cases its with
    | nil => simp
    | cons a r' => rw [if_neg (by simp)]
  refine wpAny_binaryOp_repeat_ref (T := "list") (U := "int") (by decide) ⟨_, e, rfl⟩ (fun s' => typeIs_int s' k t) noFill_list_mul F.fills_int_mul F.slot_int_rmul repeat_list F.slot_int_index.lookup
    (call_meets F.slot_int_rmul (typeIs_int s k t) F.entry_int_rmul (F.args_int_rmul_2 _ _) (int___rmul___int_list k t l its.toArray n)
      ⟨e, rfl, ⟨_, e, rfl⟩, call_meets F.slot_list_mul ⟨_, e, rfl⟩ F.entry_list_mul (F.args_list_mul_2 _ _) (AutoListH.list___mul___list_int_3 l its.toArray n k t hfit hcap hlong) ⟨e, ?_⟩⟩)
  rw [hnew]
  exact ⟨.ref _, _, I.lnew (t' := s.toks) (r.rep k.toNat) (by rw [PyProof.Rows.lm_len_rep_flat, Nat.mul_comm]; exact hz), rfl, q _ I.fresh⟩
/-- * whose list is data -/
def repL (xs : List D) (e : D) (M : Mp) (Q : VK3) : Prop := asI e fun k => -(2 ^ 63) ≤ k ∧ k < 2 ^ 63 ∧ xs.length * k.toNat ≤ sizeLine ∧ Q (.rol (List.replicate k.toNat xs).flatten) M
def oMulF : R23 := fun d e M Q => match d with
  | .int _ => oMul d e M Q
  | d => asL (lstI M d) fun xs => repL xs e M Q
theorem o_mulF : OpR X (binaryOp .Mult) (lift2 X.K bs oMulF) := op3 fun d e x y H M Q Q3 r1 r2 m q k => by
  have li : (asL (lstI M d) fun xs => repL xs e M Q3) → ∃ r2 : R2, OpR X (binaryOp .Mult) r2 ∧ r2 x y H Q := fun q => by
    unfold asL at q
    split at q
    · rename_i xs hx
      cases e with
      | int n =>
        cases r2
        obtain ⟨a, vs, rfl, hv, l1⟩ := lst_of m.m r1 hx
        obtain ⟨q1, q2, q3, q4⟩ := q
        refine ⟨_, OpR_frz op_repV, a, n, vs, rfl, rfl, hv, q1, q2, by rw [l1.length]; exact q3, fun p hp => ?_⟩
        exact fq_new m hp (l1.rep n.toNat) fun H' x2 m2 r3 => k _ H' _ M x2 m2 r3 q4
      | _ => exact False.elim q
    · exact False.elim q
  cases d with
  | int _ => exact op3w o_mul r1 r2 m q k
  | _ => exact li q
def oSlF : D → Option Int → Option Int → Mp → VK3 → Prop := fun d lo hi M Q => match d with
  | .tup ds => Q (.tup (cutD ds lo hi)) M
  | d => asL (lstI M d) fun ds => Q (.rol (cutD ds lo hi)) M
def oSlM : D → Option Int → Option Int → Mp → VK3 → Prop := fun d lo hi M Q => asL (lstI M d) fun ds => ∀ p, M p = none → Q (.ref p) (mset M p (.lst (cutD ds lo hi)))
theorem s_slF : SlR X (fun x lo hi H Q => ∃ d M Q3, RD X.K H x d ∧ RM X.K bs H M ∧ oSlF d lo hi M Q3 ∧ ∀ v H' z M', Ext M M' H H' → RM X.K bs H' M' → RD X.K H' v z → Q3 z M' → Q v H') := by
  rintro pins s σ H x v vl vu lo hi sl Q I rx hs pl pu ⟨d, M, Q3, r, m, q, k⟩
  have li : (asL (lstI M d) fun ds => Q3 (.rol (cutD ds lo hi)) M) → ∃ T id, typeLookup (.type T) "__getitem__" = pure (some (.builtin id)) ∧ s.TypeIs v T ∧ wpAny (model X.prog X.w) X.A (getItem v (.ref sl)) (EP X pins σ Q) X.xe s := fun q => by
    unfold asL at q
    split at q
    · rename_i ds hd
      obtain ⟨a, vs, rfl, hv, l⟩ := lst_of m.m r hd
      obtain ⟨T, id, w1, w2, w3⟩ := sl_list pins s σ H _ v vl vu lo hi sl (FQ Q) I rx hs pl pu ⟨_, _, rfl, hv.sq, fun p hp => fq_new m hp (cut_rel l lo hi) fun H' x2 m2 r2 => k _ H' _ M x2 m2 r2 q⟩
      exact ⟨T, id, w1, w2, thn w3 fun _ _ => ep_frz⟩
    · exact False.elim q
  cases d with
  | tup ds => exact s_sl pins s σ H x v vl vu lo hi sl Q I rx hs pl pu ⟨_, M, Q3, r, m, q, k⟩
  | _ => exact li q
abbrev PT3o := St3 → Mp → (Option Int → Mp → Prop) → Prop
def wSlF (te : TE3) (tl th : PT3o) : TE3 := fun τ M Q => te τ M fun d M1 => tl τ M1 fun lo M2 => th τ M2 fun hi M3 => oSlF d lo hi M3 Q
def wSlM (te : TE3) (tl th : PT3o) : TE3 := fun τ M Q => te τ M fun d M1 => tl τ M1 fun lo M2 => th τ M2 fun hi M3 => oSlM d lo hi M3 Q
theorem e_sliceF {e : Expr} {lo hi : Option Expr} {te : TE3} {tl th : PT3o} {pos p2 : Pos} (he : PE3 bs X e te) (hl : PO3 bs X lo tl) (hh : PO3 bs X hi th) : PE3 bs X (.Subscript e (.Slice lo hi none p2) pos) (wSlF te tl th) := by
  refine PE.weak (pe_slice (s_slF (bs := bs)) he hl hh) ?_
  rintro σ H Q ⟨τ, M, Q3, e, m, q, k⟩
  refine ⟨τ, M, _, e, m, q, fun v H1 d M1 x1 m1 r1 q1 => ⟨τ, M1, _, e.go (x1.still m), m1, q1, fun lo H2 M2 x2 m2 q2 => ⟨τ, M2, _, (e.go (x1.still m)).go (x2.still m1), m2, q2, fun hi H3 M3 x3 m3 q3 => ?_⟩⟩⟩
  exact ⟨d, M3, Q3, (r1.go (x2.still m1)).go (x3.still m2), m3, q3, fun v H' z M' x4 m4 r4 q4 => k v H' z M' (x1.trans (x2.trans (x3.trans x4))) m4 r4 q4⟩
def bListF : List D → Mp → VK3 → Prop := b1 fun d M Q => asL (items M d) fun ds => Q (.rol ds) M
theorem c_listF : CallR X (.type "list") (liftV X.K bs bListF) := call1 fun d x H M Q Q3 r m q k => by
  unfold asL at q
  split at q
  · rename_i ds hd
    obtain ⟨p, vs, rfl, hs, l⟩ := items_of m.m r hd
    refine ⟨_, CallR_frz call_list_of, p, vs, rfl, hs, fun c hc => ?_⟩
    exact fq_new m hc l fun H' x2 m2 r2 => k _ H' _ M x2 m2 r2 q
  · exact False.elim q
def asT (o : Option (List Bool)) (k : List Bool → Prop) : Prop := match o with
  | some l => k l
  | none => False
def bAllF : List D → Mp → VK3 → Prop := b1 fun d M Q => asL (lstI M d) fun ds => asT (bls ds) fun l => Q (.bl (l.all id)) M
def bAnyF : List D → Mp → VK3 → Prop := b1 fun d M Q => asL (lstI M d) fun ds => asT (bls ds) fun l => Q (.bl (l.any id)) M
theorem c_allF (hc : X.calm = true) : CallR X (.builtin "all") (liftV X.K bs bAllF) := call1 fun d x H M Q Q3 r m q k => by
  unfold asL at q
  split at q
  · rename_i ds hd
    unfold asT at q
    split at q
    · rename_i l hl
      obtain ⟨a, vs, rfl, hv, rs⟩ := lst_of m.m r hd
      have e := bls_of hl rs
      subst e
      exact ⟨_, cr_all hc, a, l, rfl, hv.sq, k _ _ _ M .refl m (.bl _) q⟩
    · exact False.elim q
  · exact False.elim q
/-- a list of ints -/
def ils : List D → Option (List Int)
  | [] => some []
  | .int b :: r => (ils r).map (b :: ·)
  | _ :: _ => none
def asJ (o : Option (List Int)) (k : List Int → Prop) : Prop := match o with
  | some l => k l
  | none => False
theorem ils_of {K : PySem.W.Frag} {H : Hp} : ∀ {ds : List D} {vs : List V} {l : List Int}, ils ds = some l → RDs K H vs ds → vs = l.map V.int
  | [], _, _, h, r => by cases r; cases h; rfl
  | d :: ds, _, l, h, r => by
    cases r with
    | cons r1 r2 =>
      cases d with
      | int b =>
        cases r1
        simp only [ils] at h
        obtain ⟨l', h', rfl⟩ := Option.map_eq_some_iff.mp h
        rw [ils_of h' r2]; rfl
      | _ => cases h
end
end L3
set_option Elab.async false
set_option linter.all false
set_option maxRecDepth 100000
set_option maxHeartbeats 4000000
namespace L3
open PySem PySem.Spec PyProof.Rows L2
end L3
set_option Elab.async false
set_option linter.all false
set_option maxRecDepth 100000
set_option maxHeartbeats 4000000
namespace L3
open PySem PySem.Spec PyProof.Rows L2 HT
variable {bs : BS} {X : Cx}
section
variable {prog : Program} {w : World} {A : Around} {E : Value → Shared → Prop} {s : Shared}
def cutLo (lo hi : Option Int) (st : Int) (n : Nat) : Int := (Builtin.Slice.sliceAdjust lo hi st (n : Int)).1
def cutN (lo hi : Option Int) (st : Int) (n : Nat) : Nat := Builtin.Slice.slicePlaces (Builtin.Slice.sliceAdjust lo hi st (n : Int)).1 (Builtin.Slice.sliceAdjust lo hi st (n : Int)).2 st
def cutS (xs : List Value) (lo hi : Option Int) (st : Int) : List Value := (List.range (cutN lo hi st xs.length)).filterMap fun (k : Nat) => xs[(cutLo lo hi st xs.length + (k : Int) * st).toNat]?
theorem applied {sl : Addr} {vl vu vs : Value} {lo hi : Option Int} {st : Int} {n : Nat} {Q : Int × Int × Nat → Shared → Prop} (h0 : st ≠ 0) (hs : s.heap.IsSliceOf sl vl vu vs) (pl : IsPart vl lo) (pu : IsPart vu hi) (ps : IsPart vs (some st))
    (h : Q (cutLo lo hi st n, st, cutN lo hi st n) s) : wpAny (model prog w) A (Builtin.Slice.sliceApplied (.ref sl) (pure (n : Int))) Q E s := by
  obtain ⟨os, hos, hcs, hds⟩ := id hs
  have fld : ∀ {i : Nat} {v : Value} {R : Value → Shared → Prop}, (#[vl, vu, vs] : Array Value)[i]? = some v → R v s → wpAny (model prog w) A (field (.ref sl) i) R E s := fun e r => wpAny_field hos hds e r
  have part : ∀ {v : Value} {o : Option Int} {R : Option Int → Shared → Prop}, IsPart v o → R o s → wpAny (model prog w) A (Builtin.Slice.slicePartIndex v) R E s := fun p r => slicePart_ p r
  have z : ¬ ((st == 0) = true) := by simpa using h0
  simp only [Builtin.Slice.sliceApplied, Builtin.Slice.sliceFields]
  refine wpAny_bind (wpAny_bind (fld (i := 0) rfl (wpAny_bind (fld (i := 1) rfl (wpAny_bind (fld (i := 2) rfl (wpAny_pure (wpAny_bind (part ps ?_)))))))))
  simp only [Option.getD_some, if_neg z]
  exact wpAny_bind (part pl (wpAny_bind (part pu (wpAny_bind (wpAny_pure (wpAny_pure h))))))
theorem cutS_len {xs : List Value} {lo hi : Option Int} {st : Int} (h : cutN lo hi st xs.length ≤ xs.length) : (cutS xs lo hi st).length ≤ xs.length :=
  Nat.le_trans (List.length_filterMap_le _ _) (by rw [List.length_range]; exact h)
/-- what is not t itself is new -/
theorem item_cut {t sl : Addr} {xs : List Value} {vl vu vs : Value} {lo hi : Option Int} {st : Int} {Q : Value → Shared → Prop} (h0 : st ≠ 0) (h1 : st ≠ 1) (ht : IsTup s.heap t xs.toArray) (hs : s.heap.IsSliceOf sl vl vu vs) (pl : IsPart vl lo) (pu : IsPart vu hi) (ps : IsPart vs (some st))
    (hn : cutN lo hi st xs.length ≤ xs.length) (hz : xs.length ≤ sizeLine)
    (h : Q (.ref s.heap.objs.size) { s with heap := s.heap.push { cls := .type "tuple", data := .seq (cutS xs lo hi st).toArray } }) : wpAny (model prog w) A (getItem (.ref t) (.ref sl)) Q E s := by
  have fits : sizeOk (.seq (cutS xs lo hi st).toArray) := by
    show (cutS xs lo hi st).toArray.size ≤ sizeLine
    rw [List.size_toArray]
    exact Nat.le_trans (cutS_len hn) hz
  have isS : s.TypeIs (.ref sl) "slice" := let ⟨o, a, b, _⟩ := hs; ⟨o, a, b⟩
  have one : (st == 1) = false := by simpa using h1
  have inner : wpAny (model prog w) A.in1 (Builtin.«tuple.__getitem__» ⟨[.ref t, .ref sl], []⟩) (fun fin s' => ∃ v, fin = .done (.ret v) ∧ Q v s') E s := by
    show wpAny _ _ (Builtin.Tuple.tupleItemsOf (.ref t) >>= _) _ _ s
    refine wpAny_bind (tupleItemsOf_ ht (wpAny_bind (wpAny_typeOf isS ?_)))
    rw [if_pos (by decide), List.size_toArray]
    refine wpAny_bind (applied h0 hs pl pu ps ?_)
    simp only [one, Bool.and_false, Bool.false_and, Bool.false_eq_true, if_false]
    have e : ((List.range (cutN lo hi st xs.length)).filterMap fun (k : Nat) => xs.toArray[(cutLo lo hi st xs.length + (k : Int) * st).toNat]?) = cutS xs lo hi st := by
      unfold cutS
      congr 1
      funext k
      exact List.getElem?_toArray ..
    rw [e]
    first
      | exact wpAny_bind (m := Builtin.Tuple.tupleExact _) (wpAny_newObj_type (wpAny_pure ⟨_, rfl, h⟩) fits)
      | exact wpAny_bind (m := Builtin.Tuple.tupleExact _) (wpAny_newObj_type (wpAny_bind (wpAny_pure (wpAny_pure ⟨_, rfl, h⟩))) fits)
      | exact wpAny_bind (m := Builtin.Tuple.tupleExact _) (wpAny_newObj_type (wpAny_pure ⟨_, rfl, wpAny_pure h⟩) fits)
      | exact wpAny_bind (wpAny_bind (m := Builtin.Tuple.tupleExact _) (wpAny_newObj_type (wpAny_pure (wpAny_pure ⟨_, rfl, h⟩)) fits))
  exact getItem_slot ht.typeIs (by decide) PyProof.Rows.slot_tuple_getitem (wpAny_call_entry PyProof.Rows.slot_tuple_getitem ht.typeIs entry_tuple_getitem inner (args_tuple_getitem _ _))
end
theorem back_lo (n : Nat) : cutLo none none (-1) n = (n : Int) - 1 := rfl
theorem back_n (n : Nat) : cutN none none (-1) n = n := by
  show (if (-1 : Int) > 0 then _ else (if ((n : Int) - 1) > -1 then (((n : Int) - 1) - -1 - 1) / (- -1) + 1 else 0)).toNat = n
  rw [if_neg (by decide)]
  have e : (- -1 : Int) = 1 := rfl
  rw [e, Int.ediv_one]
  split <;> omega
theorem back_some {α : Type} (xs : List α) : ∀ k, k ≤ xs.length → ((List.range k).filterMap fun (m : Nat) => xs[(((xs.length : Nat) : Int) - 1 + (m : Int) * (-1)).toNat]?) = (xs.drop (xs.length - k)).reverse
  | 0, _ => by rw [Nat.sub_zero, List.drop_length]; rfl
  | k + 1, h => by
    have hi : xs.length - (k + 1) < xs.length := by omega
    have e1 : (((xs.length : Nat) : Int) - 1 + (k : Int) * (-1)).toNat = xs.length - (k + 1) := by omega
    have e2 : xs.length - (k + 1) + 1 = xs.length - k := by omega
    rw [List.range_succ, List.filterMap_append, back_some xs k (by omega), List.drop_eq_getElem_cons hi, e2, List.reverse_cons]
    congr 1
    show List.filterMap _ [k] = _
    rw [List.filterMap_cons, List.filterMap_nil, e1, List.getElem?_eq_getElem hi]
theorem back_all (xs : List Value) : cutS xs none none (-1) = xs.reverse := by
  unfold cutS
  rw [back_n, back_lo]
  have := back_some xs xs.length (Nat.le_refl _)
  rw [Nat.sub_self, List.drop_zero] at this
  exact this
/-- a list's or a tuple's items backwards: a new list, a new tuple -/
def rBack (K : PySem.W.Frag) (x : V) (H : Hp) (Q : VK) : Prop := ∃ a xs, x = .ref a ∧ ((SqL K H a xs ∧ ∀ p, H p = none → Q (.ref p) (upd H p (.lst xs.reverse))) ∨ (SqT K H a xs ∧ ∀ p, H p = none → Q (.ref p) (upd H p (.tup xs.reverse))))
theorem pe_back {e : Expr} {te : TE} {k : Nat} {p1 p2 p3 pos : Pos} (he : PE X e te) : PE X (.Subscript e (.Slice none none (some (.UnaryOp .USub (.Constant (.int 1) k p1) p2)) p3) pos) (fun σ H Q => te σ H fun x H1 => rBack X.K x H1 Q) := by
  constructor
  intro pins s σ H Q I h
  have nothing : ∀ {s σ H} {R : Option Int → Hp → Prop}, Inv X pins σ H s → R none H → wpAny (model X.prog X.w) X.A (evalPart none X.env) (fun v s1 => ∃ o H1, Inv X pins σ H1 s1 ∧ IsPart v o ∧ R o H1) X.xe s := fun I r => po_none.run pins _ _ _ _ I r
  have minus : PO X (some (.UnaryOp .USub (.Constant (.int 1) k p1) p2)) (tPart (tUn (rU fun i => .int (-i)) (tC (.int 1)))) := po_some (pe_un un_neg pe_int)
  refine Subscript_ (thn (he.run pins s σ H _ I h) fun v s1 w => ?_)
  obtain ⟨x, H1, I1, r1, a, xs, rfl, q⟩ := w
  cases r1
  refine wpAny_Slice (thn (nothing (R := fun o H' => o = none ∧ H' = H1) I1 ⟨rfl, rfl⟩) fun vl s2 w2 => ?_)
  obtain ⟨o2, H2, I2, pl, eo2, eH2⟩ := w2
  rw [eo2] at pl
  rw [eH2] at I2
  refine thn (nothing (R := fun o H' => o = none ∧ H' = H1) I2 ⟨rfl, rfl⟩) fun vu s3 w3 => ?_
  obtain ⟨o3, H3, I3, pu, eo3, eH3⟩ := w3
  rw [eo3] at pu
  rw [eH3] at I3
  refine thn (minus.run pins s3 σ H1 (fun o H' => o = some (-1) ∧ H' = H1) I3 ⟨1, rfl, -1, rfl, rfl, rfl⟩) fun vs s4 w4 => ?_
  obtain ⟨o4, H4, I4, ps, eo4, eH4⟩ := w4
  rw [eo4] at ps
  rw [eH4] at I4
  have I5 : Inv X pins σ H1 { s4 with heap := s4.heap.push { cls := .type "slice", data := .fields #[vl, vu, vs] } } := I4.kept (t' := s4.toks) fun _ _ g => Heap.get?_push_of_some _ g
  have sl : Heap.IsSliceOf (s4.heap.push { cls := .type "slice", data := .fields #[vl, vu, vs] }) s4.heap.objs.size vl vu vs := Heap.IsSliceOf.new ..
  have fin : ∀ {T id : String} , typeLookup (.type T) "__getitem__" = pure (some (.builtin id)) → Shared.TypeIs { s4 with heap := s4.heap.push { cls := .type "slice", data := .fields #[vl, vu, vs] } } (.ref a) T →
      wpAny (model X.prog X.w) X.A (getItem (.ref a) (.ref s4.heap.objs.size)) (EP X pins σ Q) X.xe { s4 with heap := s4.heap.push { cls := .type "slice", data := .fields #[vl, vu, vs] } } →
      wpAny (model X.prog X.w) X.A (subscriptTail e (.Slice none none (some (.UnaryOp .USub (.Constant (.int 1) k p1) p2)) p3) (.ref a) (.ref s4.heap.objs.size)) (EP X pins σ Q) X.xe { s4 with heap := s4.heap.push { cls := .type "slice", data := .fields #[vl, vu, vs] } } := fun hT ht hg =>
    tail_any (ops := [.ref a, .ref s4.heap.objs.size]) ht hT hg (by with_unfolding_all rfl)
  rcases q with ⟨hx, q⟩ | ⟨hx, q⟩
  · obtain ⟨its, r, ht, hz⟩ := I5.list hx
    have hl := r.length
    refine fin PySem.slot_list_getitem.lookup ht.isList.typeIs (wpAny_getItem_list_slice ht.isList sl pl pu ps (by decide) ?_ (by rw [List.size_toArray]; omega))
    rw [PySem.W.krv_pick]
    have new := I5.laid (t' := s4.toks) (o := .lst xs.reverse) (fun _ _ g => Heap.get?_push_of_some _ g) (Nat.le_refl _) ⟨by rw [List.length_reverse]; exact hz, _, 0, r.reverse, Heap.get?_push_size _ rfl⟩
    exact ⟨.ref _, _, new, rfl, q _ (I5.hok.fresh (Nat.le_refl _))⟩
  · obtain ⟨its, r, ht, hz⟩ := I5.tuple hx
    have hl := r.length
    refine fin PyProof.Rows.slot_tuple_getitem.lookup ht.typeIs (item_cut (by decide) (by decide) ht sl pl pu ps (by rw [back_n]; exact Nat.le_refl _) (by omega) ?_)
    rw [back_all]
    have new := I5.laid (t' := s4.toks) (o := .tup xs.reverse) (fun _ _ g => Heap.get?_push_of_some _ g) (Nat.le_refl _) ⟨by rw [List.length_reverse]; omega, _, r.reverse, IsTup.new _ _⟩
    exact ⟨.ref _, _, new, rfl, q _ (I5.hok.fresh (Nat.le_refl _))⟩
theorem RDs.reverse {K : PySem.W.Frag} {H : Hp} : ∀ {vs : List V} {ds : List D}, RDs K H vs ds → RDs K H vs.reverse ds.reverse
  | _, _, .nil => .nil
  | _, _, .cons r t => by
    rw [List.reverse_cons, List.reverse_cons]
    exact t.reverse.app (.cons r .nil)
/-- t[::-1], data -/
def oRevF : D → Mp → VK3 → Prop := fun d M Q => match d with
  | .tup ds => Q (.tup ds.reverse) M
  | d => asL (lstI M d) fun ds => Q (.rol ds.reverse) M
def wRevF (te : TE3) : TE3 := fun τ M Q => te τ M fun d M1 => oRevF d M1 Q
theorem e_revF {e : Expr} {te : TE3} {k : Nat} {p1 p2 p3 pos : Pos} (he : PE3 bs X e te) : PE3 bs X (.Subscript e (.Slice none none (some (.UnaryOp .USub (.Constant (.int 1) k p1) p2)) p3) pos) (wRevF te) := by
  refine PE.weak (PE_frz (pe_back he)) ?_
  rintro σ H Q ⟨τ, M, Q3, e, m, q, k⟩
  refine ⟨τ, M, _, e, m, q, fun v H1 d M1 x1 m1 r1 q1 => ?_⟩
  have li : (asL (lstI M1 d) fun ds => Q3 (.rol ds.reverse) M1) → rBack X.K v H1 (FQ Q) := fun q => by
    unfold asL at q
    split at q
    · rename_i ds hd
      obtain ⟨a, vs, rfl, hv, l⟩ := lst_of m1.m r1 hd
      exact ⟨a, vs, rfl, .inl ⟨hv.sq, fun p hp => fq_new m1 hp l.reverse fun H' x2 m2 r2 => k _ H' _ M1 (x1.trans x2) m2 r2 q⟩⟩
    · exact False.elim q
  cases d with
  | tup ds =>
    cases r1 with
    | tup h1 h2 =>
      refine ⟨_, _, rfl, .inr ⟨h1, fun p hp => .inl ?_⟩⟩
      obtain ⟨x2, m2⟩ := m1.upNew (o := .tup _) hp
      exact k _ _ (.tup ds.reverse) M1 (x1.trans x2) m2 (.tup (SqT.of upd_same) (h2.reverse.go (x2.still m1))) q1
  | _ => exact li q1
theorem ex_revF {te : TE3} {τ : St3} {M : Mp} {Q : VK3} : wRevF te τ M Q = te τ M fun d M1 => oRevF d M1 Q := rfl
theorem rv_tup {ds : List D} {M : Mp} {Q : VK3} : oRevF (.tup ds) M Q = Q (.tup ds.reverse) M := rfl
theorem rv_ref {a : Addr} {M : Mp} {Q : VK3} : oRevF (.ref a) M Q = asL (lstOf (M a)) fun ds => Q (.rol ds.reverse) M := rfl
end L3
set_option Elab.async false
set_option linter.all false
set_option maxRecDepth 100000
set_option maxHeartbeats 4000000
namespace L3
open PySem PySem.Spec PyProof.Rows L2
end L3
set_option Elab.async false
set_option linter.all false
set_option maxRecDepth 100000
set_option maxHeartbeats 4000000
namespace L3
open PySem PySem.Spec PyProof.Rows L2
variable {bs : BS} {X : Cx}
def tyM : Option MO → Option String
  | some (.lst _) => some "list"
  | some (.dK _) => some "dict"
  | some (.dT _) => some "dict"
  | _ => none
def tyN (M : Mp) : D → Option String
  | .non => some "NoneType"
  | .bl _ => some "bool"
  | .int _ => some "int"
  | .str _ => some "str"
  | .tup _ => some "tuple"
  | .rol _ => some "list"
  | .ref a => tyM (M a)
  | .ty _ => none
theorem tyx_of {K : PySem.W.Frag} {H : Hp} {M : Mp} {v : V} {d : D} {n : String} (m : RM0 K H M) (r : RD K H v d) (h : tyN M d = some n) : TyX K H v (.type n) := by
  cases d with
  | non => cases r; cases h; exact .base .non
  | bl b => cases r; cases h; exact .base (.bl b)
  | int i => cases r; cases h; exact .base (.int i)
  | str x => cases r; cases h; exact .base (.str x)
  | tup ds =>
    cases r with
    | tup h1 h2 =>
      cases h
      rcases h1 with (e | ⟨o, e⟩) | ⟨o, its, n, e, c, _⟩
      · exact .base (.tup e)
      · exact .fTuple e
      · exact .kTuple e c
  | rol ds =>
    cases r with
    | rol h1 h2 =>
      cases h
      rcases h1 with ⟨o, e⟩ | ⟨its, n, e, _⟩
      · exact .base (.frz e)
      · exact .kList e rfl
  | ref a =>
    cases r
    have h : tyM (M a) = some n := h
    cases q : M a with
    | none => rw [q] at h; cases h
    | some o =>
      rw [q] at h
      have ro := m a o q
      cases o with
      | lst ds => cases h; obtain ⟨vs, e, _⟩ := ro; exact .base (.lst e)
      | dK ds => cases h; obtain ⟨vs, e, _⟩ := ro; exact .base (.dK e)
      | dT ds => cases h; obtain ⟨vs, e, _⟩ := ro; exact .base (.dT e)
      | dL o ks ds => cases h
      | ins C fs => cases h
  | ty n => cases h
def asStr (o : Option String) (k : String → Prop) : Prop := match o with
  | some n => k n
  | none => False
def asBo (o : Option Bool) (k : Bool → Prop) : Prop := match o with
  | some n => k n
  | none => False
theorem asStr_some {n : String} {k : String → Prop} : asStr (some n) k = k n := rfl
theorem asBo_some {b : Bool} {k : Bool → Prop} : asBo (some b) k = k b := rfl
def bIsi : List D → Mp → VK3 → Prop := fun ds M Q => match ds with
  | [d, .ty n] => asStr (tyN M d) fun t => asBo (kitB t n) fun b => Q (.bl b) M
  | _ => False
theorem c_isi : CallR X (.builtin "isinstance") (liftV X.K bs bIsi) := by
  rintro pins s σ H xs us Q I rx ⟨ds, M, Q3, r1, m, q, k⟩
  unfold bIsi at q
  split at q
  · rename_i d n
    cases r1 with
    | cons ra r1 =>
      cases r1 with
      | cons rb r1 =>
        cases r1
        cases rb
        unfold asStr at q
        split at q
        · rename_i t ht
          unfold asBo at q
          split at q
          · rename_i b hb
            exact call_isi pins s σ H _ us Q I rx ⟨_, _, _, _, b, rfl, .ty n, tyx_of m.m ra ht, kit_ty hb, k _ _ _ M .refl m (.bl _) q⟩
          · exact False.elim q
        · exact False.elim q
  · exact False.elim q
theorem e_bty {x : Str} {pos : Pos} {T : String} (hm : X.mg x = none) (hv : bootBuiltins x = some (.type T)) (hg : Gl X x := by rfl) (hn : x ≠ "__name__" := by decide) (hd : (x == ("__debug__" : Str)) = false := by decide) : PE3 bs X (.Name x pos) (wC (.ty T)) :=
  e_c (pe_bltn (v := V.ty T) hg hm hv rfl hn hd) fun _ => .ty T
theorem bl_isi {d : D} {n : String} {M : Mp} {Q : VK3} : bIsi [d, .ty n] M Q = asStr (tyN M d) fun t => asBo (kitB t n) fun b => Q (.bl b) M := rfl
theorem isi_is {d : D} {n t : String} {b : Bool} {M : Mp} {Q : VK3} (h : tyN M d = some t) (h2 : kitB t n = some b) : bIsi [d, .ty n] M Q = Q (.bl b) M := by
  rw [bl_isi, h, asStr_some, h2, asBo_some]
theorem kb_ii : kitB "int" "int" = some true := by decide +kernel
theorem kb_bi : kitB "bool" "int" = some true := by decide +kernel
theorem kb_ni : kitB "NoneType" "int" = some false := by decide +kernel
theorem kb_si : kitB "str" "int" = some false := by decide +kernel
theorem kb_ti : kitB "tuple" "int" = some false := by decide +kernel
theorem kb_li : kitB "list" "int" = some false := by decide +kernel
theorem kb_ib : kitB "int" "bool" = some false := by decide +kernel
theorem kb_bb : kitB "bool" "bool" = some true := by decide +kernel
theorem kb_nb : kitB "NoneType" "bool" = some false := by decide +kernel
theorem kb_sb : kitB "str" "bool" = some false := by decide +kernel
theorem kb_tb : kitB "tuple" "bool" = some false := by decide +kernel
theorem kb_lb : kitB "list" "bool" = some false := by decide +kernel
theorem kb_it : kitB "int" "tuple" = some false := by decide +kernel
theorem kb_bt : kitB "bool" "tuple" = some false := by decide +kernel
theorem kb_nt : kitB "NoneType" "tuple" = some false := by decide +kernel
theorem kb_st : kitB "str" "tuple" = some false := by decide +kernel
theorem kb_tt : kitB "tuple" "tuple" = some true := by decide +kernel
theorem kb_lt : kitB "list" "tuple" = some false := by decide +kernel
end L3
set_option Elab.async false
set_option linter.all false
set_option maxRecDepth 100000
set_option maxHeartbeats 4000000
namespace L3
open PySem PySem.Spec PyProof.Rows L2
end L3
set_option Elab.async false
set_option linter.all false
set_option maxRecDepth 100000
set_option maxHeartbeats 4000000
namespace L3
open PySem PySem.Spec PyProof.Rows L2
end L3
set_option Elab.async false
set_option linter.all false
set_option maxRecDepth 100000
set_option maxHeartbeats 4000000
namespace L3
open PySem PySem.Spec PyProof.Rows L2
def CountD (ns : List Int) (c : Nat) : Prop := ∃ ks : List Int, ks.Nodup ∧ (∀ k, k ∈ ks ↔ k ∈ ns) ∧ ks.length = c
theorem nodup_sub_len : ∀ {ks ns : List Int}, ks.Nodup → (∀ k, k ∈ ks → k ∈ ns) → ks.length ≤ ns.length
  | [], _, _, _ => Nat.zero_le _
  | k :: ks, ns, nd, h => by
    rw [List.nodup_cons] at nd
    have hk := h k (by simp)
    have := nodup_sub_len (ks := ks) (ns := ns.erase k) nd.2 fun x hx => by
      have hne : x ≠ k := fun e => nd.1 (e ▸ hx)
      exact (List.mem_erase_of_ne hne).mpr (h x (by simp [hx]))
    rw [List.length_erase_of_mem hk] at this
    have pos : 0 < ns.length := List.length_pos_of_mem hk
    rw [List.length_cons]
    omega
theorem not_nodup_less : ∀ {ns : List Int}, ¬ ns.Nodup → ∃ ms : List Int, ms.length < ns.length ∧ ∀ k, k ∈ ns → k ∈ ms
  | [], h => absurd List.nodup_nil h
  | n :: ns, h => by
    by_cases hn : n ∈ ns
    · exact ⟨ns, Nat.lt_succ_self _, fun k hk => by
        rcases List.mem_cons.mp hk with rfl | hk
        · exact hn
        · exact hk⟩
    · obtain ⟨ms, l, s⟩ := not_nodup_less (ns := ns) fun z => h (List.nodup_cons.mpr ⟨hn, z⟩)
      exact ⟨n :: ms, Nat.succ_lt_succ l, fun k hk => by
        rcases List.mem_cons.mp hk with rfl | hk
        · exact List.mem_cons_self
        · exact List.mem_cons_of_mem _ (s k hk)⟩
theorem CountD.iff {ns : List Int} {c : Nat} (h : CountD ns c) : c = ns.length ↔ ns.Nodup := by
  obtain ⟨ks, nd, e, rfl⟩ := h
  constructor
  · intro hl
    by_cases hn : ns.Nodup
    · exact hn
    · obtain ⟨ms, l, s⟩ := not_nodup_less hn
      have := nodup_sub_len nd fun k hk => s k ((e k).mp hk)
      omega
  · intro hn
    have a := nodup_sub_len nd fun k hk => (e k).mp hk
    have b := nodup_sub_len hn fun k hk => (e k).mpr hk
    omega
def tLenSetT (K : PySem.W.Frag) (ta : TE) : TE := fun σ H Q => ta σ H fun x H1 => ∃ (l : Addr) (ns : List Int), x = .ref l ∧ SqT K H1 l (ns.map V.int) ∧ ns.length ≤ 4000 ∧ ∀ c : Nat, CountD ns c → Q (.int c) H1
theorem ints_are : ∀ {ns : List Int} {us : List Value}, Vals (ns.map V.int) us → PyProof.Rows.IntsAre us ns
  | [], _, .nil => .nil
  | n :: ns, _, .cons r t => by
    obtain ⟨k, rfl⟩ := r
    exact .cons n k (ints_are t)
theorem pe_lenSetT {X : Cx} {a : Expr} {ta : TE} {p p2 q pos : Pos} (hg : Gl X "len") (hm : X.mg "len" = none) (hg2 : Gl X "set") (hm2 : X.mg "set" = none) (ha : PE X a ta) (hc : X.calm = true := by rfl)
    (na : starEach [a] X.env = (false, eval a X.env) :: starEach [] X.env := by rfl) : PE X (.Call (.Name "len" p) [.Call (.Name "set" p2) [a] [] q] [] pos) (tLenSetT X.K ta) := by
  refine ⟨fun pins s σ H Q I h => ?_⟩
  refine Call_ (ld_blt I hg hm boot_len ?_)
  refine PyProof.Rows.callWith_builtin1 (PyProof.Rows.args_cons ?_ rfl) rfl rfl
  refine Call_ (ld_blt I hg2 hm2 boot_set ?_)
  refine PyProof.Rows.callWith_type1 (PyProof.Rows.args_cons (thn (ha.run pins s σ H _ I h) fun v s1 ⟨x, H1, I1, r1, q1⟩ => PyProof.Rows.args_nil ?_) na) na rfl
  obtain ⟨l, ns, rfl, hq, hl, q1⟩ := q1
  cases r1
  obtain ⟨its, r, pl, hz⟩ := I1.tuple hq
  refine call_set_tupI ns (I1.ok.hd hc) pl (by simpa using ints_are r) (by unfold scanBound; omega) fun h' tk c hS hc' hk => ?_
  refine PyProof.Rows.args_nil ?_
  obtain ⟨o, es, ep, t, ho, hex, hd, _, hnd, hmem, _, hf, hn, _⟩ := hS
  have I2 : Inv X pins σ H1 { s1 with heap := h', toks := tk } := I1.kept hk
  refine call_len_set ho hex hd hf (by rw [hn] <;> omega) ⟨.int c, H1, I2.tok _, ⟨_, by rw [hn]⟩, q1 c ⟨_, hnd, fun k => ?_, ?_⟩⟩
  · rw [← hmem k, decide_eq_true_eq]
  · rw [List.length_map, Array.length_toList, hn]
section
variable {bs : BS} {X : Cx}
def tupI (d : D) (k : List Int → Prop) : Prop := match d with
  | .tup ds => asJ (ils ds) k
  | _ => False
def wLenSet (te : TE3) : TE3 := fun τ M Q => te τ M fun d M1 => tupI d fun ns => ns.length ≤ 4000 ∧ ∀ c : Nat, CountD ns c → Q (.int c) M1
theorem e_lenSet {a : Expr} {te : TE3} {p p2 q pos : Pos} (hm : X.mg "len" = none) (hm2 : X.mg "set" = none) (ha : PE3 bs X a te) (hg : Gl X "len" := by rfl) (hg2 : Gl X "set" := by rfl) (hc : X.calm = true := by rfl)
    (na : starEach [a] X.env = (false, eval a X.env) :: starEach [] X.env := by rfl) : PE3 bs X (.Call (.Name "len" p) [.Call (.Name "set" p2) [a] [] q] [] pos) (wLenSet te) := by
  refine PE.weak (pe_lenSetT hg hm hg2 hm2 ha hc na) ?_
  rintro σ H Q ⟨τ, M, Q3, e, m, q, k⟩
  refine ⟨τ, M, _, e, m, q, fun v H1 d M1 x1 m1 r1 q1 => ?_⟩
  cases d with
  | tup ds =>
    simp only [tupI] at q1
    unfold asJ at q1
    split at q1
    · rename_i l hl
      cases r1 with
      | tup h1 h2 =>
        have e := ils_of hl h2
        subst e
        exact ⟨_, l, rfl, h1, q1.1, fun c hc => k _ _ _ M1 x1 m1 (.int _) (q1.2 c hc)⟩
    · exact False.elim q1
  | _ => exact False.elim q1
theorem ex_lenSet {te : TE3} {τ : St3} {M : Mp} {Q : VK3} : wLenSet te τ M Q = te τ M fun d M1 => tupI d fun ns => ns.length ≤ 4000 ∧ ∀ c : Nat, CountD ns c → Q (.int c) M1 := rfl
theorem tupI_ints {ns : List Int} {k : List Int → Prop} : tupI (.tup (ns.map D.int)) k = k ns := by
  show asJ (ils (ns.map D.int)) k = _
  have : ∀ ns : List Int, ils (ns.map D.int) = some ns := by
    intro ns
    induction ns with
    | nil => rfl
    | cons n r ih => rw [List.map_cons]; show (ils (r.map D.int)).map (n :: ·) = _; rw [ih]; rfl
  rw [this]; rfl
end
end L3
set_option Elab.async false
set_option linter.all false
set_option maxRecDepth 100000
set_option maxHeartbeats 4000000
namespace L3
open PySem PySem.Spec PyProof.Rows L2
/-- __init__ stores its parameters, one by one -/
def spIni (C : Addr) (fs : List Str) : Sp := fun vs H Q _ => ∃ (a : Addr) (ws : List V), vs = .ref a :: ws ∧ ws.length = fs.length ∧ H a = some (exo a C none) ∧
  ∀ (H' : Hp) (d : Addr), H' a = some (exo a C (some d)) → H' d = some (exd d (fs.zip ws).reverse) → H d = none → (∀ b, b ≠ a → b ≠ d → H' b = H b) → Q .non H'
theorem exo_exd {e C d : Addr} {o : Option Addr} {fs : List (Str × V)} {H : Hp} (h : H e = some (exo e C o)) (h2 : H d = none) : d ≠ e := fun z => by rw [z, h] at h2; cases h2
theorem rd_ini2 {K : PySem.W.Frag} {C a : Addr} {f1 f2 : Str} {w1 w2 : V} {N : List Str} {H : Hp} {Q : VK} {E : XK} (T : OexC K C) (n1 : PySem.W.findIn K (.ref C) f1 = some none) (n2 : PySem.W.findIn K (.ref C) f2 = some none) (hN : N.length = 3)
    (h : spIni C [f1, f2] [.ref a, w1, w2] H Q E) : tSeq (tOst K f1 (tVar 0) (tVar 1)) (tOst K f2 (tVar 0) (tVar 2)) { nx := fun _ H' => Q .non H', rt := Q } (L2.start N [.ref a, w1, w2]) H := by
  obtain ⟨a', ws, e, _, hH, q⟩ := h
  cases e
  have s0 : (L2.start N [V.ref a, w1, w2])[0]? = some (some (.ref a)) := rfl
  have s1 : (L2.start N [V.ref a, w1, w2])[1]? = some (some w1) := rfl
  have s2 : (L2.start N [V.ref a, w1, w2])[2]? = some (some w2) := rfl
  refine ⟨w1, s1, .ref a, s0, a, C, rfl, T, n1, .inl ⟨hH, fun dx hd hne => ?_⟩⟩
  refine ⟨w2, s2, .ref a, s0, a, C, rfl, T, n2, .inr ⟨dx, [(f1, w1)], upd_same, by rw [upd_ne hne, upd_same], Nat.le_trans (show 1 ≤ 900 by decide) (Nat.le_refl _), ?_⟩⟩
  refine q _ dx (by rw [upd_ne (Ne.symm hne), upd_same]) upd_same hd fun b h1 h2 => by rw [upd_ne h2, upd_ne h1, upd_ne h2]
/-- the class called n makes exceptions with the fields fs -/
def MkX (P : Program) (w : World) (K : PySem.W.Frag) (mg : Str → Option Value) (base : Heap) (n : Str) (fs : List Str) : Prop :=
  ∃ (C fI : Addr) (fd : FuncData) (ps : List Str), Cl K n (.ref C) ∧ mg n = some (.ref C) ∧ OexC K C ∧ PySem.W.findIn K (.ref C) "__init__" = some (some (.ref fI)) ∧ PySem.W.typeIn K (.ref fI) = some (.type "function") ∧
    Binds K fd ps [] ∧ FnOk P w K mg base CX0 1 fI fd ps (spIni C fs)
/-- what is raised here, and wished for -/
def TakesS (bs : BS) (X : Cx) (W3 : St3 → XK3) : Prop := ∃ W : WX, Takes X W ∧ ∀ n c a σ τ H' fs M', RE X.K H' σ τ → RM0 X.K H' M' → bs.ok M' H' → RX X.K H' n c a fs → W3 τ n fs M' → W c a σ H'
theorem takesXE {bs : BS} {P : Program} {w : World} {K : PySem.W.Frag} {mg : Str → Option Value} {base : Heap} {N : List Str} {qual : Str} {scope : Scope} {f : Addr} {cd : Value} {A : Around} {outer : List Env} {s : Shared} {H : Hp} {E : XK} {E3 : XK3}
    (h : ∀ n c a H' fs M', RM0 K H' M' → bs.ok M' H' → RX K H' n c a fs → E3 n fs M' → E c a H') : TakesS bs (cxOf (L2.CX P w) P w K mg base N qual scope f cd A outer s H E) (fun _ => E3) :=
  ⟨fun c a _ H' => E c a H', takes_of rfl rfl rfl rfl, fun n c a σ τ H' fs M' _ m b r e => h n c a H' fs M' m b r e⟩
section
variable {bs : BS} {X : Cx} {W3 : St3 → XK3} {e : Expr} {es : List Expr} {t : TA3} {n : Str} {fs : List Str} {p pos pos2 : Pos}
def wRaise (n : Str) (fs : List Str) (W3 : St3 → XK3) (t : TA3) : TS3 := fun _ τ M => t τ M fun ds M1 => ds.length = fs.length ∧ ds.length ≤ 1000 ∧ W3 τ n (fs.zip ds).reverse M1
theorem rkv_zip {K : PySem.W.Frag} {H : Hp} : ∀ {fs : List Str} {vs : List V} {ds : List D}, RDs K H vs ds → RKv K H (fs.zip vs) (fs.zip ds)
  | [], _, _, _ => True.intro
  | _ :: _, _, _, .nil => True.intro
  | f :: fs, _, _, .cons r t => ⟨rfl, r, rkv_zip t⟩
theorem rkv_app {κ : Type} {K : PySem.W.Frag} {H : Hp} : ∀ {a c : List (κ × V)} {b d : List (κ × D)}, RKv K H a b → RKv K H c d → RKv K H (a ++ c) (b ++ d)
  | [], _, [], _, _, s => s
  | [], _, _ :: _, _, r, _ => r.elim
  | _ :: _, _, [], _, r, _ => r.elim
  | (k, v) :: a, _, (j, x) :: b, _, r, s => ⟨r.1, r.2.1, rkv_app r.2.2 s⟩
theorem rkv_rev {κ : Type} {K : PySem.W.Frag} {H : Hp} : ∀ {a : List (κ × V)} {b : List (κ × D)}, RKv K H a b → RKv K H a.reverse b.reverse
  | [], [], _ => True.intro
  | [], _ :: _, r => r.elim
  | _ :: _, [], r => r.elim
  | (k, v) :: a, (j, x) :: b, r => by
    rw [List.reverse_cons, List.reverse_cons]
    exact rkv_app (rkv_rev r.2.2) ⟨r.1, r.2.1, True.intro⟩
theorem s_raise (hc : X.calm = true) (hr : Room 2 X.A) (mk : MkX X.prog X.w X.K X.mg X.base n fs) (tk : TakesS bs X W3) (ha : PA3 bs X (e :: es) t) (hg : Gl X n := by rfl)
    (hdb : (n == ("__debug__" : Str)) = false := by decide) (he : starEach (e :: es) X.env = (false, eval e X.env) :: starEach es X.env := by rfl) (hpl : (backTo pos (starEach es X.env)).any (·.1) = false := by rfl) :
    PS3 bs X (.Raise (some (.Call (.Name n p) (e :: es) [] pos)) none pos2) (wRaise n fs W3 t) := by
  obtain ⟨C, fI, fd, ps, cl, hm, T, iC, tI, hb, F⟩ := mk
  obtain ⟨W, tkW, up⟩ := tk
  refine PS.weak (ps_raise hc tkW (pmk_oex (dvs := []) (ds := []) T iC tI F hr hb .nil (fun _ _ _ _ _ _ _ z => z.elim) hg hm ha hdb he hpl)) ?_
  rintro D σ H ⟨τ, M, D3, re, rm, q, k⟩
  refine ⟨τ, M, _, re, rm, q, fun vs H1 ds M1 x1 m1 r1 ⟨hl, hl2, q1⟩ => ⟨by rw [r1.length]; exact hl2, fun a ha => ?_⟩⟩
  refine ⟨a, vs, by rw [List.append_nil], by rw [r1.length]; exact hl, upd_same, fun H2 d h1 h2 h3 h4 => ⟨rfl, d, _, h1, h2, ?_, ?_⟩⟩
  · by_cases e : d = a
    · rw [e]; exact ha
    · rwa [upd_ne e] at h3
  · have hda : d ≠ a := exo_exd (fs := []) (H := upd H1 a (exo a C none)) upd_same h3
    have hd1 : H1 d = none := by rwa [upd_ne hda] at h3
    have same : ∀ b u, H1 b = some u → upd (del H2 a) d (.xd (fs.zip vs).reverse) b = some u := fun b u hu => by
      have hb1 : b ≠ a := fun z => by rw [z, ha] at hu; cases hu
      have hb2 : b ≠ d := fun z => by rw [z, hd1] at hu; cases hu
      rw [upd_ne hb2, del_ne hb1, h4 b hb1 hb2, upd_ne hb1]; exact hu
    obtain ⟨x2, m2⟩ := m1.keep same
    exact up n _ _ σ τ _ _ M1 ((re.go (x1.still rm)).go (x2.still m1)) m2.m m2.b ⟨cl, _, upd_same, rkv_rev (rkv_zip (r1.go (x2.still m1)))⟩ q1
end
section
variable {bs : BS} {X : Cx} {k : Nat} {x : Str} {sp : Sp3} {W3 : St3 → XK3} {e : Expr} {es : List Expr} {t : TA3} {p pos : Pos}
theorem pe_gS {CX : CXT} {f : Addr} {fd : FuncData} {ps : List Str} {spv : Sp} {E : L2.St → XK} {ta : TA} (F : FnG X.prog X.w X.K X.mg X.base CX k f fd ps spv) (hG : X.A.guards = some []) (hr : Room k X.A) (hm : X.mg x = some (.ref f)) (hk : PySem.W.keepIn X.K (.ref f) = true) (hb : Binds X.K fd ps [])
    (hx : ∀ σ, PassesAt CX X σ (E σ)) (ha : PA X (e :: es) ta) (hg : Gl X x) (hdb : (x == ("__debug__" : Str)) = false) (he : starEach (e :: es) X.env = (false, eval e X.env) :: starEach es X.env) (hpl : (backTo pos (starEach es X.env)).any (·.1) = false) :
    PE X (.Call (.Name x p) (e :: es) [] pos) (fun σ H Q => ta σ H fun vs H1 => spv vs H1 Q (E σ)) := by
  refine ⟨fun pins s σ H Q I h => ?_⟩
  refine wpAny_Call_Name_kw (ld_glob I hg hm ?_ hdb)
  refine PySem.W.callWith_K (h₀ := X.base) I.ok.mod.kin hk (thn (ha.run pos pins s σ H _ I h) fun us s1 ⟨vs, H1, I1, r, q⟩ => ⟨I1.kIn, ?_⟩) he hpl
  have hl : us.length = ps.length := by rw [← r.length]; exact F.len _ _ _ _ q
  have hb' := hb s1 us I1.kIn (by rw [List.append_nil]; exact hl)
  rw [List.append_nil] at hb'
  refine wpAny_call (codeAny_mono (F.run X.A X.stack s1 H1 ⟨us, []⟩ us vs Q (E σ) hG hr I1.env0 hb' r q) fun rr s' hq => ?_)
  cases rr with
  | error er => exact hx σ pins H1 s1 er s' I1 hq
  | ok fl =>
    cases fl with
    | ret u => exact I1.after hq
    | next => exact False.elim hq
    | brk => exact False.elim hq
    | cont => exact False.elim hq
/-- a def that leans on nothing in M, and whose answer does not either -/
def wCallPS (sp : Sp3) (W3 : St3 → XK3) (t : TA3) : TE3 := fun τ M Q => t τ M fun ds M1 => sp ds M0 (fun d _ => Q d M1) (fun n fs _ => W3 τ n fs M1)
theorem e_callPS (F : Def3 X.prog X.w X.K X.mg X.base (L2.CX X.prog X.w) k x sp) (hG : X.A.guards = some []) (hr : Room k X.A) (tk : TakesS bs X W3) (ha : PA3 bs X (e :: es) t) (hg : Gl X x := by rfl) (hdb : (x == ("__debug__" : Str)) = false := by decide)
    (he : starEach (e :: es) X.env = (false, eval e X.env) :: starEach es X.env := by rfl) (hpl : (backTo pos (starEach es X.env)).any (·.1) = false := by rfl) : PE3 bs X (.Call (.Name x p) (e :: es) [] pos) (wCallPS sp W3 t) := by
  obtain ⟨f, fd, ps, hm, hk, hb, F⟩ := F
  obtain ⟨W, tkW, up⟩ := tk
  refine PE.weak (pe_gS (E := fun σ c a H' => W c a σ H') F hG hr hm hk hb (fun σ => passAt tkW σ) ha hg hdb he hpl) ?_
  rintro σ H Q ⟨τ, M, Q3, re, rm, q, kk⟩
  refine ⟨τ, M, _, re, rm, q, fun vs H1 ds M1 x1 m1 r1 q1 => ?_⟩
  refine ⟨ds, M0, _, _, r1, (fun a o h => nomatch h), q1, fun v H' d M' x2 m2 r2 q2 => ?_, fun n c a H' fs M' x2 m2 r2 q2 => ?_⟩
  · have xa : Ext M1 M1 H1 H' := ext_all x2
    exact kk v H' d M1 (x1.trans xa) (m1.to xa (rm_all m1.m x2)) r2 q2
  · have xa : Ext M1 M1 H1 H' := ext_all x2
    exact up n c a σ τ H' fs M1 ((re.go (x1.still rm)).go (xa.still m1)) (rm_all m1.m x2) (bs.go m1.b xa) r2 q2
end
theorem RM0.noXd {K : PySem.W.Frag} {M : Mp} {H : Hp} {a : Addr} {gs : List (Str × V)} (m : RM0 K H M) (h : H a = some (.xd gs)) : M a = none := by
  cases q : M a with
  | none => rfl
  | some o =>
    have r := m a o q
    cases o with
    | lst ds => obtain ⟨_, e, _⟩ := r; rw [h] at e; cases e
    | dK ds => obtain ⟨_, e, _⟩ := r; rw [h] at e; cases e
    | dT ds => obtain ⟨_, e, _⟩ := r; rw [h] at e; cases e
    | dL o ks ds => obtain ⟨e, _⟩ := r; rw [h] at e; cases e
    | ins C ds => obtain ⟨_, _, _, _, e, _⟩ := r; rw [h] at e; cases e
theorem RX.go {K : PySem.W.Frag} {M M' : Mp} {H H' : Hp} {n : Str} {c : Value} {d : Option Addr} {fs : List (Str × D)} (r : RX K H n c d fs) (m : RM0 K H M) (x : Ext M M' H H') : RX K H' n c d fs := by
  refine ⟨r.1, ?_⟩
  have r := r.2
  cases d with
  | none => exact r
  | some a =>
    obtain ⟨gs, e, q⟩ := r
    exact ⟨gs, x.fr a _ e (m.noXd e), RKv.go (x.still0 m) q⟩
/-- a standing condition with what has been laid since -/
def BS.from (bs : BS) (M : Mp) (H : Hp) : BS := ⟨fun M' H' => bs.ok M' H' ∧ Ext M M' H H', fun a b => ⟨bs.go a.1 b, a.2.trans b⟩⟩
def wTryAs (i : Nat) (cs : List Str) (tb : (St3 → XK3) → TS3) (ts : Addr → Str → List (Str × D) → TS3) : TS3 := fun D τ M =>
  tb (fun τ' n fs M' => n ∈ cs ∧ ∀ a, M' a = none → ts a n fs { nx := fun τ2 M2 => D.nx (setS τ2 i none) M2, rt := D.rt, bk := fun τ2 M2 => D.bk (setS τ2 i none) M2, ct := fun τ2 M2 => D.ct (setS τ2 i none) M2 } (setS τ' i (some (.ref a))) M') D τ M
/-- what the clause names takes all of cs -/
def HX (K : PySem.W.Frag) (mg : Str → Option Value) (x : Str) (cs : List Str) : Prop := ∃ c, mg x = some c ∧ ∀ n ∈ cs, ∀ c', Cl K n c' → PySem.W.exmOne K c' c = some true
theorem none_takes {X : Cx} : Takes X (fun _ _ _ _ => False) := fun u s' h => by
  obtain ⟨_, _, _, _, _, _, _, _, _, _, _, _, _, _, _, _, z⟩ := h
  exact z.elim
section
variable {bs : BS} {X : Cx} {x nm : Str} {i : Nat} {body suite : List Stmt} {b₀ : Stmt} {np pos pos' : Pos} {cs : List Str} {tb : (St3 → XK3) → TS3} {ts : Addr → Str → List (Str × D) → TS3}
/-- the body, for each wish -/
def BodyOk (X : Cx) (body : List Stmt) (tb : (St3 → XK3) → TS3) : Prop := ∀ (bs' : BS) (W3 : St3 → XK3) (pn : List (Addr × Obj)) (xe : Value → Shared → Prop), TakesS bs' (X.tr pn xe) W3 → PassesOwn (model X.prog X.w) X.A X.env xe → PSs3 bs' (X.tr pn xe) body (tb W3)
def SuiteOk (X : Cx) (suite : List Stmt) (cs : List Str) (ts : Addr → Str → List (Str × D) → TS3) : Prop := ∀ (bs' : BS) (a : Addr) (oe : Obj) (cls : Value) (d : Option Addr) (pn : List (Addr × Obj)) (n : Str) (fs : List (Str × D)), n ∈ cs → Zc cls d oe → (∃ vs, oe.data = .fields vs) →
  (∀ M' H', RM X.K bs' H' M' → RX X.K H' n cls d fs) → PSs3 bs' (X.suite a ((a, oe) :: pn)) suite (ts a n fs)
def tbH (K : PySem.W.Frag) (tb : (St3 → XK3) → TS3) (W : WX) : TS := fun D σ H => ∃ (bs' : BS) (W3 : St3 → XK3), (∀ n c a σ τ H' fs M', RE K H' σ τ → RM0 K H' M' → bs'.ok M' H' → RX K H' n c a fs → W3 τ n fs M' → W c a σ H') ∧ liftS K bs' (tb W3) D σ H
def tsH (K : PySem.W.Frag) (cs : List Str) (ts : Addr → Str → List (Str × D) → TS3) (a : Addr) (cls : Value) (d : Option Addr) : TS := fun D σ H => ∃ (bs' : BS) (n : Str) (fs : List (Str × L3.D)), n ∈ cs ∧ (∀ M' H', RM K bs' H' M' → RX K H' n cls d fs) ∧ liftS K bs' (ts a n fs) D σ H
theorem bodyH (hb : BodyOk X body tb) : ∀ (W : WX) (pn : List (Addr × Obj)) (xe : Value → Shared → Prop), Takes (X.tr pn xe) W → PassesOwn (model X.prog X.w) X.A X.env xe → PSs (X.tr pn xe) body (tbH X.K tb W) :=
  fun W pn xe tk po => ⟨fun pins s σ H D I ⟨bs', W3, up, q⟩ => (hb bs' W3 pn xe ⟨W, tk, up⟩ po).run pins s σ H D I q⟩
theorem suiteH (hs : SuiteOk X suite cs ts) : ∀ (a : Addr) (oe : Obj) (cls : Value) (d : Option Addr) (pn : List (Addr × Obj)), Zc cls d oe → (∃ vs, oe.data = .fields vs) → PSs (X.suite a ((a, oe) :: pn)) suite (tsH X.K cs ts a cls d) :=
  fun a oe cls d pn hz hf => ⟨fun pins s σ H D I ⟨bs', n, fs, hn, st, q⟩ => (hs bs' a oe cls d pn n fs hn hz hf st).run pins s σ H D I q⟩
theorem s_try_as (hs : X.stack = X.env :: X.outer) (hf : X.env.frame = some X.env.locals) (hN : X.N.Nodup) (hi : X.N[i]? = some nm) (hln : X.env.kindOf nm = some .local) (hx : HX X.K X.mg x cs) (hb : BodyOk X body tb) (hsu : SuiteOk X (b₀ :: suite) cs ts) (hg : Gl X x := by rfl) (hdb : (x == ("__debug__" : Str)) = false := by decide) :
    PS3 bs X (.Try body [.ExceptHandler (some (.Name x np)) (some nm) (b₀ :: suite) pos'] [] [] pos) (wTryAs i cs tb ts) := by
  obtain ⟨c, hm, hcs⟩ := hx
  refine PS.weak (ps_try_as (Wout := fun _ _ _ _ => False) hs hf hN hi hln ⟨hg, hdb, .inl hm⟩ none_takes (bodyH hb) (suiteH hsu)) ?_
  rintro D σ H ⟨τ, M, D3, re, rm, q, k1, k2, k3, k4⟩
  refine ⟨bs.from M H, _, ?_, τ, M, D3, re, ⟨rm.m, rm.b, .refl⟩, q, fun σ' τ' H' M' x2 r2 m2 => k1 σ' τ' H' M' x2 r2 ⟨m2.m, m2.b.1⟩, fun v d H' M' x2 m2 => k2 v d H' M' x2 ⟨m2.m, m2.b.1⟩, fun σ' τ' H' M' x2 r2 m2 => k3 σ' τ' H' M' x2 r2 ⟨m2.m, m2.b.1⟩, fun σ' τ' H' M' x2 r2 m2 => k4 σ' τ' H' M' x2 r2 ⟨m2.m, m2.b.1⟩⟩
  rintro n cls d σ' τ' H' fs M' re' m' ⟨bok, ext⟩ rx ⟨hn, hts⟩
  refine ⟨true, hcs n hn cls rx.1, fun _ a ha => ?_, fun z => nomatch z⟩
  refine ⟨(bs.from M H).from M' H', n, fs, hn, fun M2 H2 m2 => rx.go m' m2.b.2, setS τ' i (some (.ref a)), M', { nx := fun τ2 M2 => D3.nx (setS τ2 i none) M2, rt := D3.rt, bk := fun τ2 M2 => D3.bk (setS τ2 i none) M2, ct := fun τ2 M2 => D3.ct (setS τ2 i none) M2 }, re'.set (.ref a), ⟨m', ⟨bok, ext⟩, .refl⟩, hts a (m'.free ha), ?_, ?_, ?_, ?_⟩
  · exact fun σ2 τ2 H2 M2 x2 r2 m2 q2 => k1 _ _ H2 M2 (ext.trans x2) (r2.drop none) ⟨m2.m, m2.b.1.1⟩ q2
  · exact fun v d2 H2 M2 x2 m2 => k2 v d2 H2 M2 (ext.trans x2) ⟨m2.m, m2.b.1.1⟩
  · exact fun σ2 τ2 H2 M2 x2 r2 m2 q2 => k3 _ _ H2 M2 (ext.trans x2) (r2.drop none) ⟨m2.m, m2.b.1.1⟩ q2
  · exact fun σ2 τ2 H2 M2 x2 r2 m2 q2 => k4 _ _ H2 M2 (ext.trans x2) (r2.drop none) ⟨m2.m, m2.b.1.1⟩ q2
end
end L3
set_option Elab.async false
set_option linter.all false
set_option maxRecDepth 100000
set_option maxHeartbeats 4000000
namespace L3x
open PySem PySem.Spec PySem.W PySem.Calls PyProof.Rows
section
variable {pr : Program} {wl : World} {Ar : Around} {Er : Value → Shared → Prop} {st : Shared} {Kf : Frag} {ad Cd : Addr} {ob od : Obj}
/-- an error of an own class that has fields is asked for its class -/
theorem class_of {Qr : Option Value → Shared → Prop} (fc : L2.ExcC Kf Cd) (inK : Kf.In st.heap) (at_ : InstAt st.heap ad ob Cd (some od))
    (fin : Qr (some (.ref Cd)) { st with toks := st.toks + 1 }) : wpAny (model pr wl) Ar (getAttr? (.ref ad) "__class__") Qr Er st := by
  have found : findObj Kf Cd (some od) "__class__" = some (.bind (.builtin "getset_descriptor.__get__") (.builtin "object.__class__")) :=
    findObj_data (by obtain ⟨cd, e, _⟩ := any_some fc.hd; rw [e]; rfl) fc.ha fc.hn fc.ht
  obtain ⟨hh, gg, dd, tt, oo⟩ := st
  have a0 := at_.type (M := model pr wl)
  have a1 := looks_findIn (M := model pr wl) inK fc.hg
  have a2 := looks_findIn (M := model pr wl) inK fc.hk
  have a3 := looks_find (M := model pr wl) inK at_ found
  have inst : Looks (model pr wl) hh (isInstance (.ref ad) (.type "BaseException")) true := a0.andThen (looks_subIn inK fc.hs)
  have no0 : (false && onTheHeap (Value.builtin "BaseException.__getattribute__")) = false := rfl
  have no2 : (Value.builtin "BaseException.__getattribute__" == Value.builtin "object.__getattribute__") = false := by decide +kernel
  have no1 : (onTheHeap (Value.ref Cd) && Value.builtin "BaseException.__getattribute__" == Value.builtin "object.__getattribute__") = false := by
    rw [no2, Bool.and_false]
  unfold getAttr? getAttrBy? getAttrBy
  refine wpAny_bind (wpAny_mkText (wpAny_bind (wpAny_attempt (wpAny_holding (wpAny_bind (a0.at (wpAny_bind (a1.at ?_))))))))
  show wpAny _ _ (if (onTheHeap (Value.ref Cd) && Value.builtin "BaseException.__getattribute__" == Value.builtin "object.__getattribute__") = true then _ else _) _ _ _
  rw [no1, if_neg Bool.false_ne_true]
  unfold getAttrByItsOwn hookBefore
  refine wpAny_bind ?_
  rw [if_pos (show onTheHeap (Value.ref Cd) = true from rfl)]
  refine a2.at ?_
  refine wpAny_bind (wpAny_attempt (wpAny_holding ?_))
  unfold callGetattribute
  rw [no0, if_neg Bool.false_ne_true]
  unfold boundAndCalled
  rw [PySem.F.excAttr_ValueError.ga.bind (.ref ad)]
  refine wpAny_bind (wpAny_pure ?_)
  show wpAny _ _ (call (.builtin "BaseException.__getattribute__") [.ref ad, .str "__class__" tt]) _ _ _
  refine wpAny_call (codeAny_call_builtin PySem.F.excAttr_ValueError.ga.plain PySem.F.entry_bexc_ga ?_)
  refine @check_slot (model pr wl) _ _ ⟨hh, gg, dd, tt + 1, oo⟩ "BaseException.__getattribute__" "BaseException" "__getattribute__" (.ref ad)
    [.str "__class__" tt] [] _ (by decide +kernel) (by decide +kernel) inst (PySem.F.args_bexc_ga (.ref ad) (.str "__class__" tt)) ?_
  unfold Builtin.«object.__getattribute__»
  refine wpAny_bind (wpAny_of_eq (a := ((Value.ref ad : Value), [Value.str "__class__" tt])) (by first | rfl | (simp only [slotArgs]; rfl)) ?_)
  refine wpAny_bind (wpAny_pure (wpAny_bind (a0.at (wpAny_bind (a3.at ?_)))))
  show wpAny _ _ (holding [Value.builtin "object.__class__"] (call (.builtin "getset_descriptor.__get__") [.builtin "object.__class__", .ref ad, .ref Cd]) >>= ret) _ _ _
  refine wpAny_bind (wpAny_holding (wpAny_call (class_get (s := ⟨hh, gg, dd, tt + 1, oo⟩) (ox := ob) (od := some od) inK at_ fc.hm ?_)))
  refine wpAny_pure ?_
  show wpAny _ _ (handedOut (.ref Cd)) _ _ _
  rw [handedOut_of (v := .ref Cd) rfl]
  first
    | exact wpAny_pure (wpAny_pure fin)
    | exact wpAny_pure fin
    | exact wpAny_pure (wpAny_bind (wpAny_pure (wpAny_pure fin)))
theorem kitD (fc : L2.ExcC Kf Cd) : KitX Kf (.ref ad) (.ref Cd) (fun h => InstAt h ad ob Cd (some od)) where
  ty := fun _ _ _ i => i.type
  it := fun _ _ inK _ => by
    obtain ⟨cd, e, _⟩ := any_some fc.hd
    unfold clsIn at e
    split at e
    · rename_i c' d' cd' sl' ho
      intro A' Q' E' s' k q
      unfold isType loadHead
      exact wpAny_bind (wpAny_loadPart (k _ _ (inK _ _ ho)) (wpAny_pure q))
    · cases e
  ne := fun h tp dd its n sl inK htp => by
    obtain ⟨cd, e, _⟩ := any_some fc.hd
    refine Bool.eq_false_iff.mpr fun q => ?_
    have z : Cd = tp := Value.ref.inj (beq_iff_eq.mp q)
    subst z
    unfold clsIn at e
    split at e
    · rename_i c' d' cd' sl' ho
      have y := (inK _ _ ho).symm.trans htp
      cases y
    · cases e
  ca := fun inK i k => class_of fc inK i k
end
end L3x
namespace L3
open PySem PySem.Spec PyProof.Rows L2
/-- what an own error's fields want -/
def FX (K : PySem.W.Frag) (n f : Str) : Prop := ∀ c, Cl K n c → ∃ C, c = .ref C ∧ XfC K C ∧ PySem.W.findIn K (.ref C) f = some none
/-- its instances are those of y, too -/
def IX (K : PySem.W.Frag) (n : Str) (cy : Value) : Prop := ∀ c, Cl K n c → ∃ C, c = .ref C ∧ ExcC K C ∧ PySem.W.kitOne K (.ref C) cy = some true
def isRef (a : Addr) : D → Prop
  | .ref b => b = a
  | _ => False
def wXf (a : Addr) (xs : List (Str × D)) (f : Str) (te : TE3) : TE3 := fun τ M Q => te τ M fun d M1 => isRef a d ∧ asS (xs.lookup f) fun v => Q v M1
def wXis (a : Addr) (te : TE3) : TE3 := fun τ M Q => te τ M fun d M1 => isRef a d ∧ Q (.bl true) M1
theorem rkv_lookup {K : PySem.W.Frag} {H : Hp} {f : Str} {d : D} : ∀ {gs : List (Str × V)} {xs : List (Str × D)}, RKv K H gs xs → xs.lookup f = some d → ∃ v, gs.lookup f = some v ∧ RD K H v d
  | [], [], _, h => nomatch h
  | [], _ :: _, r, _ => r.elim
  | _ :: _, [], r, _ => r.elim
  | (k, v) :: gs, (j, e) :: xs, r, h => by
    obtain ⟨e1, e2, e3⟩ := r
    subst e1
    rw [L2.lookup_put]
    have h' : (if f = k then some e else xs.lookup f) = some d := by
      rw [← h]
      by_cases z : f = k
      · subst z; simp [List.lookup]
      · have y : (f == k) = false := by simpa using z
        rw [if_neg z]; simp [List.lookup, y]
    by_cases z : f = k
    · rw [if_pos z] at h' ⊢
      cases h'
      exact ⟨v, rfl, e2⟩
    · rw [if_neg z] at h' ⊢
      exact rkv_lookup e3 h'
section
variable {bs : BS} {X : Cx} {a : Addr} {oe : Obj} {cls : Value} {d : Option Addr} {pn : List (Addr × Obj)} {e : Expr} {te : TE3} {p p2 pos : Pos} {f n : Str} {xs : List (Str × D)} {cs : List Str}
theorem e_xf (fx : ∀ n ∈ cs, FX X.K n f) (hn : n ∈ cs) (hz : Zc cls d oe) (hf : ∃ vs, oe.data = .fields vs) (st : ∀ M' H', RM X.K bs H' M' → RX X.K H' n cls d xs) (he : PE3 bs (X.suite a ((a, oe) :: pn)) e te) (hb : attributeBase e f X.env (eval e X.env) = eval e X.env := by rfl) :
    PE3 bs (X.suite a ((a, oe) :: pn)) (.Attribute e f pos) (wXf a xs f te) := by
  refine ⟨fun pins s σ H Q I ⟨τ, M, Q3, re, rm, q, k⟩ => ?_⟩
  obtain ⟨C, ec, T, no⟩ := fx n hn cls (st M H rm).1
  refine (pe_xf T no hz hf he hb).run pins s σ H Q I ⟨τ, M, _, re, rm, q, fun v H1 dv M1 x1 m1 r1 ⟨hr, q1⟩ => ?_⟩
  cases dv with
  | ref b =>
    cases hr
    cases r1
    cases hl : xs.lookup f with
    | none => rw [hl] at q1; exact False.elim q1
    | some dd =>
      rw [hl] at q1
      obtain ⟨_, rx⟩ := st M1 H1 m1
      cases d with
      | none =>
        have rx : xs = [] := rx
        rw [rx] at hl; cases hl
      | some ad =>
        obtain ⟨gs, e1, rk⟩ := rx
        obtain ⟨v, hv, rv⟩ := rkv_lookup rk hl
        exact ⟨rfl, ec, ad, gs, v, rfl, e1, hv, k v H1 dd M1 x1 m1 rv q1⟩
  | _ => exact False.elim hr
theorem call_isD {C ad : Addr} (T : ExcC X.K C) (hz : Zc (.ref C) (some ad) oe) (hf : ∃ vs, oe.data = .fields vs) (hd : ∀ pins σ H s, Inv (X.suite a ((a, oe) :: pn)) pins σ H s → ∀ M, RM X.K bs H M → ∃ od, s.heap.get? ad = some od) :
    ∀ (pins : List (Addr × Obj)) (s : Shared) (σ : L2.St) (H : Hp) (us : List Value) (Q : VK) (M : Mp) (cv : V) (u : Value), Inv (X.suite a ((a, oe) :: pn)) pins σ H s → RM X.K bs H M → us = [.ref a, u] → PySem.W.kitOne X.K (.ref C) u = some true → Q (.bl true) H →
      wpAny (model X.prog X.w) (X.suite a ((a, oe) :: pn)).A (call (.builtin "isinstance") us) (EP (X.suite a ((a, oe) :: pn)) pins σ Q) (X.suite a ((a, oe) :: pn)).xe s := by
  rintro pins s σ H us Q M cv u I rm rfl e q
  obtain ⟨hget, _⟩ := I.pin (a, oe) (List.mem_append.mpr (.inl List.mem_cons_self))
  obtain ⟨vs, hv⟩ := hf
  obtain ⟨od, ho⟩ := hd pins σ H s I M rm
  have J : PySem.W.InstAt s.heap a oe C (some od) := by
    obtain ⟨oc, oD, oda, osl⟩ := oe
    obtain ⟨h1, h2⟩ := hz
    dsimp only at h1 h2 hv
    subst h1 h2 hv
    exact ⟨hget, rfl, rfl, ho⟩
  exact PySem.W.kia_one (L3x.kitD T) I.kIn J e (fun z => nomatch z) fun tk => ⟨.bl true, H, I.kept (t' := tk) fun _ _ z => z, rfl, q⟩
/-- isinstance(e, y), e the error that the suite holds -/
theorem e_xis {y : Expr} {vy : V} {cy : Value} (ix : ∀ n ∈ cs, IX X.K n cy) (hn : n ∈ cs) (hz : Zc cls d oe) (hf : ∃ vs, oe.data = .fields vs) (st : ∀ M' H', RM X.K bs H' M' → RX X.K H' n cls d xs) (he : PE3 bs (X.suite a ((a, oe) :: pn)) e te)
    (hy : PE (X.suite a ((a, oe) :: pn)) y (tC vy)) (hvy : ∀ u, RelV vy u → u = cy) (hm : X.mg "isinstance" = none) (hg : Gl X "isinstance" := by rfl)
    (h1 : starEach [e, y] X.env = (false, eval e X.env) :: starEach [y] X.env := by rfl) (h2 : starEach [y] X.env = (false, eval y X.env) :: starEach [] X.env := by rfl) (hpl : (backTo pos (starEach [y] X.env)).any (·.1) = false := by rfl) :
    PE3 bs (X.suite a ((a, oe) :: pn)) (.Call (.Name "isinstance" p) [e, y] [] pos) (wXis a te) := by
  refine ⟨fun pins s σ H Q I ⟨τ, M, Q3, re, rm, q, k⟩ => ?_⟩
  obtain ⟨C, ec, T, ko⟩ := ix n hn cls (st M H rm).1
  subst ec
  let r : List V → Hp → VK → Prop := fun vs H Q => ∃ M, RM X.K bs H M ∧ vs = [.ref a, vy] ∧ Q (.bl true) H
  have cr : CallR (X.suite a ((a, oe) :: pn)) (.builtin "isinstance") r := by
    rintro pins s σ H vs us Q I rv ⟨M, rm, rfl, q⟩
    cases rv with
    | cons rx rr =>
      cases rr with
      | cons ry rr =>
        cases rr
        cases rx
        have eu := hvy _ ry
        subst eu
        cases d with
        | none => exact L2.call_isE T hz hf pins s σ H [.ref a, vy] _ Q I (.cons rfl (.cons ry .nil)) ⟨vy, _, true, rfl, hvy, ko, q⟩
        | some ad =>
          refine call_isD (X := X) (bs := bs) T hz hf (fun pins σ H s I M rm => ?_) pins s σ H _ Q M vy _ I rm rfl ko q
          obtain ⟨gs, e1, _⟩ := (st M H rm).2
          obtain ⟨mA, hns, _⟩ := I.hok ad _ e1
          obtain ⟨od, ho, _⟩ := lookIn_ns hns
          exact ⟨od, ho⟩
  refine (pe_callB cr hg hm (by decide +kernel) (pa_cons he (pa_cons hy pa_nil h2) h1) (by decide) (by decide) h1 hpl).run pins s σ H Q I ?_
  refine ⟨τ, M, _, re, rm, q, fun v H1 dv M1 x1 m1 r1 ⟨hr, q1⟩ => ?_⟩
  cases dv with
  | ref b =>
    cases hr
    cases r1
    exact ⟨M1, m1, rfl, k _ H1 _ M1 x1 m1 (.bl true) q1⟩
  | _ => exact False.elim hr
end
/-- isinstance(e, y), y an own class of the program | a built-in one -/
def IXg (K : PySem.W.Frag) (mg : Str → Option Value) (y : Str) (cs : List Str) : Prop := ∃ c, mg y = some (.ref c) ∧ ∀ n ∈ cs, IX K n (.ref c)
section
variable {bs : BS} {X : Cx} {a : Addr} {oe : Obj} {cls : Value} {d : Option Addr} {pn : List (Addr × Obj)} {e : Expr} {te : TE3} {p p2 pos : Pos} {f n y : Str} {xs : List (Str × D)} {cs : List Str} {T : String}
theorem e_xisG (ix : IXg X.K X.mg y cs) (hn : n ∈ cs) (hz : Zc cls d oe) (hf : ∃ vs, oe.data = .fields vs) (st : ∀ M' H', RM X.K bs H' M' → RX X.K H' n cls d xs) (hm : X.mg "isinstance" = none) (he : PE3 bs (X.suite a ((a, oe) :: pn)) e te)
    (hg : Gl X "isinstance" := by rfl) (hgy : Gl X y := by rfl) (hdy : (y == ("__debug__" : Str)) = false := by decide)
    (h1 : starEach [e, .Name y p2] X.env = (false, eval e X.env) :: starEach [.Name y p2] X.env := by rfl) (h2 : starEach [.Name y p2] X.env = (false, eval (.Name y p2) X.env) :: starEach [] X.env := by rfl) (hpl : (backTo pos (starEach [.Name y p2] X.env)).any (·.1) = false := by rfl) :
    PE3 bs (X.suite a ((a, oe) :: pn)) (.Call (.Name "isinstance" p) [e, .Name y p2] [] pos) (wXis a te) := by
  obtain ⟨c, hc, ix⟩ := ix
  exact e_xis (X := X) (vy := .ref c) ix hn hz hf st he (pe_glob hgy hc rfl hdy) (fun u h => h) hm hg h1 h2 hpl
theorem e_xisT (ix : ∀ n ∈ cs, IX X.K n (.type T)) (hn : n ∈ cs) (hz : Zc cls d oe) (hf : ∃ vs, oe.data = .fields vs) (st : ∀ M' H', RM X.K bs H' M' → RX X.K H' n cls d xs) (hm : X.mg "isinstance" = none) (hmy : X.mg y = none) (hv : bootBuiltins y = some (.type T)) (he : PE3 bs (X.suite a ((a, oe) :: pn)) e te)
    (hg : Gl X "isinstance" := by rfl) (hgy : Gl X y := by rfl) (hny : y ≠ "__name__" := by decide) (hdy : (y == ("__debug__" : Str)) = false := by decide)
    (h1 : starEach [e, .Name y p2] X.env = (false, eval e X.env) :: starEach [.Name y p2] X.env := by rfl) (h2 : starEach [.Name y p2] X.env = (false, eval (.Name y p2) X.env) :: starEach [] X.env := by rfl) (hpl : (backTo pos (starEach [.Name y p2] X.env)).any (·.1) = false := by rfl) :
    PE3 bs (X.suite a ((a, oe) :: pn)) (.Call (.Name "isinstance" p) [e, .Name y p2] [] pos) (wXis a te) :=
  e_xis (X := X) (vy := .ty T) ix hn hz hf st he (pe_bltn (v := V.ty T) hgy hmy hv rfl hny hdy) (fun u h => h) hm hg h1 h2 hpl
end
theorem kit_ref {K : PySem.W.Frag} {C Cy : Addr} (h : PySem.W.hasDictIn K Cy = true) (t : PySem.W.typeIn K (.ref Cy) = some (.type "type")) (s : PySem.W.subIn K (.ref C) (.ref Cy) = some true) : PySem.W.kitOne K (.ref C) (.ref Cy) = some true := by
  unfold PySem.W.kitOne
  split
  · rfl
  · obtain ⟨cd, hc, _⟩ := PySem.W.any_some h
    unfold PySem.W.kitCls
    dsimp only
    rw [hc, t, if_pos (by rfl)]
    exact s
theorem kit_ty {K : PySem.W.Frag} {C : Addr} {T : String} (h : PySem.W.kitMeta T = true) (s : PySem.W.subIn K (.ref C) (.type T) = some true) : PySem.W.kitOne K (.ref C) (.type T) = some true := by
  unfold PySem.W.kitOne
  split
  · rfl
  · unfold PySem.W.kitCls
    dsimp only
    rw [if_pos h]
    exact s
end L3
set_option Elab.async false
set_option linter.all false
set_option maxRecDepth 100000
set_option maxHeartbeats 4000000
namespace L3
open PySem PySem.Spec PyProof.Rows L2
/-- all that M has, M' has -/
def Le (M M' : Mp) : Prop := ∀ a o, M a = some o → M' a = some o
theorem Le.refl {M : Mp} : Le M M := fun _ _ h => h
theorem Le.trans {M M1 M2 : Mp} (x : Le M M1) (y : Le M1 M2) : Le M M2 := fun a o h => y a o (x a o h)
theorem Le.new {M M1 : Mp} {p : Addr} {o : MO} (x : Le M M1) (h : M1 p = none) : Le M (mset M1 p o) := fun a u hu => by
  have z := x a u hu
  rw [mset_ne (ne_m z h)]; exact z
/-- an address that M does not know may be written -/
theorem Le.put {M M1 : Mp} {p : Addr} {o : MO} (x : Le M M1) (h : M p = none) : Le M (mset M1 p o) := fun a u hu => by
  rw [mset_ne (ne_m hu h)]; exact x a u hu
abbrev Ed := Option Int
abbrev Tab := List (List Ed)
def oD : Ed → D
  | none => .non
  | some i => .int i
def rowD (r : List Ed) : D := .tup (r.map oD)
def tabD (T : Tab) : D := .tup (T.map rowD)
theorem isN_oD (e : Ed) : isN (oD e) = e.isNone := by cases e <;> rfl
theorem st_seq {t u : TS3} {D : Ends3} {τ : St3} {M : Mp} : wSeq t u D τ M = t { D with nx := u D } τ M := rfl
theorem st_next {D : Ends3} {τ : St3} {M : Mp} : wNext D τ M = D.nx τ M := rfl
theorem st_break {D : Ends3} {τ : St3} {M : Mp} : wBreak D τ M = D.bk τ M := rfl
theorem st_cont {D : Ends3} {τ : St3} {M : Mp} : wCont D τ M = D.ct τ M := rfl
theorem st_set {i : Nat} {te : TE3} {D : Ends3} {τ : St3} {M : Mp} : wSet i te D τ M = te τ M fun d M1 => D.nx (setS τ i (some d)) M1 := rfl
theorem st_ret {te : TE3} {D : Ends3} {τ : St3} {M : Mp} : wRet te D τ M = te τ M D.rt := rfl
theorem st_retN {D : Ends3} {τ : St3} {M : Mp} : wRetN D τ M = D.rt .non M := rfl
theorem st_drop {te : TE3} {D : Ends3} {τ : St3} {M : Mp} : wDrop te D τ M = te τ M fun _ M1 => D.nx τ M1 := rfl
theorem st_if {c : TT3} {t u : TS3} {D : Ends3} {τ : St3} {M : Mp} : wIfS c t u D τ M = c τ M fun b M1 => ite3 b (t D τ M1) (u D τ M1) := rfl
theorem st_asg {te : TE3} {g : TG3} {D : Ends3} {τ : St3} {M : Mp} : wAsg te g D τ M = te τ M fun d M1 => g d τ M1 D.nx := rfl
theorem st_par {i j : Nat} {ta : TA3} {D : Ends3} {τ : St3} {M : Mp} : wPar i j ta D τ M = ta τ M fun ds M1 => match ds with | [d, e] => D.nx (setS (setS τ i (some d)) j (some e)) M1 | _ => False := rfl
theorem st_for {wi : TI3} {g : TG3} {tb : TS3} {D : Ends3} {τ : St3} {M : Mp} : wFor wi g tb D τ M = wi τ M fun ds G M1 => forW G g tb D ds τ M1 := rfl
theorem ex_c {d : D} {τ : St3} {M : Mp} {Q : VK3} : wC d τ M Q = Q d M := rfl
theorem ex_var {i : Nat} {τ : St3} {M : Mp} {Q : VK3} : wVar i τ M Q = asS (getS τ i) fun d => Q d M := rfl
theorem ex_op {r : R23} {ta tb : TE3} {τ : St3} {M : Mp} {Q : VK3} : wOp r ta tb τ M Q = ta τ M fun x M1 => tb τ M1 fun y M2 => r x y M2 Q := rfl
theorem ex_un {r : D → Mp → VK3 → Prop} {ta : TE3} {τ : St3} {M : Mp} {Q : VK3} : wUn r ta τ M Q = ta τ M fun x M1 => r x M1 Q := rfl
theorem ex_b {t : TE3} {τ : St3} {M : Mp} {Q : Bool → Mp → Prop} : wB t τ M Q = t τ M fun d M' => asB d fun k => Q k M' := rfl
theorem ex_and {t u : TT3} {τ : St3} {M : Mp} {Q : Bool → Mp → Prop} : wAnd t u τ M Q = t τ M fun c M1 => ite3 c (u τ M1 Q) (Q false M1) := rfl
theorem ex_or {t u : TT3} {τ : St3} {M : Mp} {Q : Bool → Mp → Prop} : wOr t u τ M Q = t τ M fun c M1 => ite3 c (Q true M1) (u τ M1 Q) := rfl
theorem ex_not {t : TT3} {τ : St3} {M : Mp} {Q : Bool → Mp → Prop} : wNot t τ M Q = t τ M fun c M1 => Q (!c) M1 := rfl
theorem ex_andV {ta tb : TE3} {τ : St3} {M : Mp} {Q : VK3} : wAndV ta tb τ M Q = ta τ M fun x M1 => asB x fun c => ite3 c (tb τ M1 Q) (Q (.bl false) M1) := rfl
theorem ex_orV {ta tb : TE3} {τ : St3} {M : Mp} {Q : VK3} : wOrV ta tb τ M Q = ta τ M fun x M1 => asB x fun c => ite3 c (Q (.bl true) M1) (tb τ M1 Q) := rfl
theorem ex_notV {ta : TE3} {τ : St3} {M : Mp} {Q : VK3} : wNotV ta τ M Q = ta τ M fun x M1 => asB x fun c => Q (.bl (!c)) M1 := rfl
theorem ex_if {c : TT3} {ta tb : TE3} {τ : St3} {M : Mp} {Q : VK3} : wIf c ta tb τ M Q = c τ M fun z M1 => ite3 z (ta τ M1 Q) (tb τ M1 Q) := rfl
theorem ex_chain {r r' : R23} {ta tb tc : TE3} {τ : St3} {M : Mp} {Q : VK3} : wChain r r' ta tb tc τ M Q = ta τ M fun x M1 => tb τ M1 fun y M2 => r x y M2 fun z M3 => asB z fun c => ite3 c (tc τ M3 fun w M4 => r' y w M4 Q) (Q (.bl false) M3) := rfl
theorem ex_nil {τ : St3} {M : Mp} {Q : List D → Mp → Prop} : wNil τ M Q = Q [] M := rfl
theorem ex_cons {ta : TE3} {tr : TA3} {τ : St3} {M : Mp} {Q : List D → Mp → Prop} : wCons ta tr τ M Q = ta τ M fun x M1 => tr τ M1 fun xs M2 => Q (x :: xs) M2 := rfl
theorem ex_tup {t : TA3} {τ : St3} {M : Mp} {Q : VK3} : wTup t τ M Q = t τ M fun xs M1 => xs.length ≤ sizeLine ∧ Q (.tup xs) M1 := rfl
theorem ex_lst {t : TA3} {τ : St3} {M : Mp} {Q : VK3} : wLst t τ M Q = t τ M fun xs M1 => xs.length ≤ sizeLine ∧ ∀ p, M1 p = none → Q (.ref p) (mset M1 p (.lst xs)) := rfl
theorem ex_call {sp : Sp3} {E : XK3} {t : TA3} {τ : St3} {M : Mp} {Q : VK3} : wCall sp E t τ M Q = t τ M fun ds M1 => sp ds M1 Q E := rfl
theorem ex_callP {sp : Sp3} {E : XK3} {t : TA3} {τ : St3} {M : Mp} {Q : VK3} : wCallP sp E t τ M Q = t τ M fun ds M1 => sp ds M0 (fun d _ => Q d M1) (fun c fs _ => E c fs M1) := rfl
theorem ex_cb {r : List D → Mp → VK3 → Prop} {t : TA3} {τ : St3} {M : Mp} {Q : VK3} : wCB r t τ M Q = t τ M fun ds M1 => r ds M1 Q := rfl
theorem ex_bm {r : M23} {to : TE3} {t : TA3} {τ : St3} {M : Mp} {Q : VK3} : wBM r to t τ M Q = to τ M fun d M1 => (match d with | .ref a => ∃ ds, M1 a = some (.lst ds) | _ => False) ∧ t τ M1 fun ds M2 => r d ds M2 Q := rfl
theorem ex_rep {te tb : TE3} {τ : St3} {M : Mp} {Q : VK3} : wRep te tb τ M Q = te τ M fun d M1 => tb τ M1 fun i M2 => asI i fun k => -(2 ^ 63) ≤ k ∧ k < 2 ^ 63 ∧ k.toNat ≤ sizeLine ∧ ∀ p, M2 p = none → Q (.ref p) (mset M2 p (.lst (List.replicate k.toNat d))) := rfl
theorem ex_lc {wi : TI3} {g : TG3} {tt : TT3} {te : TE3} {vs : List Nat} {τ : St3} {M : Mp} {Q : VK3} : wLc wi g tt te vs τ M Q = wi τ M fun ds G M1 => lcW G g tt te (wipe3 τ vs) (fun acc M2 => ∀ p, M2 p = none → Q (.ref p) (mset M2 p (.lst acc))) ds [] M1 := rfl
theorem ex_sl {te : TE3} {tl th : St3 → Mp → (Option Int → Mp → Prop) → Prop} {τ : St3} {M : Mp} {Q : VK3} : wSl te tl th τ M Q = te τ M fun d M1 => tl τ M1 fun lo M2 => th τ M2 fun hi M3 => oSl d lo hi M3 Q := rfl
theorem ex_noPart {τ : St3} {M : Mp} {Q : Option Int → Mp → Prop} : wNoPart τ M Q = Q none M := rfl
theorem ex_part {t : TE3} {τ : St3} {M : Mp} {Q : Option Int → Mp → Prop} : wPart t τ M Q = t τ M fun d M1 => asI d fun i => Q (some i) M1 := rfl
theorem ex_yes {τ : St3} {M : Mp} {Q : Bool → Mp → Prop} : wYes τ M Q = Q true M := rfl
theorem it_items {tl : TE3} {τ : St3} {M : Mp} {R : List D → (Mp → Prop) → Mp → Prop} : wItems tl τ M R = tl τ M fun d M1 => asL (items M1 d) fun ds => R ds (keepG M1 d ds) M1 := rfl
theorem it_rng1 {t : TA3} {τ : St3} {M : Mp} {R : List D → (Mp → Prop) → Mp → Prop} : wRng1 t τ M R = t τ M fun ds M1 => match ds with | [.int j] => -(2 ^ 62) ≤ j ∧ j < 2 ^ 62 ∧ R (rgD 0 j.toNat) (fun _ => True) M1 | _ => False := rfl
theorem it_rng2 {t : TA3} {τ : St3} {M : Mp} {R : List D → (Mp → Prop) → Mp → Prop} : wRng2 t τ M R = t τ M fun ds M1 => match ds with | [.int i, .int j] => (-(2 ^ 62) ≤ i ∧ i < 2 ^ 62 ∧ -(2 ^ 62) ≤ j ∧ j < 2 ^ 62) ∧ R (rgD i (j - i).toNat) (fun _ => True) M1 | _ => False := rfl
theorem tg_name {i : Nat} {d : D} {τ : St3} {M : Mp} {Q : St3 → Mp → Prop} : wgName i d τ M Q = Q (setS τ i (some d)) M := rfl
theorem tg_sub {to ti : TE3} {t : TSet3} {d : D} {τ : St3} {M : Mp} {Q : St3 → Mp → Prop} : wgSub to ti t d τ M Q = to τ M fun o M1 => ti τ M1 fun i M2 => t o i d M2 fun M3 => Q τ M3 := rfl
theorem tg_tup {n : Nat} {t : TGs3} {ds : List D} {τ : St3} {M : Mp} {Q : St3 → Mp → Prop} : wgTupN n t (.tup ds) τ M Q = (ds.length = n ∧ t ds τ M Q) := rfl
theorem tg_cons {t : TG3} {u : TGs3} {d : D} {r : List D} {τ : St3} {M : Mp} {Q : St3 → Mp → Prop} : wgCons t u (d :: r) τ M Q = t d τ M fun τ' M' => u r τ' M' Q := rfl
theorem tg_nil {τ : St3} {M : Mp} {Q : St3 → Mp → Prop} : wgNil [] τ M Q = Q τ M := rfl
theorem gs_0 {d : Option D} {τ : St3} : getS (d :: τ) 0 = d := rfl
theorem gs_s {d : Option D} {τ : St3} {i : Nat} : getS (d :: τ) (i + 1) = getS τ i := rfl
theorem ss_0 {d e : Option D} {τ : St3} : setS (d :: τ) 0 e = e :: τ := rfl
theorem ss_s {d e : Option D} {τ : St3} {i : Nat} : setS (d :: τ) (i + 1) e = d :: setS τ i e := rfl
theorem op_ii {i j : Int} {M : Mp} {Q : VK3} : oAdd (.int i) (.int j) M Q = Q (.int (i + j)) M := rfl
theorem op_ss {i j : Str} {M : Mp} {Q : VK3} : oAdd (.str i) (.str j) M Q = (i.length + j.length ≤ sizeLine ∧ Q (.str (i ++ j)) M) := rfl
theorem op_tt {i j : List D} {M : Mp} {Q : VK3} : oAdd (.tup i) (.tup j) M Q = (i.length + j.length ≤ sizeLine ∧ Q (.tup (i ++ j)) M) := rfl
theorem op_mm {i j : Int} {M : Mp} {Q : VK3} : oMul (.int i) (.int j) M Q = (IntMulOk i j ∧ Q (.int (i * j)) M) := rfl
theorem op_sb {d e : D} {M : Mp} {Q : VK3} : oSub d e M Q = asI d fun i => asI e fun j => Q (.int (i - j)) M := rfl
theorem op_in {C : Int → Int → Prop} {g : Int → Int → Int} {d e : D} {M : Mp} {Q : VK3} : oInt C g d e M Q = asI d fun i => asI e fun j => C i j ∧ Q (.int (g i j)) M := rfl
theorem op_ng {d : D} {M : Mp} {Q : VK3} : oNeg d M Q = asI d fun i => Q (.int (-i)) M := rfl
theorem op_cp {p : Int → Int → Bool} {d e : D} {M : Mp} {Q : VK3} : oCmp p d e M Q = asI d fun i => asI e fun j => Q (.bl (p i j)) M := rfl
theorem op_iNf {d : D} {M : Mp} {Q : VK3} : oIsN false d .non M Q = Q (.bl (isN d)) M := rfl
theorem op_iNt {d : D} {M : Mp} {Q : VK3} : oIsN true d .non M Q = Q (.bl (!isN d)) M := rfl
theorem op_ixT {ds : List D} {e : D} {M : Mp} {Q : VK3} : oIx (.tup ds) e M Q = asI e fun i => asS (atI ds i) fun v => Q v M := rfl
theorem op_ixR {ds : List D} {e : D} {M : Mp} {Q : VK3} : oIx (.rol ds) e M Q = asI e fun i => asS (atI ds i) fun v => Q v M := rfl
theorem op_ixL {a : Addr} {e : D} {M : Mp} {Q : VK3} : oIx (.ref a) e M Q = asI e fun i => asL (lstOf (M a)) fun ds => asS (atI ds i) fun v => Q v M := rfl
theorem it_tupE {M : Mp} {ds : List D} : items M (.tup ds) = some ds := rfl
theorem it_rolE {M : Mp} {ds : List D} : items M (.rol ds) = some ds := rfl
theorem it_refE {M : Mp} {a : Addr} : items M (.ref a) = lstOf (M a) := rfl
theorem lstOf_l {ds : List D} : lstOf (some (.lst ds)) = some ds := rfl
theorem bl_1 {r : D → Mp → VK3 → Prop} {d : D} {M : Mp} {Q : VK3} : b1 r [d] M Q = r d M Q := rfl
theorem bl_lenT {M : Mp} {ds : List D} {Q : VK3} : bLen [.tup ds] M Q = Q (.int ds.length) M := rfl
theorem bl_lenR {M : Mp} {ds : List D} {Q : VK3} : bLen [.rol ds] M Q = Q (.int ds.length) M := rfl
theorem bl_lenL {M : Mp} {a : Addr} {Q : VK3} : bLen [.ref a] M Q = asL (lstOf (M a)) fun ds => Q (.int ds.length) M := rfl
theorem bl_lenS {M : Mp} {z : Str} {Q : VK3} : bLen [.str z] M Q = (z.length ≤ sizeLine ∧ Q (.int z.length) M) := rfl
theorem bl_tuple {M : Mp} {d : D} {Q : VK3} : bTuple [d] M Q = asL (items M d) fun ds => Q (.tup ds) M := rfl
theorem bl_list {M : Mp} {d : D} {Q : VK3} : bList [d] M Q = asL (items M d) fun ds => ∀ p, M p = none → Q (.ref p) (mset M p (.lst ds)) := rfl
theorem bl_abs {M : Mp} {d : D} {Q : VK3} : bAbs [d] M Q = asI d fun i => Q (.int (if i < 0 then -i else i)) M := rfl
theorem bl_intI {M : Mp} {i : Int} {Q : VK3} : bInt [.int i] M Q = Q (.int i) M := rfl
theorem bl_intB {M : Mp} {i : Bool} {Q : VK3} : bInt [.bl i] M Q = Q (.int (if i then 1 else 0)) M := rfl
theorem bl_max {M : Mp} {i j : Int} {Q : VK3} : bMax [.int i, .int j] M Q = Q (.int (if j > i then j else i)) M := rfl
theorem bl_min {M : Mp} {i j : Int} {Q : VK3} : bMin [.int i, .int j] M Q = Q (.int (if j < i then j else i)) M := rfl
theorem bl_repr {M : Mp} {d : D} {Q : VK3} : bRepr [d] M Q = (Sh (top M d) ∧ Q (.str (shown (top M d))) M) := rfl
theorem op_eqSf {x y : Str} {M : Mp} {Q : VK3} : oEq false (.str x) (.str y) M Q = Q (.bl (decide (x = y))) M := rfl
theorem op_eqSt {x y : Str} {M : Mp} {Q : VK3} : oEq true (.str x) (.str y) M Q = Q (.bl (!decide (x = y))) M := rfl
theorem op_eqIf {x : Int} {e : D} {M : Mp} {Q : VK3} : oEq false (.int x) e M Q = (Pl (.int x) ∧ Pl (top M e) ∧ Q (.bl (eqD (.int x) (top M e))) M) := rfl
theorem op_eqIt {x : Int} {e : D} {M : Mp} {Q : VK3} : oEq true (.int x) e M Q = (Pl (.int x) ∧ Pl (top M e) ∧ Q (.bl (!eqD (.int x) (top M e))) M) := rfl
theorem op_eqTf {x : List D} {e : D} {M : Mp} {Q : VK3} : oEq false (.tup x) e M Q = (Pl (.tup x) ∧ Pl (top M e) ∧ Q (.bl (eqD (.tup x) (top M e))) M) := rfl
theorem op_eqTt {x : List D} {e : D} {M : Mp} {Q : VK3} : oEq true (.tup x) e M Q = (Pl (.tup x) ∧ Pl (top M e) ∧ Q (.bl (!eqD (.tup x) (top M e))) M) := rfl
theorem op_eqRf {x : Addr} {e : D} {M : Mp} {Q : VK3} : oEq false (.ref x) e M Q = (Pl (top M (.ref x)) ∧ Pl (top M e) ∧ Q (.bl (eqD (top M (.ref x)) (top M e))) M) := rfl
theorem op_eqRt {x : Addr} {e : D} {M : Mp} {Q : VK3} : oEq true (.ref x) e M Q = (Pl (top M (.ref x)) ∧ Pl (top M e) ∧ Q (.bl (!eqD (top M (.ref x)) (top M e))) M) := rfl
theorem op_eqNf {e : D} {M : Mp} {Q : VK3} : oEq false .non e M Q = (Pl .non ∧ Pl (top M e) ∧ Q (.bl (eqD .non (top M e))) M) := rfl
theorem op_eqNt {e : D} {M : Mp} {Q : VK3} : oEq true .non e M Q = (Pl .non ∧ Pl (top M e) ∧ Q (.bl (!eqD .non (top M e))) M) := rfl
theorem eqD_int {i j : Int} : eqD (.int i) (.int j) = decide (i = j) := by
  simp only [eqD, pdOf, PyData.eqv]
  rw [Bool.eq_iff_iff]; simp
theorem eqD_nil {x : List D} : eqD (.tup x) (.tup []) = x.isEmpty := by
  cases x <;> simp only [eqD, pdOf, pdsOf, PyData.eqv, PyData.eqvAll, List.isEmpty]
theorem pl_int {i : Int} : Pl (.int i) = True := eq_true ⟨rfl, Nat.zero_le _⟩
theorem pl_nil : Pl (.tup []) = True := eq_true ⟨rfl, by decide⟩
theorem pl_non : Pl .non = True := eq_true ⟨rfl, by decide⟩
theorem pl_rnil : Pl (.rol []) = True := eq_true ⟨rfl, by decide⟩
theorem pl_bl {b : Bool} : Pl (.bl b) = True := eq_true ⟨rfl, Nat.zero_le _⟩
theorem op_lle {a b : Addr} {M : Mp} {Q : VK3} : oAdd (.ref a) (.ref b) M Q = asL (lstOf (M a)) fun xs => asL (lstOf (M b)) fun ys => xs.length + ys.length ≤ sizeLine ∧ ∀ p, M p = none → Q (.ref p) (mset M p (.lst (xs ++ ys))) := by
  simp only [oAdd]
  cases M a with
  | none => rfl
  | some o =>
    cases o with
    | lst xs =>
      cases M b with
      | none => rfl
      | some u => cases u <;> rfl
    | _ => cases M b <;> rfl
theorem sl_tupE {ds : List D} {lo hi : Option Int} {M : Mp} {Q : VK3} : oSl (.tup ds) lo hi M Q = Q (.tup (cutD ds lo hi)) M := rfl
theorem sl_rolE {ds : List D} {lo hi : Option Int} {M : Mp} {Q : VK3} : oSl (.rol ds) lo hi M Q = ∀ p, M p = none → Q (.ref p) (mset M p (.lst (cutD ds lo hi))) := rfl
/-- a comprehension by what holds of the turn, what is made, M -/
theorem lc_pv {G : Mp → Prop} {g : TG3} {tt : TT3} {te : TE3} {τ : St3} {Q : List D → Mp → Prop} {ds : List D} (Pv : Nat → List D → Mp → Prop)
    (step : ∀ i d acc M, ds[i]? = some d → Pv i acc M → ∀ X : List D → Mp → Prop, (∀ acc' M', Pv (i + 1) acc' M' → X acc' M') → G M ∧ g d τ M fun τ2 M2 => tt τ2 M2 fun b M3 => ite3 b (te τ2 M3 fun y M4 => acc.length < sizeLine ∧ X (acc ++ [y]) M4) (X acc M3))
    (fin : ∀ acc M, Pv ds.length acc M → G M ∧ Q acc M) {M : Mp} (h0 : Pv 0 [] M) : lcW G g tt te τ Q ds [] M := by
  have go : ∀ (k i : Nat) (acc : List D) (M : Mp), ds.length - i = k → i ≤ ds.length → Pv i acc M → lcW G g tt te τ Q (ds.drop i) acc M := by
    intro k
    induction k with
    | zero =>
      intro i acc M hk hi p
      have e : i = ds.length := by omega
      subst e
      rw [List.drop_length]
      exact fin acc M p
    | succ k ih =>
      intro i acc M hk hi p
      have hlt : i < ds.length := by omega
      rw [List.drop_eq_getElem_cons hlt]
      exact step i _ acc M (List.getElem?_eq_getElem hlt) p _ fun acc' M' p' => ih (i + 1) acc' M' (by omega) hlt p'
  exact go _ 0 [] M rfl (Nat.zero_le _) h0
/-- a for by what holds ahead of each turn -/
theorem for_pv {G : Mp → Prop} {g : TG3} {tb : TS3} {E : Ends3} {ds : List D} (Pv : Nat → St3 → Mp → Prop)
    (step : ∀ i d τ M, ds[i]? = some d → Pv i τ M → ∀ X : St3 → Mp → Prop, (∀ τ' M', Pv (i + 1) τ' M' → X τ' M') → G M ∧ g d τ M fun τ2 M2 => tb { E with nx := X, ct := X, bk := E.nx } τ2 M2)
    (fin : ∀ τ M, Pv ds.length τ M → G M ∧ E.nx τ M) {τ : St3} {M : Mp} (h0 : Pv 0 τ M) : forW G g tb E ds τ M := by
  have go : ∀ (k i : Nat) (τ : St3) (M : Mp), ds.length - i = k → i ≤ ds.length → Pv i τ M → forW G g tb E (ds.drop i) τ M := by
    intro k
    induction k with
    | zero =>
      intro i τ M hk hi p
      have e : i = ds.length := by omega
      subst e
      rw [List.drop_length]
      exact fin τ M p
    | succ k ih =>
      intro i τ M hk hi p
      have hlt : i < ds.length := by omega
      rw [List.drop_eq_getElem_cons hlt]
      exact step i _ τ M (List.getElem?_eq_getElem hlt) p _ fun τ' M' p' => ih (i + 1) τ' M' (by omega) hlt p'
  exact go _ 0 τ M rfl (Nat.zero_le _) h0
theorem rgD_len (lo : Int) (n : Nat) : (rgD lo n).length = n := by unfold rgD; simp
/-- over a range -/
theorem for_rg {g : TG3} {tb : TS3} {E : Ends3} {lo : Int} {n : Nat} (Pv : Nat → St3 → Mp → Prop)
    (step : ∀ i τ M, i < n → Pv i τ M → ∀ X : St3 → Mp → Prop, (∀ τ' M', Pv (i + 1) τ' M' → X τ' M') → g (.int (lo + (i : Nat))) τ M fun τ2 M2 => tb { E with nx := X, ct := X, bk := E.nx } τ2 M2)
    (fin : ∀ τ M, Pv n τ M → E.nx τ M) {τ : St3} {M : Mp} (h0 : Pv 0 τ M) : forW (fun _ => True) g tb E (rgD lo n) τ M :=
  for_pv Pv (fun i d τ M hd p X hX => by
    obtain ⟨hi, rfl⟩ := rgD_get hd
    exact ⟨True.intro, step i τ M hi p X hX⟩) (fun τ M p => ⟨True.intro, fin τ M (by rw [rgD_len] at p; exact p)⟩) h0
theorem while_pv {c : TT3} {tb : TS3} {E : Ends3} (Pv : Nat → St3 → Mp → Prop)
    (step : ∀ n τ M, Pv n τ M → ∀ X : St3 → Mp → Prop, (∀ m τ' M', m < n → Pv m τ' M' → X τ' M') → c τ M fun b M1 => ite3 b (tb { E with nx := X, ct := X, bk := E.nx } τ M1) (E.nx τ M1)) {n : Nat} {τ : St3} {M : Mp} (h0 : Pv n τ M) : wWhile c tb E τ M := by
  refine ⟨n + 1, ?_⟩
  have go : ∀ k n τ M, n ≤ k → Pv n τ M → whileW c tb E (k + 1) τ M := by
    intro k
    induction k with
    | zero =>
      intro n τ M hn p
      exact step n τ M p _ fun m τ' M' hm p' => by omega
    | succ k ih =>
      intro n τ M hn p
      exact step n τ M p _ fun m τ' M' hm p' => ih m τ' M' (by omega) p'
  exact go n n τ M (Nat.le_refl _) h0
structure Mat (M : Mp) (e : Addr) (as : List Addr) (T : Tab) : Prop where
  top : M e = some (.lst (as.map D.ref))
  len : as.length = T.length
  row : ∀ (i : Nat) (a : Addr) (r : List Ed), as[i]? = some a → T[i]? = some r → M a = some (.lst (r.map oD))
  nd : as.Nodup
  ne : e ∉ as
theorem Mat.le {M M' : Mp} {e : Addr} {as : List Addr} {T : Tab} (m : Mat M e as T) (l : Le M M') : Mat M' e as T :=
  ⟨l _ _ m.top, m.len, fun i a r h1 h2 => l _ _ (m.row i a r h1 h2), m.nd, m.ne⟩
/-- so many rows laid, the list of them not yet -/
structure Rows (M M' : Mp) (as : List Addr) (T : Tab) : Prop where
  le : Le M M'
  len : as.length = T.length
  row : ∀ (i : Nat) (a : Addr) (r : List Ed), as[i]? = some a → T[i]? = some r → M' a = some (.lst (r.map oD))
  nd : as.Nodup
  new : ∀ a ∈ as, M a = none
theorem Rows.nil {M : Mp} : Rows M M [] [] := ⟨.refl, rfl, fun _ _ _ h => by simp at h, List.nodup_nil, fun _ h => by simp at h⟩
/-- a matrix's end stored -/
theorem Mat.put {M : Mp} {e : Addr} {as : List Addr} {T : Tab} {p : Nat} {a : Addr} {r r' : List Ed} (m : Mat M e as T) (ha : as[p]? = some a) (hr : T[p]? = some r) : Mat (mset M a (.lst (r'.map oD))) e as (T.set p r') := by
  have nea : e ≠ a := fun h => m.ne (h ▸ List.mem_of_getElem? ha)
  refine ⟨by rw [mset_ne nea]; exact m.top, by rw [List.length_set]; exact m.len, fun i b q h1 h2 => ?_, m.nd, m.ne⟩
  by_cases hi : i = p
  · subst hi
    rw [ha] at h1; cases h1
    rw [List.getElem?_set_self (List.getElem?_eq_some_iff.mp hr).1] at h2
    cases h2
    exact mset_same
  · rw [List.getElem?_set_ne (Ne.symm hi)] at h2
    have : b ≠ a := fun h => by subst h; exact hi (nd_ix m.nd h1 ha)
    rw [mset_ne this]
    exact m.row i b q h1 h2
theorem Mat.at {M : Mp} {e : Addr} {as : List Addr} {T : Tab} {p : Nat} {r : List Ed} (m : Mat M e as T) (hr : T[p]? = some r) : ∃ a, as[p]? = some a ∧ M a = some (.lst (r.map oD)) := by
  have hp : p < as.length := by rw [m.len]; exact (List.getElem?_eq_some_iff.mp hr).1
  exact ⟨as[p], List.getElem?_eq_getElem hp, m.row p _ r (List.getElem?_eq_getElem hp) hr⟩
theorem items_ref {M : Mp} {a : Addr} {ds : List D} (h : M a = some (.lst ds)) : items M (.ref a) = some ds := by
  simp only [items, h]; rfl
theorem atI_nat' {α : Type} {xs : List α} {i : Int} {v : α} (h0 : 0 ≤ i) (h : xs[i.toNat]? = some v) : atI xs i = some v := by
  have e : i = ((i.toNat : Nat) : Int) := by omega
  rw [e]; exact atI_nat h
theorem ixN_nat {n : Nat} {i : Int} (h0 : 0 ≤ i) (h1 : i < n) : ixN n i = some i.toNat := by
  unfold ixN
  rw [if_pos h0, if_pos h1]
theorem ex_lstF {t : TA3} {τ : St3} {M : Mp} {Q : VK3} : wLstF t τ M Q = t τ M fun xs M1 => xs.length ≤ sizeLine ∧ Q (.rol xs) M1 := rfl
theorem ex_repF {te tb : TE3} {τ : St3} {M : Mp} {Q : VK3} : wRepF te tb τ M Q = te τ M fun d M1 => tb τ M1 fun i M2 => asI i fun k => -(2 ^ 63) ≤ k ∧ k < 2 ^ 63 ∧ k.toNat ≤ sizeLine ∧ Q (.rol (List.replicate k.toNat d)) M2 := rfl
theorem ex_lgF1 {ta : TE3} {τ : St3} {M : Mp} {Q : VK3} : wLstRgF1 ta τ M Q = ta τ M fun d M1 => asI d fun n => (-(2 ^ 62) ≤ n ∧ n ≤ 16777216) ∧ Q (.rol (rgD 0 n.toNat)) M1 := rfl
theorem ex_lgF2 {ta tb : TE3} {τ : St3} {M : Mp} {Q : VK3} : wLstRgF2 ta tb τ M Q = ta τ M fun d M1 => tb τ M1 fun e M2 => asI d fun i => asI e fun j => (-(2 ^ 60) ≤ i ∧ i < 2 ^ 60 ∧ -(2 ^ 60) ≤ j ∧ j < 2 ^ 60 ∧ j - i ≤ 16777216) ∧ Q (.rol (rgD i (j - i).toNat)) M2 := rfl
theorem ex_tupRg1 {ta : TE3} {τ : St3} {M : Mp} {Q : VK3} : wTupRg1 ta τ M Q = ta τ M fun d M1 => asI d fun n => (-(2 ^ 62) ≤ n ∧ n ≤ 16777216) ∧ Q (.tup (rgD 0 n.toNat)) M1 := rfl
theorem ex_tupRg2 {ta tb : TE3} {τ : St3} {M : Mp} {Q : VK3} : wTupRg2 ta tb τ M Q = ta τ M fun d M1 => tb τ M1 fun e M2 => asI d fun i => asI e fun j => (-(2 ^ 60) ≤ i ∧ i < 2 ^ 60 ∧ -(2 ^ 60) ≤ j ∧ j < 2 ^ 60 ∧ j - i ≤ 16777216) ∧ Q (.tup (rgD i (j - i).toNat)) M2 := rfl
theorem ex_lcF {wi : TI3} {g : TG3} {tt : TT3} {te : TE3} {vs : List Nat} {τ : St3} {M : Mp} {Q : VK3} : wLcF wi g tt te vs τ M Q = wi τ M fun ds G M1 => lcW G g tt te (wipe3 τ vs) (fun acc M2 => Q (.rol acc) M2) ds [] M1 := rfl
theorem ex_frz {te : TE3} {τ : St3} {M : Mp} {Q : VK3} : wFrz te τ M Q = te τ M (frzK Q) := rfl
theorem ex_slF {te : TE3} {tl th : PT3o} {τ : St3} {M : Mp} {Q : VK3} : wSlF te tl th τ M Q = te τ M fun d M1 => tl τ M1 fun lo M2 => th τ M2 fun hi M3 => oSlF d lo hi M3 Q := rfl
theorem ex_slM {te : TE3} {tl th : PT3o} {τ : St3} {M : Mp} {Q : VK3} : wSlM te tl th τ M Q = te τ M fun d M1 => tl τ M1 fun lo M2 => th τ M2 fun hi M3 => oSlM d lo hi M3 Q := rfl
theorem sl_tupF {ds : List D} {lo hi : Option Int} {M : Mp} {Q : VK3} : oSlF (.tup ds) lo hi M Q = Q (.tup (cutD ds lo hi)) M := rfl
theorem sl_rolF {ds : List D} {lo hi : Option Int} {M : Mp} {Q : VK3} : oSlF (.rol ds) lo hi M Q = Q (.rol (cutD ds lo hi)) M := rfl
theorem op_iiF {i j : Int} {M : Mp} {Q : VK3} : oAddF (.int i) (.int j) M Q = Q (.int (i + j)) M := rfl
theorem op_ssF {i j : Str} {M : Mp} {Q : VK3} : oAddF (.str i) (.str j) M Q = (i.length + j.length ≤ sizeLine ∧ Q (.str (i ++ j)) M) := rfl
theorem op_ttF {i j : List D} {M : Mp} {Q : VK3} : oAddF (.tup i) (.tup j) M Q = (i.length + j.length ≤ sizeLine ∧ Q (.tup (i ++ j)) M) := rfl
theorem op_rrF {i j : List D} {M : Mp} {Q : VK3} : oAddF (.rol i) (.rol j) M Q = (i.length + j.length ≤ sizeLine ∧ Q (.rol (i ++ j)) M) := rfl
theorem op_rrM {i j : List D} {M : Mp} {Q : VK3} : oAddM (.rol i) (.rol j) M Q = (i.length + j.length ≤ sizeLine ∧ ∀ p, M p = none → Q (.ref p) (mset M p (.lst (i ++ j)))) := rfl
theorem op_mmF {i j : Int} {M : Mp} {Q : VK3} : oMulF (.int i) (.int j) M Q = (IntMulOk i j ∧ Q (.int (i * j)) M) := rfl
theorem op_repF {xs : List D} {e : D} {M : Mp} {Q : VK3} : oMulF (.rol xs) e M Q = asI e fun k => -(2 ^ 63) ≤ k ∧ k < 2 ^ 63 ∧ xs.length * k.toNat ≤ sizeLine ∧ Q (.rol (List.replicate k.toNat xs).flatten) M := rfl
theorem rep2 {x : D} : List.replicate (Int.toNat 2) x = [x, x] := rfl
theorem li_rol {M : Mp} {ds : List D} : lstI M (.rol ds) = some ds := rfl
theorem li_ref {M : Mp} {a : Addr} : lstI M (.ref a) = lstOf (M a) := rfl
theorem bl_listF {M : Mp} {d : D} {Q : VK3} : bListF [d] M Q = asL (items M d) fun ds => Q (.rol ds) M := rfl
theorem bl_allF {M : Mp} {d : D} {Q : VK3} : bAllF [d] M Q = asL (lstI M d) fun ds => asT (bls ds) fun l => Q (.bl (l.all id)) M := rfl
theorem bl_anyF {M : Mp} {d : D} {Q : VK3} : bAnyF [d] M Q = asL (lstI M d) fun ds => asT (bls ds) fun l => Q (.bl (l.any id)) M := rfl
theorem asT_some {l : List Bool} {k : List Bool → Prop} : asT (some l) k = k l := rfl
theorem asJ_some {l : List Int} {k : List Int → Prop} : asJ (some l) k = k l := rfl
theorem op_eqLf {x : List D} {e : D} {M : Mp} {Q : VK3} : oEq false (.rol x) e M Q = (Pl (.rol x) ∧ Pl (top M e) ∧ Q (.bl (eqD (.rol x) (top M e))) M) := rfl
theorem op_eqLt {x : List D} {e : D} {M : Mp} {Q : VK3} : oEq true (.rol x) e M Q = (Pl (.rol x) ∧ Pl (top M e) ∧ Q (.bl (!eqD (.rol x) (top M e))) M) := rfl
theorem op_eqBf {x : Bool} {e : D} {M : Mp} {Q : VK3} : oEq false (.bl x) e M Q = (Pl (.bl x) ∧ Pl (top M e) ∧ Q (.bl (eqD (.bl x) (top M e))) M) := rfl
theorem op_eqBt {x : Bool} {e : D} {M : Mp} {Q : VK3} : oEq true (.bl x) e M Q = (Pl (.bl x) ∧ Pl (top M e) ∧ Q (.bl (!eqD (.bl x) (top M e))) M) := rfl
theorem it_enumF {t : TA3} {τ : St3} {M : Mp} {R : List D → (Mp → Prop) → Mp → Prop} : wEnum t τ M R = t τ M fun ds M1 => match ds with
  | [d] => asL (items M1 d) fun xs => R (enD xs) (keepG M1 d xs) M1
  | _ => False := rfl
theorem bls_map {α : Type} (g : α → Bool) : ∀ l : List α, bls (l.map fun x => D.bl (g x)) = some (l.map g)
  | [] => rfl
  | x :: r => by
    show (bls (r.map fun x => D.bl (g x))).map (g x :: ·) = _
    rw [bls_map g r]; rfl
/-- a comprehension over items by what they are made of -/
theorem lc_of {α : Type} {G : Mp → Prop} {g : TG3} {te : TE3} {τ : St3} {Q : List D → Mp → Prop} {M : Mp} (enc : α → D) (f : α → D) (hG : G M) (xs : List α) (hl : xs.length ≤ sizeLine)
    (h : ∀ x ∈ xs, ∀ k : D → Mp → Prop, k (f x) M → g (enc x) τ M fun τ2 M2 => te τ2 M2 k) (q : Q (xs.map f) M) : lcW G g wYes te τ Q (xs.map enc) [] M := by
  have go : ∀ (ys : List α) (acc : List D), acc.length + ys.length ≤ sizeLine → (∀ x ∈ ys, x ∈ xs) → Q (acc ++ ys.map f) M → lcW G g wYes te τ Q (ys.map enc) acc M := by
    intro ys
    induction ys with
    | nil => intro acc _ _ q; exact ⟨hG, by simpa using q⟩
    | cons y ys ih =>
      intro acc hl hm q
      refine ⟨hG, h y (hm y (by simp)) _ ⟨by simp at hl; omega, ih _ (by simp at hl ⊢; omega) (fun x hx => hm x (by simp [hx])) (by simpa using q)⟩⟩
  exact go xs [] (by simpa using hl) (fun _ h => h) (by simpa using q)
/-- .. some of them -/
theorem lc_if {α : Type} {G : Mp → Prop} {g : TG3} {tt : TT3} {te : TE3} {τ : St3} {Q : List D → Mp → Prop} {M : Mp} (enc : α → D) (c : α → Bool) (f : α → D) (hG : G M) (xs : List α) (hl : xs.length ≤ sizeLine)
    (h : ∀ x ∈ xs, ∀ k : D → Mp → Prop, ∀ k2 : Mp → Prop, (c x = true → k (f x) M) → (c x = false → k2 M) → g (enc x) τ M fun τ2 M2 => tt τ2 M2 fun b M3 => ite3 b (te τ2 M3 k) (k2 M3)) (q : Q ((xs.filter c).map f) M) : lcW G g tt te τ Q (xs.map enc) [] M := by
  have go : ∀ (ys : List α) (acc : List D), acc.length + ys.length ≤ sizeLine → (∀ x ∈ ys, x ∈ xs) → Q (acc ++ (ys.filter c).map f) M → lcW G g tt te τ Q (ys.map enc) acc M := by
    intro ys
    induction ys with
    | nil => intro acc _ _ q; exact ⟨hG, by simpa using q⟩
    | cons y ys ih =>
      intro acc hl hm q
      refine ⟨hG, h y (hm y (by simp)) _ _ (fun hc => ⟨by simp at hl; omega, ih _ (by simp at hl ⊢; omega) (fun x hx => hm x (by simp [hx])) ?_⟩) fun hc => ih _ (by simp at hl ⊢; omega) (fun x hx => hm x (by simp [hx])) ?_⟩
      · simpa [List.filter_cons, hc] using q
      · simpa [List.filter_cons, hc] using q
  exact go xs [] (by simpa using hl) (fun _ h => h) (by simpa using q)
/-- over items by what they are made of -/
theorem for_of {α : Type} {G : Mp → Prop} {g : TG3} {tb : TS3} {E : Ends3} {xs : List α} (enc : α → D) (Pv : Nat → St3 → Mp → Prop) (hG : ∀ i τ M, Pv i τ M → G M)
    (step : ∀ i x τ M, xs[i]? = some x → Pv i τ M → ∀ X : St3 → Mp → Prop, (∀ τ' M', Pv (i + 1) τ' M' → X τ' M') → g (enc x) τ M fun τ2 M2 => tb { E with nx := X, ct := X, bk := E.nx } τ2 M2)
    (fin : ∀ τ M, Pv xs.length τ M → E.nx τ M) {τ : St3} {M : Mp} (h0 : Pv 0 τ M) : forW G g tb E (xs.map enc) τ M :=
  for_pv Pv (fun i d τ M hd p X hX => by
    rw [List.getElem?_map] at hd
    obtain ⟨x, hx, rfl⟩ := Option.map_eq_some_iff.mp hd
    exact ⟨hG i τ M p, step i x τ M hx p X hX⟩) (fun τ M p => ⟨hG _ τ M p, fin τ M (by rw [List.length_map] at p; exact p)⟩) h0
end L3
set_option Elab.async false
set_option linter.all false
set_option maxRecDepth 100000
set_option maxHeartbeats 4000000
namespace L3
open PySem PySem.Spec PyProof.Rows L2
def asN (o : Option Nat) (k : Nat → Prop) : Prop := match o with
  | some n => k n
  | none => False
theorem asN_some {n : Nat} {k : Nat → Prop} : asN (some n) k = k n := rfl
theorem exL {xs : List D} : (∃ ds, some (MO.lst xs) = some (MO.lst ds)) = True := eq_true ⟨xs, rfl⟩
theorem op_putE {a : Addr} {k : Int} {v : D} {M : Mp} {Q : Mp → Prop} : oPut (.ref a) (.int k) v M Q = asL (lstOf (M a)) fun ds => asN (ixN ds.length k) fun j => Q (mset M a (.lst (ds.set j v))) := by
  simp only [oPut]
  cases M a with
  | none => rfl
  | some o =>
    cases o with
    | lst ds =>
      simp only [lstOf_l, asL_some]
      cases ixN ds.length k <;> rfl
    | _ => rfl
theorem op_appE {a : Addr} {y : D} {M : Mp} {Q : VK3} : oApp (.ref a) [y] M Q = asL (lstOf (M a)) fun xs => xs.length < sizeLine ∧ Q .non (mset M a (.lst (xs ++ [y]))) := by
  simp only [oApp]
  cases M a with
  | none => rfl
  | some o => cases o <;> rfl
theorem keep_ref {M : Mp} {a : Addr} {ds : List D} : keepG M (.ref a) ds = fun M' => M' a = some (.lst ds) := rfl
theorem keep_tup {M : Mp} {xs ds : List D} : keepG M (.tup xs) ds = fun _ => True := rfl
theorem keep_rol {M : Mp} {xs ds : List D} : keepG M (.rol xs) ds = fun _ => True := rfl
theorem tp_int {M : Mp} {i : Int} : top M (.int i) = .int i := rfl
theorem tp_tup {M : Mp} {i : List D} : top M (.tup i) = .tup i := rfl
theorem tp_rol {M : Mp} {i : List D} : top M (.rol i) = .rol i := rfl
theorem tp_str {M : Mp} {i : Str} : top M (.str i) = .str i := rfl
theorem tp_bl {M : Mp} {i : Bool} : top M (.bl i) = .bl i := rfl
theorem tp_non {M : Mp} : top M .non = .non := rfl
def topOf (a : Addr) : Option MO → D
  | some (.lst ds) => .rol ds
  | _ => .ref a
theorem tp_ref {M : Mp} {a : Addr} : top M (.ref a) = topOf a (M a) := by
  simp only [top]
  cases M a with
  | none => rfl
  | some o => cases o <;> rfl
theorem wipe_nil {τ : St3} : wipe3 τ [] = τ := rfl
theorem wipe_cons {τ : St3} {v : Nat} {vs : List Nat} : wipe3 τ (v :: vs) = setS (wipe3 τ vs) v none := rfl
theorem isN_int {i : Int} : isN (.int i) = false := rfl
theorem isN_non : isN .non = true := rfl
theorem sz_0 : (([] : List D).length ≤ sizeLine) = True := eq_true (by show 0 ≤ sizeLine; decide)
theorem sz_1 {x0 : D} : (([x0] : List D).length ≤ sizeLine) = True := eq_true (by show 1 ≤ sizeLine; decide)
theorem sz_2 {x0 x1 : D} : (([x0, x1] : List D).length ≤ sizeLine) = True := eq_true (by show 2 ≤ sizeLine; decide)
theorem sz_3 {x0 x1 x2 : D} : (([x0, x1, x2] : List D).length ≤ sizeLine) = True := eq_true (by show 3 ≤ sizeLine; decide)
theorem sz_4 {x0 x1 x2 x3 : D} : (([x0, x1, x2, x3] : List D).length ≤ sizeLine) = True := eq_true (by show 4 ≤ sizeLine; decide)
theorem sz_5 {x0 x1 x2 x3 x4 : D} : (([x0, x1, x2, x3, x4] : List D).length ≤ sizeLine) = True := eq_true (by show 5 ≤ sizeLine; decide)
theorem sz_6 {x0 x1 x2 x3 x4 x5 : D} : (([x0, x1, x2, x3, x4, x5] : List D).length ≤ sizeLine) = True := eq_true (by show 6 ≤ sizeLine; decide)
theorem sz_7 {x0 x1 x2 x3 x4 x5 x6 : D} : (([x0, x1, x2, x3, x4, x5, x6] : List D).length ≤ sizeLine) = True := eq_true (by show 7 ≤ sizeLine; decide)
theorem sz_8 {x0 x1 x2 x3 x4 x5 x6 x7 : D} : (([x0, x1, x2, x3, x4, x5, x6, x7] : List D).length ≤ sizeLine) = True := eq_true (by show 8 ≤ sizeLine; decide)
theorem sz_9 {x0 x1 x2 x3 x4 x5 x6 x7 x8 : D} : (([x0, x1, x2, x3, x4, x5, x6, x7, x8] : List D).length ≤ sizeLine) = True := eq_true (by show 9 ≤ sizeLine; decide)
theorem sz_10 {x0 x1 x2 x3 x4 x5 x6 x7 x8 x9 : D} : (([x0, x1, x2, x3, x4, x5, x6, x7, x8, x9] : List D).length ≤ sizeLine) = True := eq_true (by show 10 ≤ sizeLine; decide)
theorem sz_11 {x0 x1 x2 x3 x4 x5 x6 x7 x8 x9 x10 : D} : (([x0, x1, x2, x3, x4, x5, x6, x7, x8, x9, x10] : List D).length ≤ sizeLine) = True := eq_true (by show 11 ≤ sizeLine; decide)
theorem sz_12 {x0 x1 x2 x3 x4 x5 x6 x7 x8 x9 x10 x11 : D} : (([x0, x1, x2, x3, x4, x5, x6, x7, x8, x9, x10, x11] : List D).length ≤ sizeLine) = True := eq_true (by show 12 ≤ sizeLine; decide)
/-- a holds three numbers -/
def Feed (M : Mp) (a : Addr) : Prop := ∃ g m c : Int, M a = some (.lst [.int g, .int m, .int c])
/-- a alone was written -/
def Only (a : Addr) (M M' : Mp) : Prop := ∀ b, b ≠ a → M' b = M b
theorem Only.refl {a : Addr} {M : Mp} : Only a M M := fun _ _ => rfl
theorem Only.trans {a : Addr} {M M1 M2 : Mp} (x : Only a M M1) (y : Only a M1 M2) : Only a M M2 := fun b h => (y b h).trans (x b h)
theorem Only.set {a : Addr} {M M1 : Mp} {o : MO} (x : Only a M M1) : Only a M (mset M1 a o) := fun b h => by rw [mset_ne h]; exact x b h
theorem md_in {x n : Int} (h : 0 < n) : 0 ≤ x.fmod n ∧ x.fmod n < n := ⟨Int.fmod_nonneg_of_pos _ h, Int.fmod_lt_of_pos _ h⟩
theorem mulL {i j : Int} (h : 0 ≤ i) (h1 : i < 2 ^ 64) : IntMulOk i j := CMul.ok (.inl ⟨by omega, h1⟩)
theorem mulR {i j : Int} (h : 0 ≤ j) (h1 : j < 2 ^ 64) : IntMulOk i j := CMul.ok (.inr ⟨by omega, h1⟩)
end L3
set_option Elab.async false
set_option linter.all false
set_option maxRecDepth 100000
set_option maxHeartbeats 4000000
namespace L3
open PySem PySem.Spec PyProof.Rows L2
theorem cut_mem {ds : List D} {lo hi : Option Int} {d : D} (h : d ∈ cutD ds lo hi) : d ∈ ds := List.mem_of_mem_drop (List.mem_of_mem_take h)
structure Tm (h n : Nat) (d : D) : Prop where
  p : plain d = true
  dp : deep d ≤ h
  ok : showOk d = true
  sh : (pdOf d).leavesShort 120 = true
  bk : (pdOf d).bulk ≤ n
theorem Tm.int {i : Int} (hi : i.natAbs < 10 ^ 100) : Tm 0 0 (.int i) := by
  refine ⟨rfl, Nat.le_refl _, ?_, ?_, Nat.le_refl _⟩
  · unfold showOk
    rw [decide_eq_true_eq]
    by_cases e : i.natAbs = 0
    · rw [e]; decide
    · exact (Nat.log2_lt e).mpr (Nat.lt_of_lt_of_le hi (by decide +kernel))
  · show decide ((PyData.shown (.int i)).length ≤ 120) = true
    rw [decide_eq_true_eq]
    have e := int_text_length_le10 (k := 100) (by decide) hi
    show (Str.ofString (toString i)).length ≤ 120
    rw [PySem.ofString_length]
    omega
theorem Tm.non : Tm 0 0 .non := ⟨rfl, Nat.le_refl _, rfl, rfl, Nat.le_refl _⟩
theorem Tm.bl {b : Bool} : Tm 0 0 (.bl b) := ⟨rfl, Nat.le_refl _, rfl, rfl, Nat.le_refl _⟩
theorem Tm.mono {h n h' n' : Nat} {d : D} (t : Tm h n d) (a : h ≤ h') (b : n ≤ n') : Tm h' n' d := ⟨t.p, Nat.le_trans t.dp a, t.ok, t.sh, Nat.le_trans t.bk b⟩
theorem tms {h n : Nat} : ∀ ds : List D, (∀ d ∈ ds, Tm h n d) → plains ds = true ∧ deeps ds ≤ h ∧ showOks ds = true ∧ PyData.leavesShortAll 120 (pdsOf ds) = true ∧ PyData.bulkAll (pdsOf ds) ≤ ds.length * (n + 1)
  | [], _ => ⟨rfl, Nat.zero_le _, rfl, rfl, by simp [pdsOf, PyData.bulkAll]⟩
  | d :: ds, a => by
    obtain ⟨h1, h2, h3, h4, h5⟩ := tms ds fun x hx => a x (by simp [hx])
    have t := a d (by simp)
    refine ⟨by simp [plains, t.p, h1], ?_, by simp [showOks, t.ok, h3], by simp [pdsOf, PyData.leavesShortAll, t.sh, h4], ?_⟩
    · simp only [deeps]
      exact Nat.max_le.mpr ⟨t.dp, h2⟩
    · simp only [pdsOf, PyData.bulkAll, List.length_cons]
      have := t.bk
      rw [Nat.add_mul]
      omega
theorem Tm.tup {h n m : Nat} {ds : List D} (a : ∀ d ∈ ds, Tm h n d) (l : ds.length ≤ m) : Tm (h + 1) (m * (n + 1)) (.tup ds) := by
  obtain ⟨h1, h2, h3, h4, h5⟩ := tms ds a
  refine ⟨by simpa [plain] using h1, by simp only [deep]; omega, by simpa [showOk] using h3, by simpa [pdOf, PyData.leavesShort] using h4, ?_⟩
  simp only [pdOf, PyData.bulk]
  exact Nat.le_trans h5 (Nat.mul_le_mul_right _ l)
theorem Tm.rol {h n m : Nat} {ds : List D} (a : ∀ d ∈ ds, Tm h n d) (l : ds.length ≤ m) : Tm (h + 1) (m * (n + 1)) (.rol ds) := by
  obtain ⟨h1, h2, h3, h4, h5⟩ := tms ds a
  refine ⟨by simpa [plain] using h1, by simp only [deep]; omega, by simpa [showOk] using h3, by simpa [pdOf, PyData.leavesShort] using h4, ?_⟩
  simp only [pdOf, PyData.bulk]
  exact Nat.le_trans h5 (Nat.mul_le_mul_right _ l)
theorem Tm.pl {h n : Nat} {d : D} (t : Tm h n d) (a : h ≤ 64) : Pl d := ⟨t.p, Nat.le_trans t.dp a⟩
theorem Tm.fits {h n : Nat} {d : D} (t : Tm h n d) (a : h ≤ 64) (b : n ≤ 130000) : Sh d := by
  refine ⟨t.pl a, t.ok, ?_⟩
  have := PyData.shown_le_bulk 120 (by decide) (pdOf d) t.sh
  have := t.bk
  show (pdOf d).shown.length ≤ sizeLine
  have : sizeLine = 16777216 := by decide
  omega
/-- an end within a bound -/
def EdB (B : Nat) (e : Ed) : Prop := ∀ i, e = some i → i.natAbs < B
/-- a table of so many rows and columns, its ends within a bound -/
structure TabB (B n : Nat) (T : Tab) : Prop where
  rows : T.length = n
  cols : ∀ r ∈ T, r.length = n
  ends : ∀ r ∈ T, ∀ e ∈ r, EdB B e
theorem Tm.ed {B : Nat} {e : Ed} (h : EdB B e) (hB : B ≤ 10 ^ 100) : Tm 0 0 (oD e) := by
  cases e with
  | none => exact .non
  | some i => exact .int (Nat.lt_of_lt_of_le (h i rfl) hB)
theorem Tm.tab {B n : Nat} {T : Tab} (h : TabB B n T) (hB : B ≤ 10 ^ 100) : Tm 2 (n * (n + 1)) (tabD T) := by
  refine (Tm.tup (h := 1) (n := n * 1) (m := n) (fun d hd => ?_) (by rw [List.length_map, h.rows]; exact Nat.le_refl _)).mono (Nat.le_refl _) (by rw [Nat.mul_one]; exact Nat.le_refl _)
  obtain ⟨r, hr, rfl⟩ := List.mem_map.mp hd
  refine Tm.tup (h := 0) (n := 0) (m := n) (fun e he => ?_) (by rw [List.length_map, h.cols r hr]; exact Nat.le_refl _)
  obtain ⟨x, hx, rfl⟩ := List.mem_map.mp he
  exact .ed (h.ends r hr x hx) hB
end L3
set_option Elab.async false
set_option linter.all false
set_option maxRecDepth 100000
set_option maxHeartbeats 4000000
namespace L3
open PySem PySem.Spec PyProof.Rows L2
def emptyT (n : Nat) : Tab := List.replicate n (List.replicate n none)
def at2 (T : Tab) (p q : Nat) : Ed := (T.getD p []).getD q none
def putT (T : Tab) (p q : Nat) (e : Ed) : Tab := T.set p ((T.getD p []).set q e)
/-- so many rows, so many columns -/
structure Sq (n : Nat) (T : Tab) : Prop where
  rows : T.length = n
  cols : ∀ r ∈ T, r.length = n
theorem Sq.empty {n : Nat} : Sq n (emptyT n) := ⟨by simp [emptyT], fun r hr => by
  rw [List.eq_of_mem_replicate hr]; simp⟩
theorem Sq.put {n p q : Nat} {T : Tab} {e : Ed} (s : Sq n T) : Sq n (putT T p q e) := by
  refine ⟨by simp [putT, s.rows], fun r hr => ?_⟩
  rcases List.mem_or_eq_of_mem_set hr with h | h
  · exact s.cols r h
  · by_cases hp : p < T.length
    · rw [h, List.length_set, List.getD_eq_getElem?_getD, List.getElem?_eq_getElem hp]
      exact s.cols _ (List.getElem_mem hp)
    · unfold putT at hr
      rw [List.set_eq_of_length_le (by omega)] at hr
      exact s.cols r hr
/-- ends within a bound -/
def Ends (B : Nat) (T : Tab) : Prop := ∀ r ∈ T, ∀ e ∈ r, EdB B e
theorem EdB.non {B : Nat} : EdB B none := fun _ h => nomatch h
theorem Ends.empty {B n : Nat} : Ends B (emptyT n) := fun r hr e he => by
  rw [List.eq_of_mem_replicate hr] at he
  rw [List.eq_of_mem_replicate he]; exact .non
theorem Ends.put {B p q : Nat} {T : Tab} {e : Ed} (s : Ends B T) (h : EdB B e) : Ends B (putT T p q e) := by
  intro r hr x hx
  rcases List.mem_or_eq_of_mem_set hr with h' | h'
  · exact s r h' x hx
  · rw [h'] at hx
    rcases List.mem_or_eq_of_mem_set hx with h2 | h2
    · by_cases hp : p < T.length
      · rw [List.getD_eq_getElem?_getD, List.getElem?_eq_getElem hp] at h2
        exact s _ (List.getElem_mem hp) x h2
      · rw [List.getD_eq_getElem?_getD, List.getElem?_eq_none (by omega)] at h2
        simp at h2
    · rw [h2]; exact h
theorem TabB.of {B n : Nat} {T : Tab} (s : Sq n T) (e : Ends B T) : TabB B n T := ⟨s.rows, s.cols, e⟩
theorem TabB.sq {B n : Nat} {T : Tab} (t : TabB B n T) : Sq n T := ⟨t.rows, t.cols⟩
/-- the row and the end there -/
theorem Sq.get {n : Nat} {T : Tab} (s : Sq n T) {p q : Int} (hp : 0 ≤ p) (hp1 : p < n) (hq : 0 ≤ q) (hq1 : q < n) :
    ∃ r, T[p.toNat]? = some r ∧ r[q.toNat]? = some (at2 T p.toNat q.toNat) ∧ atI (T.map rowD) p = some (.tup (r.map oD)) ∧ atI (r.map oD) q = some (oD (at2 T p.toNat q.toNat)) ∧ ixN (r.map oD).length q = some q.toNat ∧ T.getD p.toNat [] = r := by
  have h1 : p.toNat < T.length := by rw [s.rows]; omega
  have h2 : q.toNat < T[p.toNat].length := by rw [s.cols _ (List.getElem_mem h1)]; omega
  have e1 : T.getD p.toNat [] = T[p.toNat] := by rw [List.getD_eq_getElem?_getD, List.getElem?_eq_getElem h1]; rfl
  have e2 : T[p.toNat][q.toNat]? = some (at2 T p.toNat q.toNat) := by
    unfold at2
    rw [e1, List.getD_eq_getElem?_getD, List.getElem?_eq_getElem h2]; rfl
  refine ⟨_, List.getElem?_eq_getElem h1, e2, atI_nat' hp (by rw [List.getElem?_map, List.getElem?_eq_getElem h1]; rfl), atI_nat' hq (by rw [List.getElem?_map, e2]; rfl), ixN_nat hq ?_, e1⟩
  rw [List.length_map, s.cols _ (List.getElem_mem h1)]; exact hq1
end L3
set_option Elab.async false
set_option linter.all false
set_option maxRecDepth 100000
set_option maxHeartbeats 4000000
namespace L3
open PySem PySem.Spec PyProof.Rows L2
abbrev Trip := Int × Int × Int
def tripD (t : Trip) : D := .tup [.int t.1, .int t.2.1, .int t.2.2]
/-- within the table -/
def In2 (n : Int) (t : Trip) : Prop := 0 ≤ t.1 ∧ t.1 < n ∧ 0 ≤ t.2.1 ∧ t.2.1 < n
end L3
set_option Elab.async false
set_option linter.all false
set_option maxRecDepth 100000
set_option maxHeartbeats 4000000
namespace L3
def eLe : Ed → Ed → Prop
  | _, none => True
  | some x, some y => x ≤ y
  | none, some _ => False
def eAdd : Ed → Ed → Ed
  | some x, some y => some (x + y)
  | _, _ => none
def eMin : Ed → Ed → Ed
  | none, b => b
  | a, none => a
  | some x, some y => some (if y < x then y else x)
section
variable {a b c d : Ed}
theorem eLe.rfl' : eLe a a := by cases a <;> simp [eLe]
theorem eLe_none : eLe a none := by cases a <;> simp [eLe]
theorem eLe_trans (h : eLe a b) (h2 : eLe b c) : eLe a c := by
  cases a <;> cases b <;> cases c <;> simp [eLe] at * <;> omega
theorem eLe_anti (h : eLe a b) (h2 : eLe b a) : a = b := by
  cases a <;> cases b <;> simp [eLe] at * <;> omega
theorem eMin_l : eLe (eMin a b) a := by
  cases a <;> cases b <;> simp [eLe, eMin] <;> split <;> omega
theorem eMin_r : eLe (eMin a b) b := by
  cases a <;> cases b <;> simp [eLe, eMin] <;> split <;> omega
theorem le_eMin (h : eLe c a) (h2 : eLe c b) : eLe c (eMin a b) := by
  cases a <;> cases b <;> cases c <;> simp [eLe, eMin] at * <;> (try split) <;> omega
theorem eMin_or : eMin a b = a ∨ eMin a b = b := by
  cases a with
  | none => exact .inr rfl
  | some x =>
    cases b with
    | none => exact .inl rfl
    | some y =>
      by_cases h : y < x
      · exact .inr (by simp only [eMin, if_pos h])
      · exact .inl (by simp only [eMin, if_neg h])
theorem eAdd_mono (h : eLe a b) (h2 : eLe c d) : eLe (eAdd a c) (eAdd b d) := by
  cases a <;> cases b <;> cases c <;> cases d <;> simp [eLe, eAdd] at * <;> omega
theorem eAdd_assoc : eAdd (eAdd a b) c = eAdd a (eAdd b c) := by
  cases a <;> cases b <;> cases c <;> simp [eAdd] <;> omega
theorem eAdd_0 : eAdd a (some 0) = a := by cases a <;> simp [eAdd]
theorem eAdd_0l : eAdd (some 0) a = a := by cases a <;> simp [eAdd]
theorem eMin_id (h : eLe a b) : eMin a b = a := by
  cases a <;> cases b <;> simp [eLe, eMin] at * <;> omega
theorem le_add_min (h1 : eLe a (eAdd b d)) (h2 : eLe a (eAdd c d)) : eLe a (eAdd (eMin b c) d) := by
  rcases eMin_or (a := b) (b := c) with e | e <;> rw [e] <;> assumption
theorem le_add_minr (h1 : eLe a (eAdd d b)) (h2 : eLe a (eAdd d c)) : eLe a (eAdd d (eMin b c)) := by
  rcases eMin_or (a := b) (b := c) with e | e <;> rw [e] <;> assumption
end
abbrev Fn := Nat → Nat → Ed
def Stable (n : Nat) (F : Fn) (s : Nat → Ed) : Prop := ∀ q, q < n → ∀ r, r < n → eLe (s r) (eAdd (s q) (F q r))
/-- S is T closed -/
structure IsCl (n : Nat) (T S : Fn) : Prop where
  diag : ∀ p, p < n → S p p = some 0
  tri : ∀ p q m, p < n → q < n → m < n → eLe (S p q) (eAdd (S p m) (S m q))
  le : ∀ p q, p < n → q < n → eLe (S p q) (T p q)
  st : ∀ s, Stable n T s → Stable n S s
/-- sums fall for ever -/
def Bad (n : Nat) (T : Fn) : Prop := ∃ m, m < n ∧ ∀ s, Stable n T s → s m = none
theorem IsCl.row {n m : Nat} {T S : Fn} (c : IsCl n T S) (hm : m < n) : Stable n T (S m) := fun q hq r hr =>
  eLe_trans (c.tri m r q hm hr hq) (eAdd_mono eLe.rfl' (c.le q r hq hr))
theorem IsCl.least {n : Nat} {T S : Fn} (c : IsCl n T S) {s : Nat → Ed} (h : Stable n T s) {p r : Nat} (hp : p < n) (hr : r < n) (h0 : eLe (s p) (some 0)) : eLe (s r) (S p r) := by
  have := c.st s h p hp r hr
  refine eLe_trans this ?_
  have := eAdd_mono (c := S p r) (d := S p r) h0 eLe.rfl'
  rwa [eAdd_0l] at this
theorem IsCl.uniq {n : Nat} {T S S' : Fn} (c : IsCl n T S) (c' : IsCl n T S') {p q : Nat} (hp : p < n) (hq : q < n) : S p q = S' p q := by
  refine eLe_anti (c'.least (c.row hp) hp hq ?_) (c.least (c'.row hp) hp hq ?_)
  · rw [c.diag p hp]; exact eLe.rfl'
  · rw [c'.diag p hp]; exact eLe.rfl'
theorem IsCl.good {n : Nat} {T S : Fn} (c : IsCl n T S) : ¬ Bad n T := by
  rintro ⟨m, hm, h⟩
  have := h _ (c.row hm)
  rw [c.diag m hm] at this
  cases this
def Neg (n : Nat) (f : Fn) : Prop := ∃ p, p < n ∧ ∃ x, f p p = some x ∧ x < 0
/-- what holds at all times: nothing is lost, nothing grows -/
structure Run (n : Nat) (T f : Fn) : Prop where
  st : ∀ s, Stable n T s → Stable n f s
  le : ∀ p q, p < n → q < n → eLe (f p q) (T p q)
  dg : ∀ p, p < n → eLe (f p p) (some 0)
/-- ahead of round m -/
structure Cm (n m B : Nat) (F : Fn) : Prop where
  diag : ∀ p, p < n → F p p = some 0
  tri : ∀ p q k, p < n → q < n → k < m → eLe (F p q) (eAdd (F p k) (F k q))
  bd : ∀ p q, p < n → q < n → EdB (2 ^ m * B) (F p q)
def rnd (F : Fn) (m : Nat) : Fn := fun p q => eMin (F p q) (eAdd (F p m) (F m q))
/-- in round m, rows ahead of i done, in row i columns ahead of j -/
def Mid (n m : Nat) (F f : Fn) (i j : Nat) : Prop := ∀ p q, p < n → q < n → f p q = if p < i ∨ (p = i ∧ q < j) then rnd F m p q else F p q
def updF (f : Fn) (i j : Nat) (e : Ed) : Fn := fun p q => if p = i ∧ q = j then e else f p q
def RunM (n m B : Nat) (T f : Fn) (i j : Nat) : Prop := Run n T f ∧ (Neg n f ∨ ∃ F, Cm n m B F ∧ Mid n m F f i j)
theorem rnd_l {n m B : Nat} {F : Fn} (c : Cm n m B F) (hm : m < n) {p : Nat} : rnd F m p m = F p m := by
  unfold rnd
  rw [c.diag m hm, eAdd_0]
  exact eMin_id eLe.rfl'
theorem rnd_r {n m B : Nat} {F : Fn} (c : Cm n m B F) (hm : m < n) {q : Nat} : rnd F m m q = F m q := by
  unfold rnd
  rw [c.diag m hm, eAdd_0l]
  exact eMin_id eLe.rfl'
theorem Run.upd {n m : Nat} {T f : Fn} (r : Run n T f) {i j : Nat} (hi : i < n) (hj : j < n) (hm : m < n) : Run n T (updF f i j (eMin (f i j) (eAdd (f i m) (f m j)))) := by
  refine ⟨fun s hs q hq t ht => ?_, fun p q hp hq => ?_, fun p hp => ?_⟩
  · unfold updF
    split
    · rename_i h
      obtain ⟨rfl, rfl⟩ := h
      refine le_add_minr (r.st s hs q hq t ht) ?_
      rw [← eAdd_assoc]
      exact eLe_trans (r.st s hs m hm t ht) (eAdd_mono (r.st s hs q hq m hm) eLe.rfl')
    · exact r.st s hs q hq t ht
  · unfold updF
    split
    · rename_i h
      obtain ⟨rfl, rfl⟩ := h
      exact eLe_trans eMin_l (r.le p q hp hq)
    · exact r.le p q hp hq
  · unfold updF
    split
    · rename_i h
      obtain ⟨rfl, e⟩ := h
      subst e
      exact eLe_trans eMin_l (r.dg p hp)
    · exact r.dg p hp
theorem Neg.upd {n : Nat} {f : Fn} {i j : Nat} {e : Ed} (h : Neg n f) (he : eLe e (f i j)) : Neg n (updF f i j e) := by
  obtain ⟨p, hp, x, hx, h0⟩ := h
  by_cases hij : p = i ∧ p = j
  · obtain ⟨h1, h2⟩ := hij
    subst h1
    subst h2
    rw [hx] at he
    cases e with
    | none => exact he.elim
    | some y => exact ⟨p, hp, y, by simp [updF], by simp [eLe] at he; omega⟩
  · exact ⟨p, hp, x, by unfold updF; rw [if_neg hij]; exact hx, h0⟩
theorem RunM.row {n m B : Nat} {T f : Fn} {i : Nat} (r : RunM n m B T f i n) : RunM n m B T f (i + 1) 0 := by
  refine ⟨r.1, ?_⟩
  rcases r.2 with h | ⟨F, c, h⟩
  · exact .inl h
  · refine .inr ⟨F, c, fun p q hp hq => ?_⟩
    rw [h p q hp hq]
    have : (p < i ∨ p = i ∧ q < n) ↔ (p < i + 1 ∨ p = i + 1 ∧ q < 0) := by omega
    simp only [this]
theorem Cm.next {n m B : Nat} {F f : Fn} (c : Cm n m B F) (hm : m < n) (he : ∀ p q, p < n → q < n → f p q = rnd F m p q) (hd : ∀ p, p < n → f p p = some 0) : Cm n (m + 1) B f := by
  refine ⟨hd, fun p q k hp hq hk => ?_, fun p q hp hq => ?_⟩
  · by_cases e : k = m
    · subst e
      rw [he p q hp hq, he p k hp hm, he k q hm hq, rnd_l c hm, rnd_r c hm]
      exact eMin_r
    · have hk' : k < m := by omega
      have hkn : k < n := by omega
      rw [he p q hp hq, he p k hp hkn, he k q hkn hq]
      unfold rnd
      refine le_add_min (le_add_minr ?_ ?_) (le_add_minr ?_ ?_)
      · exact eLe_trans eMin_l (c.tri p q k hp hq hk')
      · refine eLe_trans eMin_r ?_
        rw [← eAdd_assoc]
        exact eAdd_mono (c.tri p m k hp hm hk') eLe.rfl'
      · refine eLe_trans eMin_r ?_
        rw [eAdd_assoc]
        exact eAdd_mono eLe.rfl' (c.tri m q k hm hq hk')
      · refine eLe_trans eMin_r ?_
        have h1 := c.tri m m k hm hm hk'
        rw [c.diag m hm] at h1
        have h2 := eAdd_mono (eAdd_mono (eLe.rfl' (a := F p m)) h1) (eLe.rfl' (a := F m q))
        rw [eAdd_0] at h2
        rw [← eAdd_assoc, eAdd_assoc (a := F p m)]
        exact h2
  · rw [he p q hp hq]
    have b1 := c.bd p q hp hq
    have b2 := c.bd p m hp hm
    have b3 := c.bd m q hm hq
    have e : 2 ^ (m + 1) * B = 2 ^ m * B + 2 ^ m * B := by rw [Nat.pow_succ, Nat.mul_assoc, Nat.mul_comm 2 B, ← Nat.mul_assoc, Nat.mul_two]
    unfold rnd
    rcases eMin_or (a := F p q) (b := eAdd (F p m) (F m q)) with z | z <;> rw [z]
    · intro x hx
      have := b1 x hx
      omega
    · intro x hx
      cases h1 : F p m with
      | none => rw [h1] at hx; cases hx
      | some y =>
        cases h2 : F m q with
        | none => rw [h1, h2] at hx; cases hx
        | some w =>
          rw [h1, h2] at hx
          have e1 := b2 y h1
          have e2 := b3 w h2
          have : x = y + w := by simpa [eAdd] using hx.symm
          omega
def RunC (n m B : Nat) (T f : Fn) : Prop := Run n T f ∧ (Neg n f ∨ Cm n m B f)
theorem RunC.start {n m B : Nat} {T f : Fn} (r : RunC n m B T f) : RunM n m B T f 0 0 := by
  refine ⟨r.1, ?_⟩
  rcases r.2 with h | h
  · exact .inl h
  · refine .inr ⟨f, h, fun p q _ _ => ?_⟩
    rw [if_neg (by omega)]
/-- the diagonal lessened: rows ahead of i done -/
def Dg (n : Nat) (T f : Fn) (i : Nat) : Prop := ∀ p q, p < n → q < n → f p q = if p = q ∧ p < i then eMin (T p q) (some 0) else T p q
theorem Dg.run {n B : Nat} {T f : Fn} (d : Dg n T f n) (hB : ∀ p q, p < n → q < n → EdB B (T p q)) (h0 : 0 < B) : RunC n 0 B T f := by
  have dg : ∀ p, p < n → eLe (f p p) (some 0) := fun p hp => by
    rw [d p p hp hp, if_pos ⟨rfl, hp⟩]; exact eMin_r
  refine ⟨⟨fun s hs q hq r hr => ?_, fun p q hp hq => ?_, dg⟩, ?_⟩
  · rw [d q r hq hr]
    split
    · rename_i h
      obtain ⟨rfl, _⟩ := h
      refine le_add_minr (hs q hq q hq) ?_
      rw [eAdd_0]; exact eLe.rfl'
    · exact hs q hq r hr
  · rw [d p q hp hq]
    split
    · exact eMin_l
    · exact eLe.rfl'
  · by_cases hn : Neg n f
    · exact .inl hn
    · refine .inr ⟨fun p hp => ?_, fun p q k _ _ hk => absurd hk (Nat.not_lt_zero _), fun p q hp hq => ?_⟩
      · have h1 := dg p hp
        cases e : f p p with
        | none => rw [e] at h1; exact h1.elim
        | some x =>
          rw [e] at h1
          have : ¬ x < 0 := fun z => hn ⟨p, hp, x, e, z⟩
          simp [eLe] at h1
          have : x = 0 := by omega
          rw [this]
      · rw [d p q hp hq]
        have hb := hB p q hp hq
        have e2 : 2 ^ 0 * B = B := by simp
        rw [e2]
        split
        · rcases eMin_or (a := T p q) (b := some 0) with z | z <;> rw [z]
          · exact hb
          · intro x hx
            cases hx
            exact h0
        · exact hb
end L3
set_option Elab.async false
set_option linter.all false
set_option maxRecDepth 100000
set_option maxHeartbeats 4000000
namespace L3
open PySem PySem.Spec PyProof.Rows L2
def SJoined (sp : Sp3) : Prop := ∀ (a b : Ed) (Q : VK3) (E : XK3), (∀ M, Q (oD (eAdd a b)) M) → sp [oD a, oD b] M0 Q E
def joinedR : XK3 → TS3 := fun E =>
  (wRet (wIf (wOr (wB (wOp (oIsN false) (wVar 0) (wC .non))) (wB (wOp (oIsN false) (wVar 1) (wC .non)))) (wC .non) (wOp oAddF (wVar 0) (wVar 1))))
theorem s_joined : SJoined (spOf 2 2 joinedR) := by
  refine fun a b Q E h => ⟨rfl, ?_⟩
  show joinedR E _ [some (oD a), some (oD b)] M0
  unfold joinedR
  cases a <;> cases b <;> simp only [st_seq, st_next, st_break, st_cont, st_set, st_ret, st_retN, st_drop, st_if, st_asg, st_par, st_for, ex_c, ex_var, ex_op, ex_un, ex_b, ex_and, ex_or, ex_not, ex_andV, ex_orV, ex_notV, ex_if, ex_chain, ex_nil, ex_cons, ex_tup, ex_lst, ex_call, ex_callP, ex_cb, ex_bm, ex_rep, ex_lc, ex_sl, ex_noPart, ex_part, ex_yes, it_items, it_rng1, it_rng2, tg_name, tg_sub, tg_tup, tg_cons, tg_nil, gs_0, gs_s, ss_0, ss_s, op_ii, op_ss, op_tt, op_mm, op_sb, op_ng, op_iNf, op_iNt, op_lle, op_ixT, op_ixR, op_ixL, op_putE, op_appE, it_tupE, it_rolE, it_refE, lstOf_l, exL, asS_some, asI_int, asB_bl, asL_some, asN_some, ite3_t, ite3_f, bl_1, bl_lenT, bl_lenR, bl_lenL, bl_lenS, bl_tuple, bl_list, bl_abs, bl_intI, bl_intB, bl_max, bl_min, bl_repr, op_eqSf, op_eqSt, op_eqIf, op_eqIt, op_eqTf, op_eqTt, op_eqRf, op_eqRt, op_eqNf, op_eqNt, eqD_int, eqD_nil, pl_int, pl_nil, pl_non, pl_rnil, pl_bl, sl_tupE, sl_rolE, keep_ref, keep_tup, keep_rol, tp_int, tp_tup, tp_rol, tp_str, tp_bl, tp_non, tp_ref, oFd, oMd, oPw, oShl, oLt, oLe, oGt, oGe, op_in, op_cp, wipe_nil, wipe_cons, mset_same, true_and, and_true, isN_int, sz_0, sz_1, sz_2, sz_3, sz_4, sz_5, sz_6, sz_7, sz_8, sz_9, sz_10, sz_11, sz_12, ex_lstF, ex_repF, ex_lgF1, ex_lgF2, ex_tupRg1, ex_tupRg2, ex_lcF, ex_frz, ex_slF, ex_slM, sl_tupF, sl_rolF, op_iiF, op_ssF, op_ttF, op_rrF, op_rrM, op_mmF, op_repF, li_rol, li_ref, bl_listF, bl_allF, bl_anyF, asT_some, asJ_some, op_eqLf, op_eqLt, op_eqBf, op_eqBt, isN_non, Bool.not_true, Bool.not_false, oD] <;> exact h M0
theorem at2_put {n p q : Nat} {T : Tab} {e : Ed} (s : Sq n T) (hp : p < n) (hq : q < n) : at2 (putT T p q e) = updF (at2 T) p q e := by
  have h1 : p < T.length := by rw [s.rows]; exact hp
  have h2 : q < (T.getD p []).length := by
    rw [List.getD_eq_getElem?_getD, List.getElem?_eq_getElem h1]
    show q < T[p].length
    rw [s.cols _ (List.getElem_mem h1)]; exact hq
  funext i j
  unfold updF at2 putT
  by_cases hi : i = p
  · subst hi
    rw [List.getD_eq_getElem?_getD (l := T.set i _), List.getElem?_set_self h1]
    show ((T.getD i []).set q e).getD j none = _
    by_cases hj : j = q
    · subst hj
      rw [if_pos ⟨rfl, rfl⟩, List.getD_eq_getElem?_getD, List.getElem?_set_self h2]; rfl
    · rw [if_neg (fun h => hj h.2), List.getD_eq_getElem?_getD, List.getElem?_set_ne (Ne.symm hj), ← List.getD_eq_getElem?_getD]
  · rw [if_neg (fun h => hi h.1), List.getD_eq_getElem?_getD (l := T.set p _), List.getElem?_set_ne (Ne.symm hi), ← List.getD_eq_getElem?_getD]
theorem ends_at' {B n p q : Nat} {T : Tab} (t : TabB B n T) : EdB B (at2 T p q) := by
  unfold at2
  by_cases hp : p < T.length
  · rw [List.getD_eq_getElem?_getD, List.getD_eq_getElem?_getD, List.getElem?_eq_getElem hp]
    by_cases hq : q < T[p].length
    · have e : (some T[p]).getD [] = T[p] := rfl
      rw [e, List.getElem?_eq_getElem hq]
      exact t.ends _ (List.getElem_mem hp) _ (List.getElem_mem hq)
    · have e : (some T[p]).getD [] = T[p] := rfl
      rw [e, List.getElem?_eq_none (by omega)]
      exact .non
  · have e : T[p]? = none := List.getElem?_eq_none (by omega)
    rw [List.getD_eq_getElem?_getD, List.getD_eq_getElem?_getD, e]
    exact .non
def Closes (n B : Nat) (T : Tab) (d : D) : Prop := (Bad n (at2 T) ∧ d = .tup []) ∨ ∃ S : Tab, TabB (2 ^ n * B) n S ∧ IsCl n (at2 T) (at2 S) ∧ d = tabD S
end L3
set_option Elab.async false
set_option linter.all false
set_option maxRecDepth 100000
set_option maxHeartbeats 4000000
namespace L3
theorem tab_ext {n : Nat} {S S' : Tab} (s : Sq n S) (s' : Sq n S') (h : ∀ p q, p < n → q < n → at2 S p q = at2 S' p q) : S = S' := by
  apply List.ext_getElem (by rw [s.rows, s'.rows])
  intro p h1 h2
  have c1 := s.cols _ (List.getElem_mem h1)
  have c2 := s'.cols _ (List.getElem_mem h2)
  apply List.ext_getElem (by rw [c1, c2])
  intro q h3 h4
  have := h p q (by rw [← s.rows]; exact h1) (by rw [← c1]; exact h3)
  simpa [at2, h1, h2, h3, h4] using this
theorem Closes.uniq {n B B' : Nat} {T : Tab} {d d' : D} (c : Closes n B T d) (c' : Closes n B' T d') : d = d' := by
  rcases c with ⟨b, rfl⟩ | ⟨S, tb, cl, rfl⟩
  · rcases c' with ⟨_, rfl⟩ | ⟨S', _, cl', _⟩
    · rfl
    · exact absurd b cl'.good
  · rcases c' with ⟨b, _⟩ | ⟨S', tb', cl', rfl⟩
    · exact absurd b cl.good
    · rw [tab_ext tb.sq tb'.sq fun p q hp hq => cl.uniq cl' hp hq]
abbrev Edge := Nat × Nat × Int
def at1 (l : List Ed) (i : Nat) : Ed := l.getD i none
def StE (es : List Edge) (s : Nat → Ed) : Prop := ∀ e ∈ es, eLe (s e.2.1) (eAdd (s e.1) (some e.2.2))
/-- es say what T says -/
structure Es (n : Nat) (T : Fn) (es : List Edge) : Prop where
  st : ∀ s, Stable n T s ↔ StE es s
  rg : ∀ e ∈ es, e.1 < n ∧ e.2.1 < n
def loos1 (l : List Ed) (e : Edge) : List Ed := l.set e.2.1 (eMin (at1 l e.2.1) (eAdd (at1 l e.1) (some e.2.2)))
def loosL (l : List Ed) (es : List Edge) : List Ed := es.foldl loos1 l
theorem at1_set {l : List Ed} {r i : Nat} {e : Ed} (h : r < l.length) : at1 (l.set r e) i = if i = r then e else at1 l i := by
  unfold at1
  by_cases hi : i = r
  · subst hi
    rw [if_pos rfl, List.getD_eq_getElem?_getD, List.getElem?_set_self h]; rfl
  · rw [if_neg hi, List.getD_eq_getElem?_getD, List.getElem?_set_ne (Ne.symm hi), ← List.getD_eq_getElem?_getD]
theorem loos1_len {l : List Ed} {e : Edge} : (loos1 l e).length = l.length := by simp [loos1]
theorem loosL_len : ∀ {es : List Edge} {l : List Ed}, (loosL l es).length = l.length
  | [], _ => rfl
  | e :: es, l => (loosL_len (es := es) (l := loos1 l e)).trans loos1_len
theorem loos1_le {l : List Ed} {e : Edge} (i : Nat) : eLe (at1 (loos1 l e) i) (at1 l i) := by
  unfold loos1
  by_cases h : e.2.1 < l.length
  · rw [at1_set h]
    split
    · rename_i z; rw [z]; exact eMin_l
    · exact eLe.rfl'
  · rw [List.set_eq_of_length_le (by omega)]; exact eLe.rfl'
theorem loosL_le : ∀ {es : List Edge} {l : List Ed} (i : Nat), eLe (at1 (loosL l es) i) (at1 l i)
  | [], _, _ => eLe.rfl'
  | e :: es, l, i => eLe_trans (loosL_le (es := es) (l := loos1 l e) i) (loos1_le i)
theorem loos1_ge {l : List Ed} {e : Edge} {s : Nat → Ed} (h : ∀ i, i < l.length → eLe (s i) (at1 l i)) (h1 : e.1 < l.length) (he : eLe (s e.2.1) (eAdd (s e.1) (some e.2.2))) : ∀ i, i < l.length → eLe (s i) (at1 (loos1 l e) i) := by
  intro i hi
  unfold loos1
  by_cases hr : e.2.1 < l.length
  · rw [at1_set hr]
    split
    · rename_i z
      subst z
      exact le_eMin (h _ hi) (eLe_trans he (eAdd_mono (h _ h1) eLe.rfl'))
    · exact h i hi
  · rw [List.set_eq_of_length_le (by omega)]; exact h i hi
theorem loosL_ge : ∀ {es : List Edge} {l : List Ed} {s : Nat → Ed}, (∀ i, i < l.length → eLe (s i) (at1 l i)) → (∀ e ∈ es, e.1 < l.length) → StE es s → ∀ i, i < l.length → eLe (s i) (at1 (loosL l es) i)
  | [], _, _, h, _, _ => h
  | e :: es, l, s, h, h1, st => by
    have := loosL_ge (es := es) (l := loos1 l e) (s := s) (by rw [loos1_len]; exact loos1_ge h (h1 e (by simp)) (st e (by simp))) (fun x hx => by rw [loos1_len]; exact h1 x (by simp [hx])) fun x hx => st x (by simp [hx])
    rw [loos1_len] at this
    exact this
theorem loos_hit {l : List Ed} {e : Edge} (h : e.2.1 < l.length) : eLe (at1 (loos1 l e) e.2.1) (eAdd (at1 l e.1) (some e.2.2)) := by
  unfold loos1
  rw [at1_set h, if_pos rfl]
  exact eMin_r
/-- a tight edge from a place that is right makes its end right -/
theorem loos_tight {l : List Ed} {es : List Edge} {s : Nat → Ed} (h : ∀ i, i < l.length → eLe (s i) (at1 l i)) (h1 : ∀ e ∈ es, e.1 < l.length ∧ e.2.1 < l.length) (st : StE es s) {e : Edge} (he : e ∈ es) (hq : at1 l e.1 = s e.1) (ht : s e.2.1 = eAdd (s e.1) (some e.2.2)) : at1 (loosL l es) e.2.1 = s e.2.1 := by
  refine eLe_anti ?_ (loosL_ge h (fun x hx => (h1 x hx).1) st _ (h1 e he).2)
  obtain ⟨a, b, rfl⟩ := List.append_of_mem he
  have e1 : loosL l (a ++ e :: b) = loosL (loos1 (loosL l a) e) b := by simp [loosL, List.foldl_append]
  rw [e1, ht]
  refine eLe_trans (loosL_le _) (eLe_trans (loos_hit (by rw [loosL_len]; exact (h1 e he).2)) (eAdd_mono ?_ eLe.rfl'))
  rw [← hq]
  exact loosL_le _
/-- how many are wrong -/
def bads (P : Nat → Bool) : Nat → Nat
  | 0 => 0
  | n + 1 => bads P n + if P n then 0 else 1
theorem bads_mono {P R : Nat → Bool} : ∀ n, (∀ i, i < n → P i = true → R i = true) → bads R n ≤ bads P n
  | 0, _ => Nat.le_refl _
  | n + 1, h => by
    have := bads_mono n fun i hi => h i (by omega)
    have hn := h n (Nat.lt_succ_self _)
    unfold bads
    cases hp : P n <;> cases hr : R n <;> simp_all <;> omega
theorem bads_lt {P R : Nat → Bool} : ∀ n, (∀ i, i < n → P i = true → R i = true) → (∃ i, i < n ∧ P i = false ∧ R i = true) → bads R n < bads P n
  | 0, _, ⟨i, hi, _⟩ => absurd hi (Nat.not_lt_zero _)
  | n + 1, h, ⟨i, hi, h1, h2⟩ => by
    unfold bads
    by_cases e : i = n
    · subst e
      have := bads_mono i fun j hj => h j (by omega)
      rw [h1, h2]
      simp; omega
    · have := bads_lt n (fun j hj => h j (by omega)) ⟨i, by omega, h1, h2⟩
      have hn := h n (Nat.lt_succ_self _)
      cases hp : P n <;> cases hr : R n <;> simp_all <;> omega
theorem bads_0 {P : Nat → Bool} : ∀ {n}, bads P n = 0 → ∀ i, i < n → P i = true
  | 0, _, i, hi => absurd hi (Nat.not_lt_zero _)
  | n + 1, h, i, hi => by
    unfold bads at h
    by_cases e : i = n
    · subst e
      cases hp : P i with
      | true => rfl
      | false => rw [hp] at h; simp at h
    · exact bads_0 (n := n) (by omega) i (by omega)
theorem bads_le {P : Nat → Bool} : ∀ n, bads P n ≤ n
  | 0 => Nat.le_refl _
  | n + 1 => by
    have := bads_le (P := P) n
    unfold bads
    split <;> omega
theorem bads_some {P : Nat → Bool} : ∀ n, ∀ i, i < n → P i = true → bads P n < n
  | 0, i, hi, _ => absurd hi (Nat.not_lt_zero _)
  | n + 1, i, hi, h => by
    unfold bads
    by_cases e : i = n
    · subst e
      have := bads_le (P := P) i
      rw [h]; simp; omega
    · have := bads_some n i (by omega) h
      split <;> omega
instance : DecidableEq Ed := inferInstanceAs (DecidableEq (Option Int))
def bump : Ed → Ed
  | none => none
  | some x => some (x + 1)
section
variable {n p : Nat} {T S : Fn} {es : List Edge} {l : List Ed}
def okAt (S : Fn) (p : Nat) (l : List Ed) (r : Nat) : Bool := decide (at1 l r = S p r)
/-- a sum row on its way -/
structure Way (n p : Nat) (S : Fn) (l : List Ed) : Prop where
  len : l.length = n
  ge : ∀ i, i < n → eLe (S p i) (at1 l i)
  at0 : at1 l p = some 0
theorem Way.loos (c : IsCl n T S) (E : Es n T es) (hp : p < n) (w : Way n p S l) : Way n p S (loosL l es) := by
  have g := loosL_ge (es := es) (l := l) (s := S p) (by rw [w.len]; exact w.ge) (fun e he => by rw [w.len]; exact (E.rg e he).1) ((E.st _).mp (c.row hp))
  rw [w.len] at g
  refine ⟨by rw [loosL_len, w.len], g, ?_⟩
  refine eLe_anti ?_ ?_
  · rw [← w.at0]; exact loosL_le _
  · rw [← c.diag p hp]; exact g p hp
/-- as long as something is wrong, a round makes something right -/
theorem Way.less (c : IsCl n T S) (E : Es n T es) (hp : p < n) (w : Way n p S l) (h : bads (okAt S p l) n ≠ 0) : bads (okAt S p (loosL l es)) n < bads (okAt S p l) n := by
  have hl : ∀ i, i < l.length → eLe (S p i) (at1 l i) := by rw [w.len]; exact w.ge
  have hrg : ∀ e ∈ es, e.1 < l.length ∧ e.2.1 < l.length := by rw [w.len]; exact E.rg
  have st := (E.st _).mp (c.row hp)
  have w' := w.loos c E hp
  refine bads_lt n (fun i hi h1 => ?_) ?_
  · have h1' : at1 l i = S p i := of_decide_eq_true h1
    refine decide_eq_true (eLe_anti ?_ (w'.ge i hi))
    rw [← h1']; exact loosL_le _
  · -- there is a tight edge out of what is right
    have : ∃ e ∈ es, at1 l e.1 = S p e.1 ∧ at1 l e.2.1 ≠ S p e.2.1 ∧ S p e.2.1 = eAdd (S p e.1) (some e.2.2) := by
      apply Classical.byContradiction
      intro no
      have no' : ∀ e ∈ es, at1 l e.1 = S p e.1 → at1 l e.2.1 ≠ S p e.2.1 → S p e.2.1 ≠ eAdd (S p e.1) (some e.2.2) := fun e he h1 h2 h3 => no ⟨e, he, h1, h2, h3⟩
      have hs : Stable n T (fun r => if at1 l r = S p r then S p r else bump (S p r)) := by
        rw [E.st]
        intro e he
        have h0 := st e he
        have hn := no' e he
        show eLe (if at1 l e.2.1 = S p e.2.1 then S p e.2.1 else bump (S p e.2.1)) (eAdd (if at1 l e.1 = S p e.1 then S p e.1 else bump (S p e.1)) (some e.2.2))
        by_cases g1 : at1 l e.1 = S p e.1 <;> by_cases g2 : at1 l e.2.1 = S p e.2.1
        · rw [if_pos g1, if_pos g2]; exact h0
        · rw [if_pos g1, if_neg g2]
          have h2 := hn g1 g2
          cases x : S p e.2.1 <;> cases y : S p e.1 <;> rw [x, y] at h0 h2 <;> simp [eLe, eAdd, bump] at * <;> omega
        · rw [if_neg g1, if_pos g2]
          cases x : S p e.2.1 <;> cases y : S p e.1 <;> rw [x, y] at h0 <;> simp [eLe, eAdd, bump] at * <;> omega
        · rw [if_neg g1, if_neg g2]
          cases x : S p e.2.1 <;> cases y : S p e.1 <;> rw [x, y] at h0 <;> simp [eLe, eAdd, bump] at * <;> omega
      have h0 : ∃ r, r < n ∧ at1 l r ≠ S p r := by
        apply Classical.byContradiction
        intro z
        apply h
        have all : ∀ i, i < n → okAt S p l i = true := fun i hi => decide_eq_true (Classical.byContradiction fun y => z ⟨i, hi, y⟩)
        have go : ∀ k, k ≤ n → bads (okAt S p l) k = 0 := by
          intro k
          induction k with
          | zero => exact fun _ => rfl
          | succ k ih => intro hk; unfold bads; rw [ih (by omega), all k (by omega)]; rfl
        exact go n (Nat.le_refl _)
      obtain ⟨r, hr, hne⟩ := h0
      have := c.least hs hp hr (by
        show eLe (if at1 l p = S p p then S p p else bump (S p p)) (some 0)
        rw [if_pos (by rw [w.at0, c.diag p hp]), c.diag p hp]
        exact eLe.rfl')
      have this : eLe (if at1 l r = S p r then S p r else bump (S p r)) (S p r) := this
      rw [if_neg hne] at this
      have g := w.ge r hr
      cases x : S p r with
      | none =>
        rw [x] at g hne
        cases y : at1 l r with
        | none => exact hne y
        | some z => rw [y] at g; exact g
      | some z => rw [x] at this; simp [eLe, bump] at this; omega
    obtain ⟨e, he, h1, h2, h3⟩ := this
    exact ⟨e.2.1, (E.rg e he).2, decide_eq_false h2, decide_eq_true (loos_tight hl hrg st he h1 h3)⟩
def loosN (es : List Edge) (l : List Ed) : Nat → List Ed
  | 0 => l
  | k + 1 => loosL (loosN es l k) es
theorem Way.many (c : IsCl n T S) (E : Es n T es) (hp : p < n) (w : Way n p S l) : ∀ k, Way n p S (loosN es l k) ∧ (bads (okAt S p (loosN es l k)) n = 0 ∨ bads (okAt S p (loosN es l k)) n + k < n)
  | 0 => ⟨w, .inr (bads_some n p hp (decide_eq_true (by show at1 l p = _; rw [w.at0, c.diag p hp])))⟩
  | k + 1 => by
    obtain ⟨w', h⟩ := Way.many c E hp w k
    refine ⟨w'.loos c E hp, ?_⟩
    by_cases z : bads (okAt S p (loosN es l k)) n = 0
    · left
      have := bads_mono (P := okAt S p (loosN es l k)) (R := okAt S p (loosN es l (k + 1))) n fun i hi _ => by
        have e := bads_0 z i hi
        have e' : at1 (loosN es l k) i = S p i := of_decide_eq_true e
        refine decide_eq_true (eLe_anti ?_ ((w'.loos c E hp).ge i hi))
        rw [← e']; exact loosL_le _
      omega
    · have := w'.less c E hp z
      show bads (okAt S p (loosL (loosN es l k) es)) n = 0 ∨ _
      right
      show bads (okAt S p (loosL (loosN es l k) es)) n + (k + 1) < n
      rcases h with h | h
      · exact absurd h z
      · omega
theorem Way.done (c : IsCl n T S) (E : Es n T es) (hp : p < n) (w : Way n p S l) {k : Nat} (hk : n ≤ k + 1) : ∀ i, i < n → at1 (loosN es l k) i = S p i := by
  obtain ⟨_, h⟩ := Way.many c E hp w k
  have z : bads (okAt S p (loosN es l k)) n = 0 := by omega
  intro i hi
  exact of_decide_eq_true (bads_0 z i hi)
end
end L3
set_option Elab.async false
set_option linter.all false
set_option maxRecDepth 100000
set_option maxHeartbeats 4000000
namespace L3
open PySem PySem.Spec PyProof.Rows L2
def edgeOf (t : Trip) : Edge := (t.1.toNat, t.2.1.toNat, t.2.2)
theorem pl_row {l : List Ed} : Pl (.rol (l.map oD)) := by
  refine ⟨?_, ?_⟩
  · show plains (l.map oD) = true
    induction l with
    | nil => rfl
    | cons a r ih => cases a <;> simp [plains, oD, plain, ih]
  · show deeps (l.map oD) + 1 ≤ 64
    have : deeps (l.map oD) = 0 := by
      induction l with
      | nil => rfl
      | cons a r ih => cases a <;> simp [deeps, oD, deep, ih]
    omega
def SLeast (sp : Sp3) : Prop := ∀ (n : Int) (B : Nat) (T : Tab) (ts : List Trip) (Q : VK3) (E : XK3), 0 ≤ n → n ≤ 1000 → 0 < B → TabB B n.toNat T → (∀ t ∈ ts, In2 n t) → Es n.toNat (at2 T) (ts.map edgeOf) →
  (∀ d M, Closes n.toNat B T d → Q d M) → sp [.int n, .rol (ts.map tripD)] M0 Q E
def row0 (n i : Nat) : List Ed := List.replicate i none ++ [some 0] ++ List.replicate (n - 1 - i) none
theorem row0_len {n i : Nat} (h : i < n) : (row0 n i).length = n := by simp [row0]; omega
theorem row0_at {n i j : Nat} (h : i < n) (hj : j < n) : at1 (row0 n i) j = if j = i then some 0 else none := by
  unfold at1 row0
  rw [List.getD_eq_getElem?_getD]
  by_cases h1 : j < i
  · rw [List.append_assoc, List.getElem?_append_left (by simpa using h1), if_neg (by omega)]
    simp [List.getElem?_replicate, h1]
  · by_cases h2 : j = i
    · subst h2; simp
    · rw [if_neg h2, List.getElem?_append_right (by simp; omega)]
      simp only [List.getElem?_replicate]
      split <;> rfl
theorem way0 {n i : Nat} {T S : Fn} (c : IsCl n T S) (h : i < n) : Way n i S (row0 n i) := by
  refine ⟨row0_len h, fun j hj => ?_, ?_⟩
  · rw [row0_at h hj]
    split
    · rename_i z; rw [z, c.diag i h]; exact eLe.rfl'
    · exact eLe_none
  · rw [row0_at h h, if_pos rfl]
end L3
set_option Elab.async false
set_option linter.all false
set_option maxRecDepth 100000
set_option maxHeartbeats 4000000
namespace L3
open PySem PySem.Spec PyProof.Rows L2
def stepM (T : Tab) (t : Trip) : Tab := putT T t.1.toNat t.2.1.toNat (eMin (at2 T t.1.toNat t.2.1.toNat) (some t.2.2))
def mtab (n : Nat) (ts : List Trip) : Tab := ts.foldl stepM (emptyT n)
theorem Sq.foldM {n : Nat} : ∀ {ts : List Trip} {T : Tab}, Sq n T → Sq n (ts.foldl stepM T)
  | [], _, s => s
  | _ :: ts, _, s => Sq.foldM (ts := ts) s.put
theorem EdB.min {B : Nat} {a b : Ed} (h : EdB B a) (h2 : EdB B b) : EdB B (eMin a b) := by
  rcases eMin_or (a := a) (b := b) with e | e <;> rw [e] <;> assumption
theorem at2_b {B n : Nat} {T : Tab} (s : Sq n T) (e : Ends B T) {p q : Nat} : EdB B (at2 T p q) := ends_at' (n := n) ⟨s.rows, s.cols, e⟩
theorem Ends.foldM {B n : Nat} : ∀ {ts : List Trip} {T : Tab}, Sq n T → Ends B T → (∀ t ∈ ts, t.2.2.natAbs < B) → Ends B (ts.foldl stepM T)
  | [], _, _, s, _ => s
  | t :: ts, _, q, s, h => Ends.foldM (ts := ts) q.put (s.put ((at2_b q s).min fun i hi => by cases hi; exact h t (by simp))) fun x hx => h x (by simp [hx])
theorem mtab_b {B n : Nat} {ts : List Trip} (h : ∀ t ∈ ts, t.2.2.natAbs < B) : TabB B n (mtab n ts) := TabB.of (Sq.foldM .empty) (Ends.foldM .empty .empty h)
theorem es_step {n p q : Nat} {F : Fn} {c : Int} {s : Nat → Ed} (hp : p < n) (hq : q < n) : Stable n (updF F p q (eMin (F p q) (some c))) s ↔ Stable n F s ∧ eLe (s q) (eAdd (s p) (some c)) := by
  constructor
  · intro h
    refine ⟨fun i hi j hj => ?_, ?_⟩
    · have := h i hi j hj
      unfold updF at this
      by_cases e : i = p ∧ j = q
      · rw [if_pos e] at this
        obtain ⟨rfl, rfl⟩ := e
        exact eLe_trans this (eAdd_mono eLe.rfl' eMin_l)
      · rw [if_neg e] at this; exact this
    · have := h p hp q hq
      unfold updF at this
      rw [if_pos ⟨rfl, rfl⟩] at this
      exact eLe_trans this (eAdd_mono eLe.rfl' eMin_r)
  · rintro ⟨h, h2⟩ i hi j hj
    unfold updF
    by_cases e : i = p ∧ j = q
    · rw [if_pos e]
      obtain ⟨rfl, rfl⟩ := e
      exact le_add_minr (h i hi j hj) h2
    · rw [if_neg e]; exact h i hi j hj
theorem es_fold {n : Nat} (hn : 0 ≤ (n : Int)) : ∀ (ts : List Trip) (T : Tab), Sq n T → (∀ t ∈ ts, In2 n t) → ∀ s, Stable n (at2 (ts.foldl stepM T)) s ↔ Stable n (at2 T) s ∧ StE (ts.map edgeOf) s
  | [], T, _, _, s => ⟨fun h => ⟨h, fun e he => nomatch he⟩, fun h => h.1⟩
  | t :: ts, T, sq, h, s => by
    obtain ⟨b1, b2, b3, b4⟩ := h t (by simp)
    show Stable n (at2 (ts.foldl stepM (stepM T t))) s ↔ _
    rw [es_fold hn ts (stepM T t) sq.put (fun x hx => h x (by simp [hx])) s]
    unfold stepM
    rw [at2_put sq (by omega) (by omega), es_step (by omega) (by omega)]
    constructor
    · rintro ⟨⟨h1, h2⟩, h3⟩
      refine ⟨h1, fun e he => ?_⟩
      rcases List.mem_cons.mp he with rfl | he
      · exact h2
      · exact h3 e he
    · rintro ⟨h1, h2⟩
      exact ⟨⟨h1, h2 (edgeOf t) (by simp)⟩, fun e he => h2 e (by simp [he])⟩
theorem at2_empty' {n p q : Nat} : at2 (emptyT n) p q = none := by
  unfold at2 emptyT
  by_cases hp : p < n
  · rw [List.getD_eq_getElem?_getD, List.getD_eq_getElem?_getD, List.getElem?_replicate, if_pos hp]
    by_cases hq : q < n
    · simp [List.getElem?_replicate, hq]
    · simp [List.getElem?_replicate, hq]
  · simp [List.getD_eq_getElem?_getD, List.getElem?_replicate, hp]
theorem es_mtab {n : Nat} {ts : List Trip} (h : ∀ t ∈ ts, In2 n t) : Es n (at2 (mtab n ts)) (ts.map edgeOf) := by
  refine ⟨fun s => ?_, fun e he => ?_⟩
  · rw [show mtab n ts = ts.foldl stepM (emptyT n) from rfl, es_fold (by omega) ts _ .empty h s]
    refine ⟨fun h => h.2, fun h => ⟨fun q _ r _ => ?_, h⟩⟩
    rw [at2_empty']
    cases s q <;> exact eLe_none
  · obtain ⟨t, ht, rfl⟩ := List.mem_map.mp he
    obtain ⟨b1, b2, b3, b4⟩ := h t ht
    show t.1.toNat < n ∧ t.2.1.toNat < n
    omega
/-- a tuple or a list that nobody writes -/
def IsSeq (d : D) (ds : List D) : Prop := d = .tup ds ∨ d = .rol ds
theorem IsSeq.keep {d : D} {ds : List D} (h : IsSeq d ds) {M : Mp} {es : List D} : keepG M d es = fun _ => True := by rcases h with rfl | rfl <;> rfl
theorem IsSeq.len {d : D} {ds : List D} (h : IsSeq d ds) {M : Mp} {Q : VK3} : bLen [d] M Q = Q (.int ds.length) M := by rcases h with rfl | rfl <;> rfl
end L3
set_option Elab.async false
set_option linter.all false
set_option maxRecDepth 100000
set_option maxHeartbeats 4000000
namespace L3
open PySem PySem.Spec PyProof.Rows L2
theorem it_tabE {M : Mp} {T : Tab} : items M (tabD T) = some (T.map rowD) := rfl
theorem it_rowE {M : Mp} {r : List Ed} : items M (rowD r) = some (r.map oD) := rfl
abbrev Part := Tab × List Nat
def Pull (x : Part) (s : Nat → Ed) : Prop := Stable x.1.length (at2 x.1) fun i => s (x.2.getD i 0)
/-- what is put together of the parts -/
structure PutIs (B many : Nat) (xs : List Part) (X : Tab) : Prop where
  tb : TabB B many X
  st : ∀ s, Stable many (at2 X) s ↔ ∀ x ∈ xs, Pull x s
/-- so far: the parts ahead, of this one the rows ahead of p, of row p the ends ahead of q -/
structure Puts (B many : Nat) (xs : List Part) (x : Part) (p q : Nat) (X : Tab) : Prop where
  sq : Sq many X
  en : Ends B X
  st : ∀ s, Stable many (at2 X) s ↔ (∀ y ∈ xs, Pull y s) ∧ ∀ i j, i < x.1.length → j < x.1.length → (i < p ∨ (i = p ∧ j < q)) → eLe (s (x.2.getD j 0)) (eAdd (s (x.2.getD i 0)) (at2 x.1 i j))
theorem Puts.row {B many p : Nat} {xs : List Part} {x : Part} {X : Tab} (h : Puts B many xs x p x.1.length X) : Puts B many xs x (p + 1) 0 X :=
  ⟨h.sq, h.en, fun s => by
    rw [h.st]
    have e : ∀ i j, j < x.1.length → ((i < p ∨ (i = p ∧ j < x.1.length)) ↔ (i < p + 1 ∨ (i = p + 1 ∧ j < 0))) := fun i j hj => by omega
    constructor
    · rintro ⟨a, b⟩; exact ⟨a, fun i j hi hj z => b i j hi hj ((e i j hj).mpr z)⟩
    · rintro ⟨a, b⟩; exact ⟨a, fun i j hi hj z => b i j hi hj ((e i j hj).mp z)⟩⟩
/-- over what enumerate tells of data that stand still -/
theorem for_en {G : Mp → Prop} {g : TG3} {tb : TS3} {E : Ends3} {ds : List D} (Pv : Nat → St3 → Mp → Prop) (hG : ∀ M, G M)
    (step : ∀ (i : Nat) (d : D) τ M, ds[i]? = some d → Pv i τ M → ∀ X : St3 → Mp → Prop, (∀ τ' M', Pv (i + 1) τ' M' → X τ' M') → g (.tup [.int (i : Nat), d]) τ M fun τ2 M2 => tb { E with nx := X, ct := X, bk := E.nx } τ2 M2)
    (fin : ∀ τ M, Pv ds.length τ M → E.nx τ M) {τ : St3} {M : Mp} (h0 : Pv 0 τ M) : forW G g tb E (enD ds) τ M :=
  for_pv Pv (fun i d τ M hd p X hX => by
    obtain ⟨x, hx, rfl⟩ := enD_get hd
    exact ⟨hG M, step i x τ M hx p X hX⟩) (fun τ M p => ⟨hG M, fin τ M (by rw [enD_len] at p; exact p)⟩) h0
end L3
set_option Elab.async false
set_option linter.all false
set_option maxRecDepth 100000
set_option maxHeartbeats 4000000
namespace L3
open PySem PySem.Spec PyProof.Rows L2
/-- trips of places, ends within a bound -/
def TripsOk (many B : Nat) (ts : List Trip) : Prop := ∀ t ∈ ts, In2 many t ∧ t.2.2.natAbs < B
/-- edges of the rows ahead of p, of row p those ahead of q -/
def Edg (many B : Nat) (x : Part) (p q : Nat) (ts : List Trip) : Prop := TripsOk many B ts ∧ ts.length ≤ 100 * p + q ∧
  ∀ s, StE (ts.map edgeOf) s ↔ ∀ i j, i < x.1.length → j < x.1.length → (i < p ∨ (i = p ∧ j < q)) → eLe (s (x.2.getD j 0)) (eAdd (s (x.2.getD i 0)) (at2 x.1 i j))
theorem StE.app {es fs : List Edge} {s : Nat → Ed} : StE (es ++ fs) s ↔ StE es s ∧ StE fs s :=
  ⟨fun h => ⟨fun e he => h e (by simp [he]), fun e he => h e (by simp [he])⟩, fun h e he => (List.mem_append.mp he).elim (h.1 e) (h.2 e)⟩
theorem Edg.skip {many B p q : Nat} {x : Part} {ts : List Trip} (h : Edg many B x p q ts) (hn : at2 x.1 p q = none) : Edg many B x p (q + 1) ts :=
  ⟨h.1, by have := h.2.1; omega, fun s => by
    rw [h.2.2]
    constructor
    · intro a i j hi hj z
      by_cases w : i = p ∧ j = q
      · obtain ⟨rfl, rfl⟩ := w
        rw [hn]
        cases s (x.2.getD i 0) <;> exact eLe_none
      · exact a i j hi hj (by omega)
    · exact fun a i j hi hj z => a i j hi hj (by omega)⟩
theorem Edg.row {many B p : Nat} {x : Part} {ts : List Trip} (h : Edg many B x p x.1.length ts) (hl : x.1.length ≤ 100) : Edg many B x (p + 1) 0 ts :=
  ⟨h.1, by have := h.2.1; omega, fun s => by
    rw [h.2.2]
    exact ⟨fun a i j hi hj z => a i j hi hj (by omega), fun a i j hi hj z => a i j hi hj (by omega)⟩⟩
end L3
set_option Elab.async false
set_option linter.all false
set_option maxRecDepth 100000
set_option maxHeartbeats 4000000
namespace L3
open PySem PySem.Spec PyProof.Rows L2
/-- a table's part: rows and columns at these places -/
def partT (S : Tab) (ps : List Nat) : Tab := ps.map fun p => ps.map fun q => at2 S p q
end L3
set_option Elab.async false
set_option linter.all false
set_option maxRecDepth 100000
set_option maxHeartbeats 4000000
namespace L3
open PySem PySem.Spec PyProof.Rows L2
end L3
set_option Elab.async false
set_option linter.all false
set_option maxRecDepth 100000
set_option maxHeartbeats 4000000
namespace L3
open PySem PySem.Spec PyProof.Rows L2
end L3
set_option Elab.async false
set_option linter.all false
set_option maxRecDepth 100000
set_option maxHeartbeats 4000000
namespace L3
open PySem PySem.Spec PyProof.Rows L2
end L3
set_option Elab.async false
set_option linter.all false
set_option maxRecDepth 100000
set_option maxHeartbeats 4000000
namespace L3
open PySem PySem.Spec PyProof.Rows L2
theorem tab_ne {n : Nat} {S : Tab} (sq : Sq n S) (hn : 0 < n) : (S.map rowD).isEmpty = false := by
  have := sq.rows
  cases S with
  | nil => simp at this; omega
  | cons a b => rfl
end L3
set_option Elab.async false
set_option linter.all false
set_option maxRecDepth 100000
set_option maxHeartbeats 4000000
namespace L3
open PySem PySem.Spec PyProof.Rows L2
theorem IsCl.congr {n : Nat} {T T' S : Fn} (h : ∀ s, Stable n T s ↔ Stable n T' s) (c : IsCl n T S) : IsCl n T' S :=
  ⟨c.diag, c.tri, fun p q hp hq => by
    have z := (h _).mp (c.row hp) p hp q hq
    rw [c.diag p hp, eAdd_0l] at z
    exact z, fun s hs => c.st s ((h s).mpr hs)⟩
theorem Bad.congr {n : Nat} {T T' : Fn} (h : ∀ s, Stable n T s ↔ Stable n T' s) (b : Bad n T) : Bad n T' := by
  obtain ⟨m, hm, z⟩ := b
  exact ⟨m, hm, fun s hs => z s ((h s).mpr hs)⟩
theorem Closes.congr {n B B' : Nat} {T T' : Tab} {d d' : D} (h : ∀ s, Stable n (at2 T) s ↔ Stable n (at2 T') s) (c : Closes n B T d) (c' : Closes n B' T' d') : d = d' := by
  rcases c with ⟨b, rfl⟩ | ⟨S, tb, cl, rfl⟩
  · rcases c' with ⟨_, rfl⟩ | ⟨S', _, cl', _⟩
    · rfl
    · exact absurd (b.congr h) cl'.good
  · rcases c' with ⟨b, _⟩ | ⟨S', tb', cl', rfl⟩
    · exact absurd b (cl.congr h).good
    · rw [tab_ext tb.sq tb'.sq fun p q hp hq => (cl.congr h).uniq cl' hp hq]
/-- some points of a table closed -/
def OnlyOf (n B : Nat) (X : Tab) (ps : List Nat) (d : D) : Prop := (Bad n (at2 X) ∧ d = .tup []) ∨ ∃ S : Tab, TabB (2 ^ n * B) n S ∧ IsCl n (at2 X) (at2 S) ∧ d = tabD (partT S ps)
theorem part_ext {n : Nat} {S S' : Tab} {ps : List Nat} (h : ∀ p q, p < n → q < n → at2 S p q = at2 S' p q) (hp : ∀ p ∈ ps, p < n) : partT S ps = partT S' ps := by
  unfold partT
  exact List.map_congr_left fun p h1 => List.map_congr_left fun q h2 => h p q (hp p h1) (hp q h2)
theorem OnlyOf.congr {n B B' : Nat} {X X' : Tab} {ps : List Nat} {d d' : D} (h : ∀ s, Stable n (at2 X) s ↔ Stable n (at2 X') s) (hp : ∀ p ∈ ps, p < n) (c : OnlyOf n B X ps d) (c' : OnlyOf n B' X' ps d') : d = d' := by
  rcases c with ⟨b, rfl⟩ | ⟨S, tb, cl, rfl⟩
  · rcases c' with ⟨_, rfl⟩ | ⟨S', _, cl', _⟩
    · rfl
    · exact absurd (b.congr h) cl'.good
  · rcases c' with ⟨b, _⟩ | ⟨S', tb', cl', rfl⟩
    · exact absurd b (cl.congr h).good
    · rw [part_ext (fun p q hp hq => (cl.congr h).uniq cl' hp hq) hp]
theorem partT_b {B n : Nat} {S : Tab} {ps : List Nat} (t : TabB B n S) : TabB B ps.length (partT S ps) := by
  refine ⟨by simp [partT], fun r hr => ?_, fun r hr e he => ?_⟩
  · obtain ⟨p, _, rfl⟩ := List.mem_map.mp hr; simp
  · obtain ⟨p, _, rfl⟩ := List.mem_map.mp hr
    obtain ⟨q, _, rfl⟩ := List.mem_map.mp he
    exact ends_at' t
theorem OnlyOf.tm {n B : Nat} {X : Tab} {ps : List Nat} {d : D} (c : OnlyOf n B X ps d) (hB : 2 ^ n * B ≤ 10 ^ 100) : Tm 2 (ps.length * (ps.length + 1)) d := by
  rcases c with ⟨_, rfl⟩ | ⟨S, tb, _, rfl⟩
  · exact (Tm.tup (h := 0) (n := 0) (m := 0) (ds := []) (fun d h => nomatch h) (Nat.le_refl _)).mono (by decide) (Nat.zero_le _)
  · exact Tm.tab (partT_b tb) hB
theorem OnlyOf.top {n B : Nat} {X : Tab} {ps : List Nat} {d : D} {M : Mp} (c : OnlyOf n B X ps d) : L3.top M d = d := by
  rcases c with ⟨_, rfl⟩ | ⟨S, _, _, rfl⟩ <;> rfl
/-- from closing and taking a part -/
theorem OnlyOf.of {n B : Nat} {X : Tab} {ps : List Nat} {d : D} (c : Closes n B X d) : ∃ d', OnlyOf n B X ps d' ∧ ((d = .tup [] ∧ d' = .tup []) ∨ ∃ S, d = tabD S ∧ d' = tabD (partT S ps)) := by
  rcases c with ⟨b, rfl⟩ | ⟨S, tb, cl, rfl⟩
  · exact ⟨_, .inl ⟨b, rfl⟩, .inl ⟨rfl, rfl⟩⟩
  · exact ⟨_, .inr ⟨S, tb, cl, rfl⟩, .inr ⟨S, rfl, rfl⟩⟩
theorem pl_tab {T : Tab} : Pl (tabD T) := by
  refine ⟨?_, ?_⟩
  · show plains (T.map rowD) = true
    induction T with
    | nil => rfl
    | cons r T ih =>
      have hr : plain (rowD r) = true := by
        show plains (r.map oD) = true
        induction r with
        | nil => rfl
        | cons a r ih => cases a <;> simp [plains, oD, plain, ih]
      simp [plains, hr, ih]
  · show deeps (T.map rowD) + 1 ≤ 64
    have : deeps (T.map rowD) ≤ 1 := by
      induction T with
      | nil => simp [deeps]
      | cons r T ih =>
        have hr : deep (rowD r) ≤ 1 := by
          show deeps (r.map oD) + 1 ≤ 1
          have : deeps (r.map oD) = 0 := by
            clear ih
            induction r with
            | nil => rfl
            | cons a r ih => cases a <;> simp [deeps, oD, deep, ih]
          omega
        simp only [List.map_cons, deeps]
        exact Nat.max_le.mpr ⟨hr, ih⟩
    omega
theorem pl_tabT {T : Tab} : Pl (.tup (T.map rowD)) := pl_tab
/-- a table == () -/
theorem eq_tab {n : Nat} {T : Tab} (sq : Sq n T) (hn : 0 < n) {M : Mp} {Q : VK3} : oEq false (tabD T) (.tup []) M Q = Q (.bl false) M := by
  unfold tabD
  rw [op_eqTf, tp_tup, eqD_nil, tab_ne sq hn]
  exact propext ⟨fun h => h.2.2, fun h => ⟨pl_tabT, by rw [pl_nil]; trivial, h⟩⟩
theorem ne_tab {n : Nat} {T : Tab} (sq : Sq n T) (hn : 0 < n) {M : Mp} {Q : VK3} : oEq true (tabD T) (.tup []) M Q = Q (.bl true) M := by
  unfold tabD
  rw [op_eqTt, tp_tup, eqD_nil, tab_ne sq hn]
  exact propext ⟨fun h => h.2.2, fun h => ⟨pl_tabT, by rw [pl_nil]; trivial, h⟩⟩
theorem eq_nil {M : Mp} {Q : VK3} : oEq false (.tup []) (.tup []) M Q = Q (.bl true) M := by
  rw [op_eqTf, tp_tup, eqD_nil]
  exact propext ⟨fun h => h.2.2, fun h => ⟨by rw [pl_nil]; trivial, by rw [pl_nil]; trivial, h⟩⟩
theorem ne_nil {M : Mp} {Q : VK3} : oEq true (.tup []) (.tup []) M Q = Q (.bl false) M := by
  rw [op_eqTt, tp_tup, eqD_nil]
  exact propext ⟨fun h => h.2.2, fun h => ⟨by rw [pl_nil]; trivial, by rw [pl_nil]; trivial, h⟩⟩
end L3
set_option Elab.async false
set_option linter.all false
set_option maxRecDepth 100000
set_option maxHeartbeats 4000000
namespace L3
open PySem PySem.Spec PyProof.Rows L2
/-- () or a table -/
def NilOr (d : D) : Prop := d = .tup [] ∨ ∃ n T, d = tabD T ∧ Sq n T ∧ 0 < n
end L3
set_option Elab.async false
set_option linter.all false
set_option maxRecDepth 100000
set_option maxHeartbeats 4000000
namespace L3
open PySem PySem.Spec PyProof.Rows L2
/-- a grown M: a's draws aside -/
def Gr (a : Addr) (M M' : Mp) : Prop := ∀ b o, b ≠ a → M b = some o → M' b = some o
theorem Gr.refl {a : Addr} {M : Mp} : Gr a M M := fun _ _ _ h => h
theorem Gr.trans {a : Addr} {M M1 M2 : Mp} (x : Gr a M M1) (y : Gr a M1 M2) : Gr a M M2 := fun b o h z => y b o h (x b o h z)
theorem Only.gr {a : Addr} {M M' : Mp} (x : Only a M M') : Gr a M M' := fun b o h z => (x b h).trans z
theorem Gr.put {a f : Addr} {M M' : Mp} {o : MO} (x : Gr a M M') (h : M f = none) : Gr a M (mset M' f o) := fun b u hb z => by
  rw [mset_ne (ne_m z h)]; exact x b u hb z
theorem Feed.put {a f : Addr} {M : Mp} {o : MO} (x : Feed M a) (h : f ≠ a) : Feed (mset M f o) a := by
  obtain ⟨g, m, c, e⟩ := x
  exact ⟨g, m, c, by rw [mset_ne (Ne.symm h)]; exact e⟩
theorem Feed.ne {a f : Addr} {M : Mp} (x : Feed M a) (h : M f = none) : f ≠ a := by
  obtain ⟨g, m, c, e⟩ := x
  exact fun z => by rw [z, e] at h; cases h
/-- rows of a drawn table -/
def TsOk (n : Nat) (ts : List Trip) : Prop := ∀ t ∈ ts, In2 n t ∧ t.2.2.natAbs < 100
theorem TsOk.nil {n : Nat} : TsOk n [] := fun _ h => nomatch h
theorem TsOk.app {n : Nat} {ts us : List Trip} (h : TsOk n ts) (h2 : TsOk n us) : TsOk n (ts ++ us) := fun t ht => (List.mem_append.mp ht).elim (h t) (h2 t)
theorem TsOk.rep {n k : Nat} {t : Trip} (h : In2 n t ∧ t.2.2.natAbs < 100) : TsOk n (List.replicate k t) := fun x hx => by rw [List.eq_of_mem_replicate hx]; exact h
end L3
set_option Elab.async false
set_option linter.all false
set_option maxRecDepth 100000
set_option maxHeartbeats 4000000
namespace L3
open PySem PySem.Spec PyProof.Rows L2
theorem only_sh {n B : Nat} {X : Tab} {ps : List Nat} {d : D} (c : OnlyOf n B X ps d) (hB : 2 ^ n * B ≤ 10 ^ 100) (hp : ps.length ≤ 100) : Sh d := (c.tm hB).fits (by decide) (Nat.le_trans (Nat.mul_le_mul hp (Nat.add_le_add_right hp 1)) (by decide))
theorem b7 {n B : Nat} (hn : n ≤ 12) (hB : B ≤ 10 ^ 40) : 2 ^ n * B ≤ 10 ^ 100 := Nat.le_trans (Nat.mul_le_mul (Nat.pow_le_pow_right (by decide) hn) hB) (by decide)
theorem bl_reprE {M : Mp} {d : D} {Q : VK3} (h : L3.top M d = d) (s : Sh d) : bRepr [d] M Q = Q (.str (shown d)) M := by
  rw [bl_repr, h]
  exact propext ⟨fun x => x.2, fun x => ⟨s, x⟩⟩
end L3
set_option Elab.async false
set_option linter.all false
set_option maxRecDepth 100000
set_option maxHeartbeats 4000000
namespace L3
open PySem PySem.Spec PyProof.Rows L2
/-- what a chain comes to -/
def ChainIs (B n : Nat) (xs : List Part) (d : D) : Prop := ∃ X, PutIs B n xs X ∧ Closes n B X d
/-- edges of some parts -/
structure PEdges (B n : Nat) (xs : List Part) (ts : List Trip) : Prop where
  ok : TripsOk n B ts
  st : ∀ s, StE (ts.map edgeOf) s ↔ ∀ x ∈ xs, Pull x s
theorem PEdges.app {B n : Nat} {xs ys : List Part} {ts us : List Trip} (h : PEdges B n xs ts) (h2 : PEdges B n ys us) : PEdges B n (xs ++ ys) (ts ++ us) :=
  ⟨fun t ht => (List.mem_append.mp ht).elim (h.ok t) (h2.ok t), fun s => by
    rw [List.map_append, StE.app, h.st, h2.st]
    exact ⟨fun a x hx => (List.mem_append.mp hx).elim (a.1 x) (a.2 x), fun a => ⟨fun x hx => a x (List.mem_append_left _ hx), fun x hx => a x (List.mem_append_right _ hx)⟩⟩⟩
/-- closing what edges say -/
theorem PEdges.put {B n : Nat} {xs : List Part} {ts : List Trip} (h : PEdges B n xs ts) : PutIs B n xs (mtab n ts) :=
  ⟨mtab_b fun t ht => (h.ok t ht).2, fun s => by rw [(es_mtab fun t ht => (h.ok t ht).1).st, h.st]⟩
theorem PEdges.least {B n : Nat} {xs : List Part} {ts : List Trip} (h : PEdges B n xs ts) {sp : Sp3} (k : SLeast sp) (hn : n ≤ 1000) (hB : 0 < B) {Q : VK3} {E : XK3} (q : ∀ d M, ChainIs B n xs d → Q d M) : sp [.int (n : Int), .rol (ts.map tripD)] M0 Q E := by
  refine k (n : Int) B (mtab n ts) ts Q E (by omega) (by omega) hB (by rw [Int.toNat_natCast]; exact h.put.tb) (fun t ht => (h.ok t ht).1) (by rw [Int.toNat_natCast]; exact es_mtab fun t ht => (h.ok t ht).1) fun d M hd => ?_
  rw [Int.toNat_natCast] at hd
  exact q d M ⟨_, h.put, hd⟩
theorem ChainIs.uniq {B B' n : Nat} {xs : List Part} {d d' : D} (h : ChainIs B n xs d) (h' : ChainIs B' n xs d') : d = d' := by
  obtain ⟨X, hX, c⟩ := h
  obtain ⟨X', hX', c'⟩ := h'
  exact c.congr (fun s => by rw [hX.st, hX'.st]) c'
/-- some points of a chain -/
def RowIs (B n : Nat) (xs : List Part) (ps : List Nat) (d : D) : Prop := ∃ X, PutIs B n xs X ∧ OnlyOf n B X ps d
theorem RowIs.uniq {B B' n : Nat} {xs : List Part} {ps : List Nat} {d d' : D} (hp : ∀ p ∈ ps, p < n) (h : RowIs B n xs ps d) (h' : RowIs B' n xs ps d') : d = d' := by
  obtain ⟨X, hX, c⟩ := h
  obtain ⟨X', hX', c'⟩ := h'
  exact c.congr (fun s => by rw [hX.st, hX'.st]) hp c'
theorem eqD_rnil {x : List D} : eqD (.rol x) (.rol []) = x.isEmpty := by
  cases x <;> simp only [eqD, pdOf, pdsOf, PyData.eqv, PyData.eqvAll, List.isEmpty]
theorem RowIs.sh {B n : Nat} {xs : List Part} {ps : List Nat} {d : D} (h : RowIs B n xs ps d) (hB : 2 ^ n * B ≤ 10 ^ 100) (hp : ps.length ≤ 100) : Sh d := by
  obtain ⟨X, hX, c⟩ := h; exact only_sh c hB hp
theorem RowIs.top {B n : Nat} {xs : List Part} {ps : List Nat} {d : D} (h : RowIs B n xs ps d) {M : Mp} : L3.top M d = d := by
  obtain ⟨X, hX, c⟩ := h; exact c.top
end L3
set_option Elab.async false
set_option linter.all false
set_option maxRecDepth 100000
set_option maxHeartbeats 4000000
namespace L3
open PySem PySem.Spec PyProof.Rows L2
def Meets (n : Nat) (F : Fn) (v : Nat → Int) : Prop := ∀ p q, p < n → q < n → ∀ e, F p q = some e → v p - v q ≤ e
theorem meets_st {n : Nat} {F : Fn} {v : Nat → Int} : Meets n F v ↔ Stable n F fun p => some (- v p) := by
  constructor
  · intro h p hp q hq
    cases e : F p q with
    | none => exact eLe_none
    | some x => have := h p q hp hq x e; show _ ≤ _; omega
  · intro h p q hp hq x e
    have := h p hp q hq
    rw [e] at this
    have this : - v q ≤ - v p + x := this
    omega
theorem Bad.none {n : Nat} {T : Fn} (b : Bad n T) (v : Nat → Int) : ¬ Meets n T v := fun h => by
  obtain ⟨m, hm, z⟩ := b
  have := z _ (meets_st.mp h)
  cases this
/-- between some lowest and some greatest ones -/
theorem between (L U : List Int) (h : ∀ l ∈ L, ∀ u ∈ U, l ≤ u) : ∃ x, (∀ l ∈ L, l ≤ x) ∧ (∀ u ∈ U, x ≤ u) ∧ (x ∈ L ∨ x ∈ U ∨ x = 0) := by
  have mx : ∀ L : List Int, L = [] ∨ ∃ m ∈ L, ∀ l ∈ L, l ≤ m := by
    intro L
    induction L with
    | nil => exact .inl rfl
    | cons a L ih =>
      right
      rcases ih with rfl | ⟨m, hm, h⟩
      · exact ⟨a, by simp, fun l hl => by simp at hl; omega⟩
      · by_cases z : a ≤ m
        · exact ⟨m, by simp [hm], fun l hl => by
            rcases List.mem_cons.mp hl with rfl | hl
            · exact z
            · exact h l hl⟩
        · exact ⟨a, by simp, fun l hl => by
            rcases List.mem_cons.mp hl with rfl | hl
            · omega
            · have := h l hl; omega⟩
  have mn : ∀ L : List Int, L = [] ∨ ∃ m ∈ L, ∀ l ∈ L, m ≤ l := by
    intro L
    induction L with
    | nil => exact .inl rfl
    | cons a L ih =>
      right
      rcases ih with rfl | ⟨m, hm, h⟩
      · exact ⟨a, by simp, fun l hl => by simp at hl; omega⟩
      · by_cases z : m ≤ a
        · exact ⟨m, by simp [hm], fun l hl => by
            rcases List.mem_cons.mp hl with rfl | hl
            · exact z
            · exact h l hl⟩
        · exact ⟨a, by simp, fun l hl => by
            rcases List.mem_cons.mp hl with rfl | hl
            · omega
            · have := h l hl; omega⟩
  rcases mn U with rfl | ⟨u, hu, hU⟩
  · rcases mx L with rfl | ⟨l, hl, hL⟩
    · exact ⟨0, by simp, by simp, .inr (.inr rfl)⟩
    · exact ⟨l, hL, by simp, .inl hl⟩
  · exact ⟨u, fun l hl => h l hl u hu, hU, .inr (.inl hu)⟩
def setV (v : Nat → Int) (r : Nat) (x : Int) : Nat → Int := fun i => if i = r then x else v i
/-- meeting a table on some points alone -/
def MeetsOn (n : Nat) (A : Nat → Bool) (F : Fn) (v : Nat → Int) : Prop := ∀ p q, p < n → q < n → A p = true → A q = true → ∀ e, F p q = some e → v p - v q ≤ e
theorem ext_one {n : Nat} {T S : Fn} (c : IsCl n T S) {A : Nat → Bool} {v : Nat → Int} (h : MeetsOn n A S v) {r : Nat} (hr : r < n) : ∃ v', MeetsOn n (fun i => A i || decide (i = r)) S v' ∧ ∀ i, A i = true → v' i = v i := by
  by_cases hA : A r = true
  · refine ⟨v, fun p q hp hq h1 h2 => h p q hp hq ?_ ?_, fun _ _ => rfl⟩
    · rcases Bool.or_eq_true _ _ ▸ h1 with z | z
      · exact z
      · have := of_decide_eq_true z; subst this; exact hA
    · rcases Bool.or_eq_true _ _ ▸ h2 with z | z
      · exact z
      · have := of_decide_eq_true z; subst this; exact hA
  · let ix := (List.range n).filter A
    let U := ix.filterMap fun q => (S r q).map fun e => v q + e
    let L := ix.filterMap fun q => (S q r).map fun e => v q - e
    have mU : ∀ u, u ∈ U ↔ ∃ q e, q < n ∧ A q = true ∧ S r q = some e ∧ u = v q + e := fun u => by
      simp only [U, ix, List.mem_filterMap, List.mem_filter, List.mem_range, Option.map_eq_some_iff]
      constructor
      · rintro ⟨q, ⟨h1, h2⟩, e, h3, rfl⟩; exact ⟨q, e, h1, h2, h3, rfl⟩
      · rintro ⟨q, e, h1, h2, h3, rfl⟩; exact ⟨q, ⟨h1, h2⟩, e, h3, rfl⟩
    have mL : ∀ u, u ∈ L ↔ ∃ q e, q < n ∧ A q = true ∧ S q r = some e ∧ u = v q - e := fun u => by
      simp only [L, ix, List.mem_filterMap, List.mem_filter, List.mem_range, Option.map_eq_some_iff]
      constructor
      · rintro ⟨q, ⟨h1, h2⟩, e, h3, rfl⟩; exact ⟨q, e, h1, h2, h3, rfl⟩
      · rintro ⟨q, e, h1, h2, h3, rfl⟩; exact ⟨q, ⟨h1, h2⟩, e, h3, rfl⟩
    obtain ⟨x, hL, hU, _⟩ := between L U (fun l hl u hu => by
      obtain ⟨p, e, hp, ap, he, rfl⟩ := (mL l).mp hl
      obtain ⟨q, f, hq, aq, hf, rfl⟩ := (mU u).mp hu
      have t := c.tri p q r hp hq hr
      rw [he, hf] at t
      cases g : S p q with
      | none => rw [g] at t; exact t.elim
      | some y =>
        rw [g] at t
        have t : y ≤ e + f := t
        have := h p q hp hq ap aq y g
        omega)
    refine ⟨setV v r x, fun p q hp hq h1 h2 e he => ?_, fun i hi => ?_⟩
    · unfold setV
      have c1 : A p = true ∨ p = r := (Bool.or_eq_true _ _ ▸ h1).imp id of_decide_eq_true
      have c2 : A q = true ∨ q = r := (Bool.or_eq_true _ _ ▸ h2).imp id of_decide_eq_true
      by_cases e1 : p = r
      · subst e1
        by_cases e2 : q = p
        · subst e2
          rw [c.diag q hp] at he; cases he; omega
        · rw [if_pos rfl, if_neg e2]
          have := hU _ ((mU _).mpr ⟨q, e, hq, c2.resolve_right e2, he, rfl⟩)
          omega
      · rw [if_neg e1]
        by_cases e2 : q = r
        · subst e2
          rw [if_pos rfl]
          have := hL _ ((mL _).mpr ⟨p, e, hp, c1.resolve_right e1, he, rfl⟩)
          omega
        · rw [if_neg e2]
          exact h p q hp hq (c1.resolve_right e1) (c2.resolve_right e2) e he
    · unfold setV
      rw [if_neg (fun z => hA (by rw [← z]; exact hi))]
/-- what meets a closed table at some points can be completed -/
theorem ext_all' {n : Nat} {T S : Fn} (c : IsCl n T S) {A : Nat → Bool} {v : Nat → Int} (h : MeetsOn n A S v) : ∃ v', Meets n S v' ∧ ∀ i, A i = true → v' i = v i := by
  have go : ∀ k, k ≤ n → ∃ v', MeetsOn n (fun i => A i || decide (i < k)) S v' ∧ ∀ i, A i = true → v' i = v i := by
    intro k
    induction k with
    | zero => exact fun _ => ⟨v, fun p q hp hq h1 h2 => h p q hp hq (by simpa using h1) (by simpa using h2), fun _ _ => rfl⟩
    | succ k ih =>
      intro hk
      obtain ⟨v1, h1, e1⟩ := ih (by omega)
      obtain ⟨v2, h2, e2⟩ := ext_one c h1 (r := k) (by omega)
      refine ⟨v2, fun p q hp hq a b => h2 p q hp hq ?_ ?_, fun i hi => (e2 i (by simp [hi])).trans (e1 i hi)⟩
      · simp only [Bool.or_eq_true, decide_eq_true_eq] at a ⊢
        rcases a with a | a
        · exact .inl (.inl a)
        · by_cases z : p < k
          · exact .inl (.inr z)
          · exact .inr (by omega)
      · simp only [Bool.or_eq_true, decide_eq_true_eq] at b ⊢
        rcases b with b | b
        · exact .inl (.inl b)
        · by_cases z : q < k
          · exact .inl (.inr z)
          · exact .inr (by omega)
  obtain ⟨v', h1, h2⟩ := go n (Nat.le_refl _)
  exact ⟨v', fun p q hp hq => h1 p q hp hq (by simp [hp]) (by simp [hq]), h2⟩
/-- each end is reached -/
theorem reach {n : Nat} {T S : Fn} (c : IsCl n T S) {p q : Nat} (hp : p < n) (hq : q < n) : (∀ e, S p q = some e → ∃ v, Meets n S v ∧ v p - v q = e) ∧ (S p q = none → ∀ N : Int, ∃ v, Meets n S v ∧ N ≤ v p - v q) := by
  have mk : ∀ x : Int, (∀ e, S p q = some e → x ≤ e) → (∀ e, S q p = some e → - x ≤ e) → (p = q → x = 0) → ∃ v, Meets n S v ∧ v p - v q = x := by
    intro x h1 h2 h3
    have on : MeetsOn n (fun i => decide (i = p) || decide (i = q)) S (fun i => if i = p then x else 0) := by
      intro i j hi hj a b e he
      simp only [Bool.or_eq_true, decide_eq_true_eq] at a b
      by_cases e1 : i = p <;> by_cases e2 : j = p
      · subst e1; subst e2
        rw [c.diag _ hi] at he; cases he; simp
      · subst e1
        have : j = q := by omega
        subst this
        dsimp only
        rw [if_pos rfl, if_neg e2]
        have := h1 e he; omega
      · subst e2
        have : i = q := by omega
        subst this
        dsimp only
        rw [if_pos rfl, if_neg e1]
        have := h2 e he; omega
      · have a1 : i = q := by omega
        have a2 : j = q := by omega
        subst a1; subst a2
        rw [c.diag _ hi] at he; cases he; dsimp only; rw [if_neg e1]; omega
    obtain ⟨v', m, ag⟩ := ext_all' c on
    refine ⟨v', m, ?_⟩
    rw [ag p (by simp), ag q (by simp), if_pos rfl]
    by_cases z : q = p
    · subst z; rw [if_pos rfl, h3 rfl]; omega
    · rw [if_neg z]; omega
  have tr : ∀ e f, S p q = some e → S q p = some f → - e ≤ f := fun e f h1 h2 => by
    have t := c.tri p p q hp hp hq
    rw [c.diag p hp, h1, h2] at t
    have t : (0 : Int) ≤ e + f := t
    omega
  constructor
  · intro e he
    exact mk e (fun x hx => by rw [he] at hx; cases hx; omega) (fun f hf => tr e f he hf) fun z => by subst z; rw [c.diag p hp] at he; cases he; rfl
  · intro hn N
    have pq : p ≠ q := fun z => by subst z; rw [c.diag p hp] at hn; cases hn
    cases g : S q p with
    | none =>
      obtain ⟨v, m, e⟩ := mk N (fun x hx => by rw [hn] at hx; cases hx) (fun x hx => by rw [g] at hx; cases hx) (fun z => absurd z pq)
      exact ⟨v, m, by omega⟩
    | some f =>
      obtain ⟨v, m, e⟩ := mk (max N (- f)) (fun x hx => by rw [hn] at hx; cases hx) (fun x hx => by rw [g] at hx; cases hx; omega) (fun z => absurd z pq)
      exact ⟨v, m, by omega⟩
/-- closed tables met by the same values are the same -/
theorem cl_same {n : Nat} {T S T' S' : Fn} (c : IsCl n T S) (c' : IsCl n T' S') (h : ∀ v, Meets n S v ↔ Meets n S' v) {p q : Nat} (hp : p < n) (hq : q < n) : S p q = S' p q := by
  have one : ∀ {T S T' S' : Fn}, IsCl n T S → IsCl n T' S' → (∀ v, Meets n S v ↔ Meets n S' v) → eLe (S p q) (S' p q) := by
    intro T S T' S' c c' h
    cases e' : S' p q with
    | none => exact eLe_none
    | some y =>
      cases e : S p q with
      | none =>
        obtain ⟨v, m, hv⟩ := (reach c hp hq).2 e (y + 1)
        have := (h v).mp m p q hp hq y e'
        omega
      | some x =>
        obtain ⟨v, m, hv⟩ := (reach c hp hq).1 x e
        have := (h v).mp m p q hp hq y e'
        show x ≤ y
        omega
  exact eLe_anti (one c c' h) (one c' c fun v => (h v).symm)
theorem IsCl.some {n : Nat} {T S : Fn} (c : IsCl n T S) : ∃ v, Meets n S v := by
  obtain ⟨v, m, _⟩ := ext_all' c (A := fun _ => false) (v := fun _ => 0) (fun p q _ _ h => by cases h)
  exact ⟨v, m⟩
/-- d is a table, closed, met by just P, or () -/
def Den (n : Nat) (d : D) (P : (Nat → Int) → Prop) : Prop := (d = .tup [] ∧ ∀ v, ¬ P v) ∨ ∃ S : Tab, d = tabD S ∧ Sq n S ∧ IsCl n (at2 S) (at2 S) ∧ ∀ v, P v ↔ Meets n (at2 S) v
theorem Den.uniq {n : Nat} {d d' : D} {P P' : (Nat → Int) → Prop} (h : Den n d P) (h' : Den n d' P') (e : ∀ v, P v ↔ P' v) : d = d' := by
  rcases h with ⟨rfl, h⟩ | ⟨S, rfl, sq, c, h⟩
  · rcases h' with ⟨rfl, _⟩ | ⟨S', rfl, sq', c', h'⟩
    · rfl
    · obtain ⟨v, m⟩ := c'.some
      exact absurd ((e v).mpr ((h' v).mpr m)) (h v)
  · rcases h' with ⟨rfl, h'⟩ | ⟨S', rfl, sq', c', h'⟩
    · obtain ⟨v, m⟩ := c.some
      exact absurd ((e v).mp ((h v).mpr m)) (h' v)
    · rw [tab_ext sq sq' fun p q hp hq => cl_same c c' (fun v => by rw [← h, ← h', e]) hp hq]
theorem Den.congr {n : Nat} {d : D} {P P' : (Nat → Int) → Prop} (h : Den n d P) (e : ∀ v, P v ↔ P' v) : Den n d P' := by
  rcases h with ⟨rfl, h⟩ | ⟨S, rfl, sq, c, h⟩
  · exact .inl ⟨rfl, fun v z => h v ((e v).mpr z)⟩
  · exact .inr ⟨S, rfl, sq, c, fun v => by rw [← e, h]⟩
end L3
set_option Elab.async false
set_option linter.all false
set_option maxRecDepth 100000
set_option maxHeartbeats 4000000
namespace L3
open PySem PySem.Spec PyProof.Rows L2
abbrev Vl := Nat → Int
abbrev Rel := Vl → Vl → Prop
/-- old, new, zero -/
def enc (w : Nat) (a b : Vl) : Vl := fun i => if i < w then a i else if i < 2 * w then b (i - w) else 0
def encF (w : Nat) (a : Vl) : Vl := fun i => if i < w then a i else 0
theorem Meets.shift {n : Nat} {F : Fn} {v u : Vl} (c : Int) (h : ∀ i, i < n → u i = v i + c) : Meets n F v ↔ Meets n F u := by
  constructor
  · intro m p q hp hq e he
    have := m p q hp hq e he
    rw [h p hp, h q hq]; omega
  · intro m p q hp hq e he
    have := m p q hp hq e he
    rw [h p hp, h q hq] at this; omega
theorem enc_of {w : Nat} (v : Vl) : ∃ a b, ∀ i, i < 2 * w + 1 → v i = enc w a b i + v (2 * w) := by
  refine ⟨fun i => v i - v (2 * w), fun i => v (w + i) - v (2 * w), fun i hi => ?_⟩
  unfold enc
  by_cases h : i < w
  · rw [if_pos h]; dsimp only; omega
  · rw [if_neg h]
    by_cases h2 : i < 2 * w
    · rw [if_pos h2]
      have : w + (i - w) = i := by omega
      dsimp only
      rw [this]; omega
    · have : i = 2 * w := by omega
      rw [if_neg h2, this]; omega
theorem encF_of {w : Nat} (v : Vl) : ∃ a, ∀ i, i < w + 1 → v i = encF w a i + v w := by
  refine ⟨fun i => v i - v w, fun i hi => ?_⟩
  unfold encF
  by_cases h : i < w
  · rw [if_pos h]; dsimp only; omega
  · have : i = w := by omega
    rw [if_neg h, this]; omega
/-- a step as it stands, its ends within B -/
def RepS (B w : Nat) (d : D) (R : Rel) : Prop := (d = .tup [] ∧ ∀ a b, ¬ R a b) ∨ ∃ T : Tab, d = tabD T ∧ TabB B (2 * w + 1) T ∧ ∀ a b, R a b ↔ Meets (2 * w + 1) (at2 T) (enc w a b)
def RepF (B w : Nat) (d : D) (P : Vl → Prop) : Prop := (d = .tup [] ∧ ∀ a, ¬ P a) ∨ ∃ T : Tab, d = tabD T ∧ TabB B (w + 1) T ∧ ∀ a, P a ↔ Meets (w + 1) (at2 T) (encF w a)
/-- a step closed -/
def DenS (B w : Nat) (d : D) (R : Rel) : Prop := (d = .tup [] ∧ ∀ a b, ¬ R a b) ∨ ∃ S : Tab, d = tabD S ∧ TabB B (2 * w + 1) S ∧ IsCl (2 * w + 1) (at2 S) (at2 S) ∧ ∀ a b, R a b ↔ Meets (2 * w + 1) (at2 S) (enc w a b)
def DenF (B w : Nat) (d : D) (P : Vl → Prop) : Prop := (d = .tup [] ∧ ∀ a, ¬ P a) ∨ ∃ S : Tab, d = tabD S ∧ TabB B (w + 1) S ∧ IsCl (w + 1) (at2 S) (at2 S) ∧ ∀ a, P a ↔ Meets (w + 1) (at2 S) (encF w a)
section
variable {B B' w : Nat} {d d' : D} {R R' : Rel} {P P' : Vl → Prop}
theorem TabB.mono {n : Nat} {T : Tab} (t : TabB B n T) (h : B ≤ B') : TabB B' n T := ⟨t.rows, t.cols, fun r hr e he i hi => Nat.lt_of_lt_of_le (t.ends r hr e he i hi) h⟩
theorem DenS.rep (h : DenS B w d R) : RepS B w d R := by
  rcases h with h | ⟨S, h1, h2, _, h3⟩
  · exact .inl h
  · exact .inr ⟨S, h1, h2, h3⟩
theorem DenF.rep (h : DenF B w d P) : RepF B w d P := by
  rcases h with h | ⟨S, h1, h2, _, h3⟩
  · exact .inl h
  · exact .inr ⟨S, h1, h2, h3⟩
theorem RepS.mono (h : RepS B w d R) (hB : B ≤ B') : RepS B' w d R := by
  rcases h with h | ⟨S, h1, h2, h3⟩
  · exact .inl h
  · exact .inr ⟨S, h1, h2.mono hB, h3⟩
theorem RepF.mono (h : RepF B w d P) (hB : B ≤ B') : RepF B' w d P := by
  rcases h with h | ⟨S, h1, h2, h3⟩
  · exact .inl h
  · exact .inr ⟨S, h1, h2.mono hB, h3⟩
theorem DenS.mono (h : DenS B w d R) (hB : B ≤ B') : DenS B' w d R := by
  rcases h with h | ⟨S, h1, h2, c, h3⟩
  · exact .inl h
  · exact .inr ⟨S, h1, h2.mono hB, c, h3⟩
theorem DenF.mono (h : DenF B w d P) (hB : B ≤ B') : DenF B' w d P := by
  rcases h with h | ⟨S, h1, h2, c, h3⟩
  · exact .inl h
  · exact .inr ⟨S, h1, h2.mono hB, c, h3⟩
theorem DenS.congr (h : DenS B w d R) (e : ∀ a b, R a b ↔ R' a b) : DenS B w d R' := by
  rcases h with ⟨h, g⟩ | ⟨S, h1, h2, c, h3⟩
  · exact .inl ⟨h, fun a b z => g a b ((e a b).mpr z)⟩
  · exact .inr ⟨S, h1, h2, c, fun a b => by rw [← e, h3]⟩
theorem DenF.congr (h : DenF B w d P) (e : ∀ a, P a ↔ P' a) : DenF B w d P' := by
  rcases h with ⟨h, g⟩ | ⟨S, h1, h2, c, h3⟩
  · exact .inl ⟨h, fun a z => g a ((e a).mpr z)⟩
  · exact .inr ⟨S, h1, h2, c, fun a => by rw [← e, h3]⟩
theorem RepS.congr (h : RepS B w d R) (e : ∀ a b, R a b ↔ R' a b) : RepS B w d R' := by
  rcases h with ⟨h, g⟩ | ⟨S, h1, h2, h3⟩
  · exact .inl ⟨h, fun a b z => g a b ((e a b).mpr z)⟩
  · exact .inr ⟨S, h1, h2, fun a b => by rw [← e, h3]⟩
theorem RepF.congr (h : RepF B w d P) (e : ∀ a, P a ↔ P' a) : RepF B w d P' := by
  rcases h with ⟨h, g⟩ | ⟨S, h1, h2, h3⟩
  · exact .inl ⟨h, fun a z => g a ((e a).mpr z)⟩
  · exact .inr ⟨S, h1, h2, fun a => by rw [← e, h3]⟩
theorem meets_all {n : Nat} {F G : Fn} (h : ∀ a b, Meets (2 * w + 1) F (enc w a b) ↔ Meets (2 * w + 1) G (enc w a b)) (v : Vl) : Meets (2 * w + 1) F v ↔ Meets (2 * w + 1) G v := by
  obtain ⟨a, b, e⟩ := enc_of (w := w) v
  rw [← Meets.shift (v (2 * w)) e, ← Meets.shift (v (2 * w)) e]
  exact h a b
theorem meets_allF {n : Nat} {F G : Fn} (h : ∀ a, Meets (w + 1) F (encF w a) ↔ Meets (w + 1) G (encF w a)) (v : Vl) : Meets (w + 1) F v ↔ Meets (w + 1) G v := by
  obtain ⟨a, e⟩ := encF_of (w := w) v
  rw [← Meets.shift (v w) e, ← Meets.shift (v w) e]
  exact h a
theorem some_enc {F : Fn} (h : ∃ v, Meets (2 * w + 1) F v) : ∃ a b, Meets (2 * w + 1) F (enc w a b) := by
  obtain ⟨v, m⟩ := h
  obtain ⟨a, b, e⟩ := enc_of (w := w) v
  exact ⟨a, b, (Meets.shift (v (2 * w)) e).mpr m⟩
theorem some_encF {F : Fn} (h : ∃ v, Meets (w + 1) F v) : ∃ a, Meets (w + 1) F (encF w a) := by
  obtain ⟨v, m⟩ := h
  obtain ⟨a, e⟩ := encF_of (w := w) v
  exact ⟨a, (Meets.shift (v w) e).mpr m⟩
theorem DenS.uniq (h : DenS B w d R) (h' : DenS B' w d' R') (e : ∀ a b, R a b ↔ R' a b) : d = d' := by
  rcases h with ⟨rfl, h⟩ | ⟨S, rfl, sq, c, h⟩
  · rcases h' with ⟨rfl, _⟩ | ⟨S', rfl, sq', c', h'⟩
    · rfl
    · obtain ⟨a, b, m⟩ := some_enc c'.some
      exact absurd ((e a b).mpr ((h' a b).mpr m)) (h a b)
  · rcases h' with ⟨rfl, h'⟩ | ⟨S', rfl, sq', c', h'⟩
    · obtain ⟨a, b, m⟩ := some_enc c.some
      exact absurd ((e a b).mp ((h a b).mpr m)) (h' a b)
    · rw [tab_ext sq.sq sq'.sq fun p q hp hq => cl_same c c' (meets_all (n := 0) fun a b => by rw [← h, ← h', e]) hp hq]
theorem DenF.uniq (h : DenF B w d P) (h' : DenF B' w d' P') (e : ∀ a, P a ↔ P' a) : d = d' := by
  rcases h with ⟨rfl, h⟩ | ⟨S, rfl, sq, c, h⟩
  · rcases h' with ⟨rfl, _⟩ | ⟨S', rfl, sq', c', h'⟩
    · rfl
    · obtain ⟨a, m⟩ := some_encF c'.some
      exact absurd ((e a).mpr ((h' a).mpr m)) (h a)
  · rcases h' with ⟨rfl, h'⟩ | ⟨S', rfl, sq', c', h'⟩
    · obtain ⟨a, m⟩ := some_encF c.some
      exact absurd ((e a).mp ((h a).mpr m)) (h' a)
    · rw [tab_ext sq.sq sq'.sq fun p q hp hq => cl_same c c' (meets_allF (n := 0) fun a => by rw [← h, ← h', e]) hp hq]
theorem DenS.tm (h : DenS B w d R) (hB : B ≤ 10 ^ 100) : Tm 2 ((2 * w + 1) * (2 * w + 1 + 1)) d := by
  rcases h with ⟨rfl, _⟩ | ⟨S, rfl, t, _⟩
  · exact (Tm.tup (h := 0) (n := 0) (m := 0) (ds := []) (fun d h => nomatch h) (Nat.le_refl _)).mono (by decide) (Nat.zero_le _)
  · exact Tm.tab t hB
theorem DenF.tm (h : DenF B w d P) (hB : B ≤ 10 ^ 100) : Tm 2 ((w + 1) * (w + 1 + 1)) d := by
  rcases h with ⟨rfl, _⟩ | ⟨S, rfl, t, _⟩
  · exact (Tm.tup (h := 0) (n := 0) (m := 0) (ds := []) (fun d h => nomatch h) (Nat.le_refl _)).mono (by decide) (Nat.zero_le _)
  · exact Tm.tab t hB
theorem DenS.top (h : DenS B w d R) {M : Mp} : L3.top M d = d := by
  rcases h with ⟨rfl, _⟩ | ⟨S, rfl, t, _⟩ <;> rfl
theorem DenF.top (h : DenF B w d P) {M : Mp} : L3.top M d = d := by
  rcases h with ⟨rfl, _⟩ | ⟨S, rfl, t, _⟩ <;> rfl
/-- a step's relation looks at its own values alone -/
def Loc (w : Nat) (R : Rel) : Prop := ∀ a a' b b', (∀ i, i < w → a i = a' i) → (∀ i, i < w → b i = b' i) → R a b → R a' b'
end
/-- first R, then R' -/
def comp (R R' : Rel) : Rel := fun a b => ∃ m, R a m ∧ R' m b
def eqW (w : Nat) : Rel := fun a b => ∀ i, i < w → a i = b i
def iter (w : Nat) (R : Rel) : Nat → Rel
  | 0 => eqW w
  | n + 1 => comp R (iter w R n)
end L3
set_option Elab.async false
set_option linter.all false
set_option maxRecDepth 100000
set_option maxHeartbeats 4000000
namespace L3
open PySem PySem.Spec PyProof.Rows L2
end L3
set_option Elab.async false
set_option linter.all false
set_option maxRecDepth 100000
set_option maxHeartbeats 4000000
namespace L3
open PySem PySem.Spec PyProof.Rows L2
end L3
set_option Elab.async false
set_option linter.all false
set_option maxRecDepth 100000
set_option maxHeartbeats 4000000
namespace L3
open PySem PySem.Spec PyProof.Rows L2
end L3
set_option Elab.async false
set_option linter.all false
set_option maxRecDepth 100000
set_option maxHeartbeats 4000000
namespace L3
open PySem PySem.Spec PyProof.Rows L2
theorem NilOr.pl {d : D} (h : NilOr d) : Pl d := by
  rcases h with rfl | ⟨n, T, rfl, _, _⟩
  · rw [pl_nil]; trivial
  · exact pl_tab
theorem DenS.nil {B w : Nat} {d : D} {R : Rel} (h : DenS B w d R) (no : ∀ a b, ¬ R a b) : d = .tup [] := by
  rcases h with ⟨rfl, _⟩ | ⟨S, _, _, cl, h⟩
  · rfl
  · obtain ⟨a, b, m⟩ := some_enc cl.some
    exact absurd ((h a b).mpr m) (no a b)
theorem DenF.nil {B w : Nat} {d : D} {P : Vl → Prop} (h : DenF B w d P) (no : ∀ a, ¬ P a) : d = .tup [] := by
  rcases h with ⟨rfl, _⟩ | ⟨S, _, _, cl, h⟩
  · rfl
  · obtain ⟨a, m⟩ := some_encF cl.some
    exact absurd ((h a).mpr m) (no a)
theorem DenS.sh {B w : Nat} {d : D} {R : Rel} (h : DenS B w d R) (hB : B ≤ 10 ^ 100) (hw : w ≤ 40) : Sh d := (h.tm hB).fits (by decide) (Nat.le_trans (Nat.mul_le_mul (show 2 * w + 1 ≤ 81 by omega) (show 2 * w + 1 + 1 ≤ 82 by omega)) (by decide))
theorem DenF.sh {B w : Nat} {d : D} {P : Vl → Prop} (h : DenF B w d P) (hB : B ≤ 10 ^ 100) (hw : w ≤ 40) : Sh d := (h.tm hB).fits (by decide) (Nat.le_trans (Nat.mul_le_mul (show w + 1 ≤ 41 by omega) (show w + 1 + 1 ≤ 42 by omega)) (by decide))
end L3
set_option Elab.async false
set_option linter.all false
set_option maxRecDepth 100000
set_option maxHeartbeats 4000000
namespace L3
open PySem PySem.Spec PyProof.Rows L2
def TsB (n b : Nat) (ts : List Trip) : Prop := ∀ t ∈ ts, In2 n t ∧ t.2.2.natAbs ≤ b
theorem TsB.ok {n b : Nat} {ts : List Trip} (h : TsB n b ts) (hb : b < 100) : TsOk n ts := fun t ht => ⟨(h t ht).1, by have := (h t ht).2; omega⟩
theorem TsB.app {n b : Nat} {ts us : List Trip} (h : TsB n b ts) (h2 : TsB n b us) : TsB n b (ts ++ us) := fun t ht => (List.mem_append.mp ht).elim (h t) (h2 t)
theorem TsB.rep {n b k : Nat} {t : Trip} (h : In2 n t ∧ t.2.2.natAbs ≤ b) : TsB n b (List.replicate k t) := fun x hx => by rw [List.eq_of_mem_replicate hx]; exact h
end L3
set_option Elab.async false
set_option linter.all false
set_option maxRecDepth 100000
set_option maxHeartbeats 4000000
namespace L3
open PySem PySem.Spec PyProof.Rows L2
end L3
set_option Elab.async false
set_option linter.all false
set_option maxRecDepth 100000
set_option maxHeartbeats 4000000
namespace L3
open PySem PySem.Spec PyProof.Rows L2
end L3
set_option Elab.async false
set_option linter.all false
set_option maxRecDepth 100000
set_option maxHeartbeats 4000000
namespace L3
open PySem PySem.Spec PyProof.Rows L2
/-- a holds cells and three numbers, the last one at most b -/
def Fd (b : Nat) (M : Mp) (a : Addr) : Prop := ∃ (cs : List Int) (i : Nat) (g : Int) (n : Nat), n ≤ b ∧ M a = some (.lst [.rol (cs.map D.int), .int i, .int g, .int n])
theorem Fd.mono {b c : Nat} {M : Mp} {a : Addr} (f : Fd b M a) (h : b ≤ c) : Fd c M a := by
  obtain ⟨cs, i, g, n, hn, e⟩ := f
  exact ⟨cs, i, g, n, by omega, e⟩
theorem Fd.put {b : Nat} {a f : Addr} {M : Mp} {o : MO} (x : Fd b M a) (h : f ≠ a) : Fd b (mset M f o) a := by
  obtain ⟨cs, i, g, n, hn, e⟩ := x
  exact ⟨cs, i, g, n, hn, by rw [mset_ne (Ne.symm h)]; exact e⟩
theorem Fd.ne {b : Nat} {a f : Addr} {M : Mp} (x : Fd b M a) (h : M f = none) : f ≠ a := by
  obtain ⟨cs, i, g, n, hn, e⟩ := x
  exact fun z => by rw [z, e] at h; cases h
def feedR : XK3 → TS3 := fun E =>
  (wRet (wLst (wCons (wSlF (wVar 0) wNoPart (wPart (wC (.int 63)))) (wCons (wC (.int 0)) (wCons (wC (.int 0)) (wCons (wC (.int 0)) wNil))))))
def SFeed7 (sp : Sp3) : Prop := ∀ (ns : List Int) (M : Mp) (Q : VK3) (E : XK3), (∀ a M', M a = none → Fd 0 M' a → Only a M M' → Q (.ref a) M') → sp [.rol (ns.map D.int)] M Q E
theorem cut_map {ns : List Int} {lo hi : Option Int} : cutD (ns.map D.int) lo hi = ((ns.drop (HT.sIx ns.length 0 lo)).take (HT.sIx ns.length ns.length hi - HT.sIx ns.length 0 lo)).map D.int := by
  unfold cutD; rw [List.length_map, List.map_take, List.map_drop]
theorem s_feed7 : SFeed7 (spOf 1 1 feedR) := by
  refine fun ns M Q E q => ⟨rfl, ?_⟩
  show feedR E _ [some (.rol (ns.map D.int))] M
  unfold feedR
  rw [st_ret]
  simp only [ex_c, ex_var, ex_op, ex_un, ex_b, ex_and, ex_or, ex_not, ex_andV, ex_orV, ex_notV, ex_if, ex_chain, ex_nil, ex_cons, ex_tup, ex_lst, ex_call, ex_callP, ex_cb, ex_bm, ex_rep, ex_sl, ex_noPart, ex_part, ex_yes, it_items, it_rng1, it_rng2, tg_name, tg_sub, tg_tup, tg_cons, tg_nil, gs_0, gs_s, ss_0, ss_s, op_ii, op_ss, op_tt, op_mm, op_sb, op_ng, op_iNf, op_iNt, op_lle, op_ixT, op_ixR, op_ixL, op_putE, op_appE, it_tupE, it_rolE, it_refE, lstOf_l, exL, asS_some, asI_int, asB_bl, asL_some, asN_some, ite3_t, ite3_f, bl_1, bl_lenT, bl_lenR, bl_lenL, bl_lenS, bl_tuple, bl_list, bl_abs, bl_intI, bl_intB, bl_max, bl_min, op_eqSf, op_eqSt, op_eqIf, op_eqIt, op_eqTf, op_eqTt, op_eqRf, op_eqRt, op_eqNf, op_eqNt, eqD_int, eqD_nil, pl_int, pl_nil, pl_non, pl_rnil, pl_bl, sl_tupE, sl_rolE, keep_ref, keep_tup, keep_rol, tp_int, tp_tup, tp_rol, tp_str, tp_bl, tp_non, tp_ref, oFd, oMd, oPw, oShl, oLt, oLe, oGt, oGe, op_in, op_cp, wipe_nil, wipe_cons, mset_same, true_and, and_true, isN_int, ex_lstF, ex_repF, ex_lgF1, ex_lgF2, ex_tupRg1, ex_tupRg2, ex_frz, ex_slF, ex_slM, sl_tupF, sl_rolF, op_iiF, op_ssF, op_ttF, op_rrF, op_rrM, op_mmF, op_repF, li_rol, li_ref, bl_listF, bl_allF, bl_anyF, asT_some, asJ_some, op_eqBf, op_eqBt, isN_non, Bool.not_true, Bool.not_false, rep2]
  obtain ⟨cs, hc⟩ : ∃ cs : List Int, cutD (ns.map D.int) none (some 63) = cs.map D.int := ⟨_, cut_map⟩
  rw [hc]
  exact ⟨by show 4 ≤ sizeLine; decide, fun p hp => q p _ hp ⟨cs, 0, 0, 0, Nat.le_refl _, mset_same⟩ (Only.refl.set)⟩
def drawR : XK3 → TS3 := fun E =>
  (wSeq (wAsg (wOp oAddF (wOp oIx (wVar 0) (wC (.int 3))) (wC (.int 1))) (wgSub (wVar 0) (wC (.int 3)) oPut))
  (wSeq (wIfS (wB (wOp oGt (wOp oIx (wVar 0) (wC (.int 2))) (wC (.int 0)))) (wSeq (wSet 2 (wOp oMd (wOp oIx (wVar 0) (wC (.int 2))) (wVar 1)))
  (wSeq (wAsg (wOp oFd (wOp oIx (wVar 0) (wC (.int 2))) (wVar 1)) (wgSub (wVar 0) (wC (.int 2)) oPut))
  (wRet (wVar 2)))) wNext)
  (wSeq (wSet 3 (wC (.int 17)))
  (wSeq (wIfS (wB (wOp (oEq true) (wOp oIx (wVar 0) (wC (.int 0))) (wLstF wNil))) (wSet 3 (wOp oIx (wOp oIx (wVar 0) (wC (.int 0))) (wOp oMd (wOp oIx (wVar 0) (wC (.int 1))) (wCB bLen (wCons (wOp oIx (wVar 0) (wC (.int 0))) wNil))))) wNext)
  (wSeq (wAsg (wOp oAddF (wOp oIx (wVar 0) (wC (.int 1))) (wC (.int 1))) (wgSub (wVar 0) (wC (.int 1)) oPut))
  (wSeq (wIfS (wAnd (wB (wOp oGe (wVar 3) (wOp oPw (wC (.int 10)) (wC (.int 18))))) (wB (wOp oLe (wOp oIx (wVar 0) (wC (.int 1))) (wCB bLen (wCons (wOp oIx (wVar 0) (wC (.int 0))) wNil))))) (wSeq (wAsg (wOp oFd (wVar 3) (wVar 1)) (wgSub (wVar 0) (wC (.int 2)) oPut))
  (wRet (wOp oMd (wVar 3) (wVar 1)))) wNext)
  (wSeq (wSet 4 (wOp oMd (wOp oPw (wOp oAddF (wOp oMd (wVar 3) (wC (.int 2147483629))) (wOp oMulF (wC (.int 104729)) (wOp oIx (wVar 0) (wC (.int 3))))) (wC (.int 5))) (wC (.int 2147483647))))
  (wSeq (wSet 4 (wOp oMd (wOp oPw (wOp oAddF (wOp oMulF (wVar 4) (wOp oAddF (wOp oMulF (wC (.int 2)) (wOp oIx (wVar 0) (wC (.int 3)))) (wC (.int 1)))) (wC (.int 7919))) (wC (.int 3))) (wC (.int 2147483587))))
  (wRet (wOp oMd (wOp oFd (wVar 4) (wC (.int 64))) (wVar 1)))))))))))
def SDraw7 (sp : Sp3) : Prop := ∀ (a : Addr) (b : Nat) (n : Int) (M : Mp) (Q : VK3) (E : XK3), Fd b M a → b < 2 ^ 30 → 0 < n → n < 2 ^ 200 → (∀ r M', 0 ≤ r → r < n → Fd (b + 1) M' a → Only a M M' → Q (.int r) M') → sp [.ref a, .int n] M Q E
theorem at_40 {x y z w : D} : atI [x, y, z, w] 0 = some x := rfl
theorem at_41 {x y z w : D} : atI [x, y, z, w] 1 = some y := rfl
theorem at_42 {x y z w : D} : atI [x, y, z, w] 2 = some z := rfl
theorem at_43 {x y z w : D} : atI [x, y, z, w] 3 = some w := rfl
theorem ix_41 {x y z w : D} : ixN [x, y, z, w].length 1 = some 1 := rfl
theorem ix_42 {x y z w : D} : ixN [x, y, z, w].length 2 = some 2 := rfl
theorem ix_43 {x y z w : D} : ixN [x, y, z, w].length 3 = some 3 := rfl
theorem set_41 {x y z w v : D} : [x, y, z, w].set 1 v = [x, v, z, w] := rfl
theorem set_42 {x y z w v : D} : [x, y, z, w].set 2 v = [x, y, v, w] := rfl
theorem set_43 {x y z w v : D} : [x, y, z, w].set 3 v = [x, y, z, v] := rfl
theorem ints_row (cs : List Int) : cs.map D.int = (cs.map some).map oD := by rw [List.map_map]; rfl
theorem pl_ints {cs : List Int} : Pl (.rol (cs.map D.int)) := by rw [ints_row]; exact pl_row
/-- where the draw ends by powers -/
theorem draw_end {a : Addr} {b : Nat} {n : Int} {cs : List Int} {i k : Nat} {g x : Int} {M0 M : Mp} {Q : VK3} {x2 x4 : Option D} (hb : k ≤ b) (hb1 : b ≤ 2 ^ 30) (h0 : 0 < n) (hn : n < 2 ^ 200) (hM : M a = some (.lst [.rol (cs.map D.int), .int i, .int g, .int k])) (o : Only a M0 M)
    (q : ∀ r M', 0 ≤ r → r < n → Fd b M' a → Only a M0 M' → Q (.int r) M') {K : Ends3} (hK : K.rt = Q) :
    (wSeq (wSet 4 (wOp oMd (wOp oPw (wOp oAddF (wOp oMd (wVar 3) (wC (.int 2147483629))) (wOp oMulF (wC (.int 104729)) (wOp oIx (wVar 0) (wC (.int 3))))) (wC (.int 5))) (wC (.int 2147483647))))
      (wSeq (wSet 4 (wOp oMd (wOp oPw (wOp oAddF (wOp oMulF (wVar 4) (wOp oAddF (wOp oMulF (wC (.int 2)) (wOp oIx (wVar 0) (wC (.int 3)))) (wC (.int 1)))) (wC (.int 7919))) (wC (.int 3))) (wC (.int 2147483587))))
      (wRet (wOp oMd (wOp oFd (wVar 4) (wC (.int 64))) (wVar 1))))) K [some (.ref a), some (.int n), x2, some (.int x), x4] M := by
  have b1 := md_in (x := x) (n := 2147483629) (by decide)
  rw [st_seq, st_set]
  simp only [ex_c, ex_var, ex_op, ex_un, ex_b, ex_and, ex_or, ex_not, ex_andV, ex_orV, ex_notV, ex_if, ex_chain, ex_nil, ex_cons, ex_tup, ex_lst, ex_call, ex_callP, ex_cb, ex_bm, ex_rep, ex_sl, ex_noPart, ex_part, ex_yes, it_items, it_rng1, it_rng2, tg_name, tg_sub, tg_tup, tg_cons, tg_nil, gs_0, gs_s, ss_0, ss_s, op_ii, op_ss, op_tt, op_mm, op_sb, op_ng, op_iNf, op_iNt, op_lle, op_ixT, op_ixR, op_ixL, op_putE, op_appE, it_tupE, it_rolE, it_refE, lstOf_l, exL, asS_some, asI_int, asB_bl, asL_some, asN_some, ite3_t, ite3_f, bl_1, bl_lenT, bl_lenR, bl_lenL, bl_lenS, bl_tuple, bl_list, bl_abs, bl_intI, bl_intB, bl_max, bl_min, op_eqSf, op_eqSt, op_eqIf, op_eqIt, op_eqTf, op_eqTt, op_eqRf, op_eqRt, op_eqNf, op_eqNt, eqD_int, eqD_nil, pl_int, pl_nil, pl_non, pl_rnil, pl_bl, sl_tupE, sl_rolE, keep_ref, keep_tup, keep_rol, tp_int, tp_tup, tp_rol, tp_str, tp_bl, tp_non, tp_ref, oFd, oMd, oPw, oShl, oLt, oLe, oGt, oGe, op_in, op_cp, wipe_nil, wipe_cons, mset_same, true_and, and_true, isN_int, ex_lstF, ex_repF, ex_lgF1, ex_lgF2, ex_tupRg1, ex_tupRg2, ex_frz, ex_slF, ex_slM, sl_tupF, sl_rolF, op_iiF, op_ssF, op_ttF, op_rrF, op_rrM, op_mmF, op_repF, li_rol, li_ref, bl_listF, bl_allF, bl_anyF, asT_some, asJ_some, op_eqBf, op_eqBt, isN_non, Bool.not_true, Bool.not_false, rep2, hM, at_43]
  refine ⟨by decide, mulR (by omega) (by omega), ⟨by decide, by decide, by omega⟩, by decide, ?_⟩
  generalize (x.fmod 2147483629 + 104729 * (k : Int)) ^ (5 : Int).toNat = y
  have b2 := md_in (x := y) (n := 2147483647) (by decide)
  try dsimp only
  rw [st_seq, st_set]
  simp only [ex_c, ex_var, ex_op, ex_un, ex_b, ex_and, ex_or, ex_not, ex_andV, ex_orV, ex_notV, ex_if, ex_chain, ex_nil, ex_cons, ex_tup, ex_lst, ex_call, ex_callP, ex_cb, ex_bm, ex_rep, ex_sl, ex_noPart, ex_part, ex_yes, it_items, it_rng1, it_rng2, tg_name, tg_sub, tg_tup, tg_cons, tg_nil, gs_0, gs_s, ss_0, ss_s, op_ii, op_ss, op_tt, op_mm, op_sb, op_ng, op_iNf, op_iNt, op_lle, op_ixT, op_ixR, op_ixL, op_putE, op_appE, it_tupE, it_rolE, it_refE, lstOf_l, exL, asS_some, asI_int, asB_bl, asL_some, asN_some, ite3_t, ite3_f, bl_1, bl_lenT, bl_lenR, bl_lenL, bl_lenS, bl_tuple, bl_list, bl_abs, bl_intI, bl_intB, bl_max, bl_min, op_eqSf, op_eqSt, op_eqIf, op_eqIt, op_eqTf, op_eqTt, op_eqRf, op_eqRt, op_eqNf, op_eqNt, eqD_int, eqD_nil, pl_int, pl_nil, pl_non, pl_rnil, pl_bl, sl_tupE, sl_rolE, keep_ref, keep_tup, keep_rol, tp_int, tp_tup, tp_rol, tp_str, tp_bl, tp_non, tp_ref, oFd, oMd, oPw, oShl, oLt, oLe, oGt, oGe, op_in, op_cp, wipe_nil, wipe_cons, mset_same, true_and, and_true, isN_int, ex_lstF, ex_repF, ex_lgF1, ex_lgF2, ex_tupRg1, ex_tupRg2, ex_frz, ex_slF, ex_slM, sl_tupF, sl_rolF, op_iiF, op_ssF, op_ttF, op_rrF, op_rrM, op_mmF, op_repF, li_rol, li_ref, bl_listF, bl_allF, bl_anyF, asT_some, asJ_some, op_eqBf, op_eqBt, isN_non, Bool.not_true, Bool.not_false, rep2, hM, at_43]
  generalize hy : y.fmod 2147483647 = z at b2
  have b4 : z * (2 * (k : Int) + 1) ≤ 2147483647 * (2 * 2 ^ 30 + 1) := Int.mul_le_mul (by omega) (by omega) (by omega) (by decide)
  have b5 : 0 ≤ z * (2 * (k : Int) + 1) := Int.mul_nonneg b2.1 (by omega)
  refine ⟨mulR (by omega) (by omega), mulL b2.1 (by omega), ⟨by decide, by decide, by omega⟩, by decide, ?_⟩
  generalize (z * (2 * (k : Int) + 1) + 7919) ^ (3 : Int).toNat = u
  try dsimp only
  rw [st_ret]
  simp only [ex_c, ex_var, ex_op, ex_un, ex_b, ex_and, ex_or, ex_not, ex_andV, ex_orV, ex_notV, ex_if, ex_chain, ex_nil, ex_cons, ex_tup, ex_lst, ex_call, ex_callP, ex_cb, ex_bm, ex_rep, ex_sl, ex_noPart, ex_part, ex_yes, it_items, it_rng1, it_rng2, tg_name, tg_sub, tg_tup, tg_cons, tg_nil, gs_0, gs_s, ss_0, ss_s, op_ii, op_ss, op_tt, op_mm, op_sb, op_ng, op_iNf, op_iNt, op_lle, op_ixT, op_ixR, op_ixL, op_putE, op_appE, it_tupE, it_rolE, it_refE, lstOf_l, exL, asS_some, asI_int, asB_bl, asL_some, asN_some, ite3_t, ite3_f, bl_1, bl_lenT, bl_lenR, bl_lenL, bl_lenS, bl_tuple, bl_list, bl_abs, bl_intI, bl_intB, bl_max, bl_min, op_eqSf, op_eqSt, op_eqIf, op_eqIt, op_eqTf, op_eqTt, op_eqRf, op_eqRt, op_eqNf, op_eqNt, eqD_int, eqD_nil, pl_int, pl_nil, pl_non, pl_rnil, pl_bl, sl_tupE, sl_rolE, keep_ref, keep_tup, keep_rol, tp_int, tp_tup, tp_rol, tp_str, tp_bl, tp_non, tp_ref, oFd, oMd, oPw, oShl, oLt, oLe, oGt, oGe, op_in, op_cp, wipe_nil, wipe_cons, mset_same, true_and, and_true, isN_int, ex_lstF, ex_repF, ex_lgF1, ex_lgF2, ex_tupRg1, ex_tupRg2, ex_frz, ex_slF, ex_slM, sl_tupF, sl_rolF, op_iiF, op_ssF, op_ttF, op_rrF, op_rrM, op_mmF, op_repF, li_rol, li_ref, bl_listF, bl_allF, bl_anyF, asT_some, asJ_some, op_eqBf, op_eqBt, isN_non, Bool.not_true, Bool.not_false, rep2]
  rw [hK]
  exact ⟨⟨by decide, by decide⟩, by omega, q _ _ (md_in h0).1 (md_in h0).2 ⟨_, _, _, _, hb, hM⟩ o⟩
theorem s_draw7 : SDraw7 (spOf 2 5 drawR) := by
  intro a b n M Q E f hb h0 hn q
  obtain ⟨cs, i, g, k, hk, hM⟩ := f
  refine ⟨rfl, ?_⟩
  show drawR E _ [some (.ref a), some (.int n), none, none, none] M
  unfold drawR
  have hn0 : n ≠ 0 := by omega
  have fo : ∀ x, CFd x n := fun x => by
    have e : n.natAbs ≠ 0 := by omega
    have h2 : n.natAbs < 2 ^ 200 := by omega
    have := (Nat.log2_lt e (k := 200)).mpr h2
    exact ⟨hn0, by omega⟩
  have ek : (k : Int) + 1 = ((k + 1 : Nat) : Int) := by omega
  rw [st_seq, st_asg]
  simp only [ex_c, ex_var, ex_op, ex_un, ex_b, ex_and, ex_or, ex_not, ex_andV, ex_orV, ex_notV, ex_if, ex_chain, ex_nil, ex_cons, ex_tup, ex_lst, ex_call, ex_callP, ex_cb, ex_bm, ex_rep, ex_sl, ex_noPart, ex_part, ex_yes, it_items, it_rng1, it_rng2, tg_name, tg_sub, tg_tup, tg_cons, tg_nil, gs_0, gs_s, ss_0, ss_s, op_ii, op_ss, op_tt, op_mm, op_sb, op_ng, op_iNf, op_iNt, op_lle, op_ixT, op_ixR, op_ixL, op_putE, op_appE, it_tupE, it_rolE, it_refE, lstOf_l, exL, asS_some, asI_int, asB_bl, asL_some, asN_some, ite3_t, ite3_f, bl_1, bl_lenT, bl_lenR, bl_lenL, bl_lenS, bl_tuple, bl_list, bl_abs, bl_intI, bl_intB, bl_max, bl_min, op_eqSf, op_eqSt, op_eqIf, op_eqIt, op_eqTf, op_eqTt, op_eqRf, op_eqRt, op_eqNf, op_eqNt, eqD_int, eqD_nil, pl_int, pl_nil, pl_non, pl_rnil, pl_bl, sl_tupE, sl_rolE, keep_ref, keep_tup, keep_rol, tp_int, tp_tup, tp_rol, tp_str, tp_bl, tp_non, tp_ref, oFd, oMd, oPw, oShl, oLt, oLe, oGt, oGe, op_in, op_cp, wipe_nil, wipe_cons, mset_same, true_and, and_true, isN_int, ex_lstF, ex_repF, ex_lgF1, ex_lgF2, ex_tupRg1, ex_tupRg2, ex_frz, ex_slF, ex_slM, sl_tupF, sl_rolF, op_iiF, op_ssF, op_ttF, op_rrF, op_rrM, op_mmF, op_repF, li_rol, li_ref, bl_listF, bl_allF, bl_anyF, asT_some, asJ_some, op_eqBf, op_eqBt, isN_non, Bool.not_true, Bool.not_false, rep2, hM, at_43, ek, ix_43, set_43]
  have hM1 : mset M a (MO.lst [.rol (cs.map D.int), .int i, .int g, .int ((k + 1 : Nat) : Int)]) a = some (.lst [.rol (cs.map D.int), .int i, .int g, .int ((k + 1 : Nat) : Int)]) := mset_same
  have o1 : Only a M (mset M a (MO.lst [.rol (cs.map D.int), .int i, .int g, .int ((k + 1 : Nat) : Int)])) := Only.refl.set
  generalize mset M a (MO.lst [.rol (cs.map D.int), .int i, .int g, .int ((k + 1 : Nat) : Int)]) = M1 at hM1 o1
  try dsimp only
  rw [st_seq, st_if]
  simp only [ex_c, ex_var, ex_op, ex_un, ex_b, ex_and, ex_or, ex_not, ex_andV, ex_orV, ex_notV, ex_if, ex_chain, ex_nil, ex_cons, ex_tup, ex_lst, ex_call, ex_callP, ex_cb, ex_bm, ex_rep, ex_sl, ex_noPart, ex_part, ex_yes, it_items, it_rng1, it_rng2, tg_name, tg_sub, tg_tup, tg_cons, tg_nil, gs_0, gs_s, ss_0, ss_s, op_ii, op_ss, op_tt, op_mm, op_sb, op_ng, op_iNf, op_iNt, op_lle, op_ixT, op_ixR, op_ixL, op_putE, op_appE, it_tupE, it_rolE, it_refE, lstOf_l, exL, asS_some, asI_int, asB_bl, asL_some, asN_some, ite3_t, ite3_f, bl_1, bl_lenT, bl_lenR, bl_lenL, bl_lenS, bl_tuple, bl_list, bl_abs, bl_intI, bl_intB, bl_max, bl_min, op_eqSf, op_eqSt, op_eqIf, op_eqIt, op_eqTf, op_eqTt, op_eqRf, op_eqRt, op_eqNf, op_eqNt, eqD_int, eqD_nil, pl_int, pl_nil, pl_non, pl_rnil, pl_bl, sl_tupE, sl_rolE, keep_ref, keep_tup, keep_rol, tp_int, tp_tup, tp_rol, tp_str, tp_bl, tp_non, tp_ref, oFd, oMd, oPw, oShl, oLt, oLe, oGt, oGe, op_in, op_cp, wipe_nil, wipe_cons, mset_same, true_and, and_true, isN_int, ex_lstF, ex_repF, ex_lgF1, ex_lgF2, ex_tupRg1, ex_tupRg2, ex_frz, ex_slF, ex_slM, sl_tupF, sl_rolF, op_iiF, op_ssF, op_ttF, op_rrF, op_rrM, op_mmF, op_repF, li_rol, li_ref, bl_listF, bl_allF, bl_anyF, asT_some, asJ_some, op_eqBf, op_eqBt, isN_non, Bool.not_true, Bool.not_false, rep2, hM1, at_42]
  refine ite3_by (fun hg => ?_) (fun hg => ?_)
  · rw [st_seq, st_set]
    simp only [ex_c, ex_var, ex_op, ex_un, ex_b, ex_and, ex_or, ex_not, ex_andV, ex_orV, ex_notV, ex_if, ex_chain, ex_nil, ex_cons, ex_tup, ex_lst, ex_call, ex_callP, ex_cb, ex_bm, ex_rep, ex_sl, ex_noPart, ex_part, ex_yes, it_items, it_rng1, it_rng2, tg_name, tg_sub, tg_tup, tg_cons, tg_nil, gs_0, gs_s, ss_0, ss_s, op_ii, op_ss, op_tt, op_mm, op_sb, op_ng, op_iNf, op_iNt, op_lle, op_ixT, op_ixR, op_ixL, op_putE, op_appE, it_tupE, it_rolE, it_refE, lstOf_l, exL, asS_some, asI_int, asB_bl, asL_some, asN_some, ite3_t, ite3_f, bl_1, bl_lenT, bl_lenR, bl_lenL, bl_lenS, bl_tuple, bl_list, bl_abs, bl_intI, bl_intB, bl_max, bl_min, op_eqSf, op_eqSt, op_eqIf, op_eqIt, op_eqTf, op_eqTt, op_eqRf, op_eqRt, op_eqNf, op_eqNt, eqD_int, eqD_nil, pl_int, pl_nil, pl_non, pl_rnil, pl_bl, sl_tupE, sl_rolE, keep_ref, keep_tup, keep_rol, tp_int, tp_tup, tp_rol, tp_str, tp_bl, tp_non, tp_ref, oFd, oMd, oPw, oShl, oLt, oLe, oGt, oGe, op_in, op_cp, wipe_nil, wipe_cons, mset_same, true_and, and_true, isN_int, ex_lstF, ex_repF, ex_lgF1, ex_lgF2, ex_tupRg1, ex_tupRg2, ex_frz, ex_slF, ex_slM, sl_tupF, sl_rolF, op_iiF, op_ssF, op_ttF, op_rrF, op_rrM, op_mmF, op_repF, li_rol, li_ref, bl_listF, bl_allF, bl_anyF, asT_some, asJ_some, op_eqBf, op_eqBt, isN_non, Bool.not_true, Bool.not_false, rep2, hM1, at_42]
    refine ⟨hn0, ?_⟩
    try dsimp only
    rw [st_seq, st_asg]
    simp only [ex_c, ex_var, ex_op, ex_un, ex_b, ex_and, ex_or, ex_not, ex_andV, ex_orV, ex_notV, ex_if, ex_chain, ex_nil, ex_cons, ex_tup, ex_lst, ex_call, ex_callP, ex_cb, ex_bm, ex_rep, ex_sl, ex_noPart, ex_part, ex_yes, it_items, it_rng1, it_rng2, tg_name, tg_sub, tg_tup, tg_cons, tg_nil, gs_0, gs_s, ss_0, ss_s, op_ii, op_ss, op_tt, op_mm, op_sb, op_ng, op_iNf, op_iNt, op_lle, op_ixT, op_ixR, op_ixL, op_putE, op_appE, it_tupE, it_rolE, it_refE, lstOf_l, exL, asS_some, asI_int, asB_bl, asL_some, asN_some, ite3_t, ite3_f, bl_1, bl_lenT, bl_lenR, bl_lenL, bl_lenS, bl_tuple, bl_list, bl_abs, bl_intI, bl_intB, bl_max, bl_min, op_eqSf, op_eqSt, op_eqIf, op_eqIt, op_eqTf, op_eqTt, op_eqRf, op_eqRt, op_eqNf, op_eqNt, eqD_int, eqD_nil, pl_int, pl_nil, pl_non, pl_rnil, pl_bl, sl_tupE, sl_rolE, keep_ref, keep_tup, keep_rol, tp_int, tp_tup, tp_rol, tp_str, tp_bl, tp_non, tp_ref, oFd, oMd, oPw, oShl, oLt, oLe, oGt, oGe, op_in, op_cp, wipe_nil, wipe_cons, mset_same, true_and, and_true, isN_int, ex_lstF, ex_repF, ex_lgF1, ex_lgF2, ex_tupRg1, ex_tupRg2, ex_frz, ex_slF, ex_slM, sl_tupF, sl_rolF, op_iiF, op_ssF, op_ttF, op_rrF, op_rrM, op_mmF, op_repF, li_rol, li_ref, bl_listF, bl_allF, bl_anyF, asT_some, asJ_some, op_eqBf, op_eqBt, isN_non, Bool.not_true, Bool.not_false, rep2, hM1, at_42, ix_42, set_42]
    refine ⟨fo _, ?_⟩
    try dsimp only
    rw [st_ret]
    simp only [ex_c, ex_var, ex_op, ex_un, ex_b, ex_and, ex_or, ex_not, ex_andV, ex_orV, ex_notV, ex_if, ex_chain, ex_nil, ex_cons, ex_tup, ex_lst, ex_call, ex_callP, ex_cb, ex_bm, ex_rep, ex_sl, ex_noPart, ex_part, ex_yes, it_items, it_rng1, it_rng2, tg_name, tg_sub, tg_tup, tg_cons, tg_nil, gs_0, gs_s, ss_0, ss_s, op_ii, op_ss, op_tt, op_mm, op_sb, op_ng, op_iNf, op_iNt, op_lle, op_ixT, op_ixR, op_ixL, op_putE, op_appE, it_tupE, it_rolE, it_refE, lstOf_l, exL, asS_some, asI_int, asB_bl, asL_some, asN_some, ite3_t, ite3_f, bl_1, bl_lenT, bl_lenR, bl_lenL, bl_lenS, bl_tuple, bl_list, bl_abs, bl_intI, bl_intB, bl_max, bl_min, op_eqSf, op_eqSt, op_eqIf, op_eqIt, op_eqTf, op_eqTt, op_eqRf, op_eqRt, op_eqNf, op_eqNt, eqD_int, eqD_nil, pl_int, pl_nil, pl_non, pl_rnil, pl_bl, sl_tupE, sl_rolE, keep_ref, keep_tup, keep_rol, tp_int, tp_tup, tp_rol, tp_str, tp_bl, tp_non, tp_ref, oFd, oMd, oPw, oShl, oLt, oLe, oGt, oGe, op_in, op_cp, wipe_nil, wipe_cons, mset_same, true_and, and_true, isN_int, ex_lstF, ex_repF, ex_lgF1, ex_lgF2, ex_tupRg1, ex_tupRg2, ex_frz, ex_slF, ex_slM, sl_tupF, sl_rolF, op_iiF, op_ssF, op_ttF, op_rrF, op_rrM, op_mmF, op_repF, li_rol, li_ref, bl_listF, bl_allF, bl_anyF, asT_some, asJ_some, op_eqBf, op_eqBt, isN_non, Bool.not_true, Bool.not_false, rep2]
    exact q _ _ (md_in h0).1 (md_in h0).2 ⟨cs, i, _, k + 1, by omega, mset_same⟩ (o1.trans Only.refl.set)
  · rw [st_next]
    try dsimp only
    rw [st_seq, st_set]
    simp only [ex_c, ex_var, ex_op, ex_un, ex_b, ex_and, ex_or, ex_not, ex_andV, ex_orV, ex_notV, ex_if, ex_chain, ex_nil, ex_cons, ex_tup, ex_lst, ex_call, ex_callP, ex_cb, ex_bm, ex_rep, ex_sl, ex_noPart, ex_part, ex_yes, it_items, it_rng1, it_rng2, tg_name, tg_sub, tg_tup, tg_cons, tg_nil, gs_0, gs_s, ss_0, ss_s, op_ii, op_ss, op_tt, op_mm, op_sb, op_ng, op_iNf, op_iNt, op_lle, op_ixT, op_ixR, op_ixL, op_putE, op_appE, it_tupE, it_rolE, it_refE, lstOf_l, exL, asS_some, asI_int, asB_bl, asL_some, asN_some, ite3_t, ite3_f, bl_1, bl_lenT, bl_lenR, bl_lenL, bl_lenS, bl_tuple, bl_list, bl_abs, bl_intI, bl_intB, bl_max, bl_min, op_eqSf, op_eqSt, op_eqIf, op_eqIt, op_eqTf, op_eqTt, op_eqRf, op_eqRt, op_eqNf, op_eqNt, eqD_int, eqD_nil, pl_int, pl_nil, pl_non, pl_rnil, pl_bl, sl_tupE, sl_rolE, keep_ref, keep_tup, keep_rol, tp_int, tp_tup, tp_rol, tp_str, tp_bl, tp_non, tp_ref, oFd, oMd, oPw, oShl, oLt, oLe, oGt, oGe, op_in, op_cp, wipe_nil, wipe_cons, mset_same, true_and, and_true, isN_int, ex_lstF, ex_repF, ex_lgF1, ex_lgF2, ex_tupRg1, ex_tupRg2, ex_frz, ex_slF, ex_slM, sl_tupF, sl_rolF, op_iiF, op_ssF, op_ttF, op_rrF, op_rrM, op_mmF, op_repF, li_rol, li_ref, bl_listF, bl_allF, bl_anyF, asT_some, asJ_some, op_eqBf, op_eqBt, isN_non, Bool.not_true, Bool.not_false, rep2]
    try dsimp only
    -- from the cell on
    have rest : ∀ x : Int, wSeq (wAsg (wOp oAddF (wOp oIx (wVar 0) (wC (.int 1))) (wC (.int 1))) (wgSub (wVar 0) (wC (.int 1)) oPut))
        (wSeq (wIfS (wAnd (wB (wOp oGe (wVar 3) (wOp oPw (wC (.int 10)) (wC (.int 18))))) (wB (wOp oLe (wOp oIx (wVar 0) (wC (.int 1))) (wCB bLen (wCons (wOp oIx (wVar 0) (wC (.int 0))) wNil))))) (wSeq (wAsg (wOp oFd (wVar 3) (wVar 1)) (wgSub (wVar 0) (wC (.int 2)) oPut))
        (wRet (wOp oMd (wVar 3) (wVar 1)))) wNext)
        (wSeq (wSet 4 (wOp oMd (wOp oPw (wOp oAddF (wOp oMd (wVar 3) (wC (.int 2147483629))) (wOp oMulF (wC (.int 104729)) (wOp oIx (wVar 0) (wC (.int 3))))) (wC (.int 5))) (wC (.int 2147483647))))
        (wSeq (wSet 4 (wOp oMd (wOp oPw (wOp oAddF (wOp oMulF (wVar 4) (wOp oAddF (wOp oMulF (wC (.int 2)) (wOp oIx (wVar 0) (wC (.int 3)))) (wC (.int 1)))) (wC (.int 7919))) (wC (.int 3))) (wC (.int 2147483587))))
        (wRet (wOp oMd (wOp oFd (wVar 4) (wC (.int 64))) (wVar 1)))))) { nx := fun _ M' => Q .non M', rt := Q } [some (.ref a), some (.int n), none, some (.int x), none] M1 := fun x => by
      have ei : (i : Int) + 1 = ((i + 1 : Nat) : Int) := by omega
      rw [st_seq, st_asg]
      simp only [ex_c, ex_var, ex_op, ex_un, ex_b, ex_and, ex_or, ex_not, ex_andV, ex_orV, ex_notV, ex_if, ex_chain, ex_nil, ex_cons, ex_tup, ex_lst, ex_call, ex_callP, ex_cb, ex_bm, ex_rep, ex_sl, ex_noPart, ex_part, ex_yes, it_items, it_rng1, it_rng2, tg_name, tg_sub, tg_tup, tg_cons, tg_nil, gs_0, gs_s, ss_0, ss_s, op_ii, op_ss, op_tt, op_mm, op_sb, op_ng, op_iNf, op_iNt, op_lle, op_ixT, op_ixR, op_ixL, op_putE, op_appE, it_tupE, it_rolE, it_refE, lstOf_l, exL, asS_some, asI_int, asB_bl, asL_some, asN_some, ite3_t, ite3_f, bl_1, bl_lenT, bl_lenR, bl_lenL, bl_lenS, bl_tuple, bl_list, bl_abs, bl_intI, bl_intB, bl_max, bl_min, op_eqSf, op_eqSt, op_eqIf, op_eqIt, op_eqTf, op_eqTt, op_eqRf, op_eqRt, op_eqNf, op_eqNt, eqD_int, eqD_nil, pl_int, pl_nil, pl_non, pl_rnil, pl_bl, sl_tupE, sl_rolE, keep_ref, keep_tup, keep_rol, tp_int, tp_tup, tp_rol, tp_str, tp_bl, tp_non, tp_ref, oFd, oMd, oPw, oShl, oLt, oLe, oGt, oGe, op_in, op_cp, wipe_nil, wipe_cons, mset_same, true_and, and_true, isN_int, ex_lstF, ex_repF, ex_lgF1, ex_lgF2, ex_tupRg1, ex_tupRg2, ex_frz, ex_slF, ex_slM, sl_tupF, sl_rolF, op_iiF, op_ssF, op_ttF, op_rrF, op_rrM, op_mmF, op_repF, li_rol, li_ref, bl_listF, bl_allF, bl_anyF, asT_some, asJ_some, op_eqBf, op_eqBt, isN_non, Bool.not_true, Bool.not_false, rep2, hM1, at_41, ix_41, set_41, ei]
      have hM2 : mset M1 a (MO.lst [.rol (cs.map D.int), .int ((i + 1 : Nat) : Int), .int g, .int ((k + 1 : Nat) : Int)]) a = some (.lst [.rol (cs.map D.int), .int ((i + 1 : Nat) : Int), .int g, .int ((k + 1 : Nat) : Int)]) := mset_same
      have o2 : Only a M (mset M1 a (MO.lst [.rol (cs.map D.int), .int ((i + 1 : Nat) : Int), .int g, .int ((k + 1 : Nat) : Int)])) := o1.trans Only.refl.set
      generalize mset M1 a (MO.lst [.rol (cs.map D.int), .int ((i + 1 : Nat) : Int), .int g, .int ((k + 1 : Nat) : Int)]) = M2 at hM2 o2
      have fin : ∀ x2 x4, wSeq (wSet 4 (wOp oMd (wOp oPw (wOp oAddF (wOp oMd (wVar 3) (wC (.int 2147483629))) (wOp oMulF (wC (.int 104729)) (wOp oIx (wVar 0) (wC (.int 3))))) (wC (.int 5))) (wC (.int 2147483647))))
        (wSeq (wSet 4 (wOp oMd (wOp oPw (wOp oAddF (wOp oMulF (wVar 4) (wOp oAddF (wOp oMulF (wC (.int 2)) (wOp oIx (wVar 0) (wC (.int 3)))) (wC (.int 1)))) (wC (.int 7919))) (wC (.int 3))) (wC (.int 2147483587))))
        (wRet (wOp oMd (wOp oFd (wVar 4) (wC (.int 64))) (wVar 1)))) { nx := fun _ M' => Q .non M', rt := Q } [some (.ref a), some (.int n), x2, some (.int x), x4] M2 := fun x2 x4 =>
        draw_end (b := b + 1) (by omega) (by omega) h0 hn hM2 o2 q rfl
      try dsimp only
      rw [st_seq, st_if]
      simp only [ex_c, ex_var, ex_op, ex_un, ex_b, ex_and, ex_or, ex_not, ex_andV, ex_orV, ex_notV, ex_if, ex_chain, ex_nil, ex_cons, ex_tup, ex_lst, ex_call, ex_callP, ex_cb, ex_bm, ex_rep, ex_sl, ex_noPart, ex_part, ex_yes, it_items, it_rng1, it_rng2, tg_name, tg_sub, tg_tup, tg_cons, tg_nil, gs_0, gs_s, ss_0, ss_s, op_ii, op_ss, op_tt, op_mm, op_sb, op_ng, op_iNf, op_iNt, op_lle, op_ixT, op_ixR, op_ixL, op_putE, op_appE, it_tupE, it_rolE, it_refE, lstOf_l, exL, asS_some, asI_int, asB_bl, asL_some, asN_some, ite3_t, ite3_f, bl_1, bl_lenT, bl_lenR, bl_lenL, bl_lenS, bl_tuple, bl_list, bl_abs, bl_intI, bl_intB, bl_max, bl_min, op_eqSf, op_eqSt, op_eqIf, op_eqIt, op_eqTf, op_eqTt, op_eqRf, op_eqRt, op_eqNf, op_eqNt, eqD_int, eqD_nil, pl_int, pl_nil, pl_non, pl_rnil, pl_bl, sl_tupE, sl_rolE, keep_ref, keep_tup, keep_rol, tp_int, tp_tup, tp_rol, tp_str, tp_bl, tp_non, tp_ref, oFd, oMd, oPw, oShl, oLt, oLe, oGt, oGe, op_in, op_cp, wipe_nil, wipe_cons, mset_same, true_and, and_true, isN_int, ex_lstF, ex_repF, ex_lgF1, ex_lgF2, ex_tupRg1, ex_tupRg2, ex_frz, ex_slF, ex_slM, sl_tupF, sl_rolF, op_iiF, op_ssF, op_ttF, op_rrF, op_rrM, op_mmF, op_repF, li_rol, li_ref, bl_listF, bl_allF, bl_anyF, asT_some, asJ_some, op_eqBf, op_eqBt, isN_non, Bool.not_true, Bool.not_false, rep2, hM2, at_40, at_41]
      refine ⟨⟨by decide, by decide, by decide⟩, ite3_by (fun hx => ?_) (fun hx => ?_)⟩
      · refine ite3_by (fun hy => ?_) (fun hy => ?_)
        · rw [st_seq, st_asg]
          simp only [ex_c, ex_var, ex_op, ex_un, ex_b, ex_and, ex_or, ex_not, ex_andV, ex_orV, ex_notV, ex_if, ex_chain, ex_nil, ex_cons, ex_tup, ex_lst, ex_call, ex_callP, ex_cb, ex_bm, ex_rep, ex_sl, ex_noPart, ex_part, ex_yes, it_items, it_rng1, it_rng2, tg_name, tg_sub, tg_tup, tg_cons, tg_nil, gs_0, gs_s, ss_0, ss_s, op_ii, op_ss, op_tt, op_mm, op_sb, op_ng, op_iNf, op_iNt, op_lle, op_ixT, op_ixR, op_ixL, op_putE, op_appE, it_tupE, it_rolE, it_refE, lstOf_l, exL, asS_some, asI_int, asB_bl, asL_some, asN_some, ite3_t, ite3_f, bl_1, bl_lenT, bl_lenR, bl_lenL, bl_lenS, bl_tuple, bl_list, bl_abs, bl_intI, bl_intB, bl_max, bl_min, op_eqSf, op_eqSt, op_eqIf, op_eqIt, op_eqTf, op_eqTt, op_eqRf, op_eqRt, op_eqNf, op_eqNt, eqD_int, eqD_nil, pl_int, pl_nil, pl_non, pl_rnil, pl_bl, sl_tupE, sl_rolE, keep_ref, keep_tup, keep_rol, tp_int, tp_tup, tp_rol, tp_str, tp_bl, tp_non, tp_ref, oFd, oMd, oPw, oShl, oLt, oLe, oGt, oGe, op_in, op_cp, wipe_nil, wipe_cons, mset_same, true_and, and_true, isN_int, ex_lstF, ex_repF, ex_lgF1, ex_lgF2, ex_tupRg1, ex_tupRg2, ex_frz, ex_slF, ex_slM, sl_tupF, sl_rolF, op_iiF, op_ssF, op_ttF, op_rrF, op_rrM, op_mmF, op_repF, li_rol, li_ref, bl_listF, bl_allF, bl_anyF, asT_some, asJ_some, op_eqBf, op_eqBt, isN_non, Bool.not_true, Bool.not_false, rep2, hM2, at_42, ix_42, set_42]
          refine ⟨fo _, ?_⟩
          try dsimp only
          rw [st_ret]
          simp only [ex_c, ex_var, ex_op, ex_un, ex_b, ex_and, ex_or, ex_not, ex_andV, ex_orV, ex_notV, ex_if, ex_chain, ex_nil, ex_cons, ex_tup, ex_lst, ex_call, ex_callP, ex_cb, ex_bm, ex_rep, ex_sl, ex_noPart, ex_part, ex_yes, it_items, it_rng1, it_rng2, tg_name, tg_sub, tg_tup, tg_cons, tg_nil, gs_0, gs_s, ss_0, ss_s, op_ii, op_ss, op_tt, op_mm, op_sb, op_ng, op_iNf, op_iNt, op_lle, op_ixT, op_ixR, op_ixL, op_putE, op_appE, it_tupE, it_rolE, it_refE, lstOf_l, exL, asS_some, asI_int, asB_bl, asL_some, asN_some, ite3_t, ite3_f, bl_1, bl_lenT, bl_lenR, bl_lenL, bl_lenS, bl_tuple, bl_list, bl_abs, bl_intI, bl_intB, bl_max, bl_min, op_eqSf, op_eqSt, op_eqIf, op_eqIt, op_eqTf, op_eqTt, op_eqRf, op_eqRt, op_eqNf, op_eqNt, eqD_int, eqD_nil, pl_int, pl_nil, pl_non, pl_rnil, pl_bl, sl_tupE, sl_rolE, keep_ref, keep_tup, keep_rol, tp_int, tp_tup, tp_rol, tp_str, tp_bl, tp_non, tp_ref, oFd, oMd, oPw, oShl, oLt, oLe, oGt, oGe, op_in, op_cp, wipe_nil, wipe_cons, mset_same, true_and, and_true, isN_int, ex_lstF, ex_repF, ex_lgF1, ex_lgF2, ex_tupRg1, ex_tupRg2, ex_frz, ex_slF, ex_slM, sl_tupF, sl_rolF, op_iiF, op_ssF, op_ttF, op_rrF, op_rrM, op_mmF, op_repF, li_rol, li_ref, bl_listF, bl_allF, bl_anyF, asT_some, asJ_some, op_eqBf, op_eqBt, isN_non, Bool.not_true, Bool.not_false, rep2]
          exact ⟨hn0, q _ _ (md_in h0).1 (md_in h0).2 ⟨cs, i + 1, _, k + 1, by omega, mset_same⟩ (o2.trans Only.refl.set)⟩
        · rw [st_next]
          exact fin _ _
      · rw [st_next]
        exact fin _ _
    rw [st_seq, st_if]
    simp only [ex_c, ex_var, ex_op, ex_un, ex_b, ex_and, ex_or, ex_not, ex_andV, ex_orV, ex_notV, ex_if, ex_chain, ex_nil, ex_cons, ex_tup, ex_lst, ex_call, ex_callP, ex_cb, ex_bm, ex_rep, ex_sl, ex_noPart, ex_part, ex_yes, it_items, it_rng1, it_rng2, tg_name, tg_sub, tg_tup, tg_cons, tg_nil, gs_0, gs_s, ss_0, ss_s, op_ii, op_ss, op_tt, op_mm, op_sb, op_ng, op_iNf, op_iNt, op_lle, op_ixT, op_ixR, op_ixL, op_putE, op_appE, it_tupE, it_rolE, it_refE, lstOf_l, exL, asS_some, asI_int, asB_bl, asL_some, asN_some, ite3_t, ite3_f, bl_1, bl_lenT, bl_lenR, bl_lenL, bl_lenS, bl_tuple, bl_list, bl_abs, bl_intI, bl_intB, bl_max, bl_min, op_eqSf, op_eqSt, op_eqIf, op_eqIt, op_eqTf, op_eqTt, op_eqRf, op_eqRt, op_eqNf, op_eqNt, eqD_int, eqD_nil, pl_int, pl_nil, pl_non, pl_rnil, pl_bl, sl_tupE, sl_rolE, keep_ref, keep_tup, keep_rol, tp_int, tp_tup, tp_rol, tp_str, tp_bl, tp_non, tp_ref, oFd, oMd, oPw, oShl, oLt, oLe, oGt, oGe, op_in, op_cp, wipe_nil, wipe_cons, mset_same, true_and, and_true, isN_int, ex_lstF, ex_repF, ex_lgF1, ex_lgF2, ex_tupRg1, ex_tupRg2, ex_frz, ex_slF, ex_slM, sl_tupF, sl_rolF, op_iiF, op_ssF, op_ttF, op_rrF, op_rrM, op_mmF, op_repF, li_rol, li_ref, bl_listF, bl_allF, bl_anyF, asT_some, asJ_some, op_eqBf, op_eqBt, isN_non, Bool.not_true, Bool.not_false, rep2, hM1, at_40, op_eqLt, tp_rol, eqD_rnil, pl_rnil]
    refine ⟨Nat.zero_le _, pl_ints, ite3_by (fun hc => ?_) (fun hc => ?_)⟩
    · rw [st_set]
      simp only [ex_c, ex_var, ex_op, ex_un, ex_b, ex_and, ex_or, ex_not, ex_andV, ex_orV, ex_notV, ex_if, ex_chain, ex_nil, ex_cons, ex_tup, ex_lst, ex_call, ex_callP, ex_cb, ex_bm, ex_rep, ex_sl, ex_noPart, ex_part, ex_yes, it_items, it_rng1, it_rng2, tg_name, tg_sub, tg_tup, tg_cons, tg_nil, gs_0, gs_s, ss_0, ss_s, op_ii, op_ss, op_tt, op_mm, op_sb, op_ng, op_iNf, op_iNt, op_lle, op_ixT, op_ixR, op_ixL, op_putE, op_appE, it_tupE, it_rolE, it_refE, lstOf_l, exL, asS_some, asI_int, asB_bl, asL_some, asN_some, ite3_t, ite3_f, bl_1, bl_lenT, bl_lenR, bl_lenL, bl_lenS, bl_tuple, bl_list, bl_abs, bl_intI, bl_intB, bl_max, bl_min, op_eqSf, op_eqSt, op_eqIf, op_eqIt, op_eqTf, op_eqTt, op_eqRf, op_eqRt, op_eqNf, op_eqNt, eqD_int, eqD_nil, pl_int, pl_nil, pl_non, pl_rnil, pl_bl, sl_tupE, sl_rolE, keep_ref, keep_tup, keep_rol, tp_int, tp_tup, tp_rol, tp_str, tp_bl, tp_non, tp_ref, oFd, oMd, oPw, oShl, oLt, oLe, oGt, oGe, op_in, op_cp, wipe_nil, wipe_cons, mset_same, true_and, and_true, isN_int, ex_lstF, ex_repF, ex_lgF1, ex_lgF2, ex_tupRg1, ex_tupRg2, ex_frz, ex_slF, ex_slM, sl_tupF, sl_rolF, op_iiF, op_ssF, op_ttF, op_rrF, op_rrM, op_mmF, op_repF, li_rol, li_ref, bl_listF, bl_allF, bl_anyF, asT_some, asJ_some, op_eqBf, op_eqBt, isN_non, Bool.not_true, Bool.not_false, rep2, hM1, at_40, at_41]
      have hl : 0 < cs.length := by cases cs with
        | nil => simp at hc
        | cons x y => exact Nat.succ_pos _
      rw [List.length_map]
      have hm := md_in (x := (i : Int)) (n := (cs.length : Int)) (by omega)
      obtain ⟨j, hj⟩ : ∃ j : Nat, (i : Int).fmod (cs.length : Int) = j := ⟨((i : Int).fmod (cs.length : Int)).toNat, by omega⟩
      rw [hj] at hm ⊢
      have hjl : j < cs.length := by omega
      have hat : atI (cs.map D.int) (j : Int) = some (.int cs[j]) := atI_nat (by rw [List.getElem?_map, List.getElem?_eq_getElem hjl]; rfl)
      rw [hat]
      exact ⟨by omega, rest _⟩
    · rw [st_next]
      exact rest _
end L3
set_option Elab.async false
set_option linter.all false
set_option maxRecDepth 100000
set_option maxHeartbeats 4000000
namespace L3
open PySem PySem.Spec PyProof.Rows L2
def end7R (sp__law_draw : Sp3) : XK3 → TS3 := fun E =>
  (wSeq (wIfS (wB (wOp oLt (wCall sp__law_draw E (wCons (wVar 0) (wCons (wC (.int 5)) wNil))) (wC (.int 2)))) (wRet (wC .non)) wNext)
  (wSeq (wIfS (wB (wOp oLt (wVar 1) (wC (.int 4)))) (wRet (wCB bMax (wCons (wUn oNeg (wC (.int 12))) (wCons (wCB bMin (wCons (wC (.int 12)) (wCons (wOp oAddF (wVar 2) (wOp oIx (wLstF (wCons (wC (.int 0)) (wCons (wC (.int 0)) (wCons (wC (.int 1)) (wCons (wCall sp__law_draw E (wCons (wVar 0) (wCons (wC (.int 7)) wNil))) wNil))))) (wCall sp__law_draw E (wCons (wVar 0) (wCons (wC (.int 4)) wNil))))) wNil))) wNil)))) wNext)
  (wRet (wOp oIx (wLstF (wCons (wOp oSub (wCall sp__law_draw E (wCons (wVar 0) (wCons (wC (.int 25)) wNil))) (wC (.int 12))) (wCons (wOp oSub (wCall sp__law_draw E (wCons (wVar 0) (wCons (wC (.int 4)) wNil))) (wC (.int 1))) wNil))) (wOp oMd (wVar 1) (wC (.int 2)))))))
def SEnd7 (sp : Sp3) : Prop := ∀ (a : Addr) (b : Nat) (way gap : Int) (M : Mp) (Q : VK3) (E : XK3), Fd b M a → b < 2 ^ 29 → (∀ e M', EdB 13 e → Fd (b + 3) M' a → Only a M M' → Q (oD e) M') → sp [.ref a, .int way, .int gap] M Q E
theorem edb {i : Int} (h : -12 ≤ i) (h1 : i ≤ 12) : EdB 13 (some i) := fun j hj => by cases hj; omega
theorem s_end7 {sd : Sp3} (kd : SDraw7 sd) : SEnd7 (spOf 3 3 (end7R sd)) := by
  refine fun a b way gap M Q E f hb q => ⟨rfl, ?_⟩
  show end7R sd E _ [some (.ref a), some (.int way), some (.int gap)] M
  unfold end7R
  rw [st_seq, st_if]
  simp only [ex_c, ex_var, ex_op, ex_un, ex_b, ex_and, ex_or, ex_not, ex_andV, ex_orV, ex_notV, ex_if, ex_chain, ex_nil, ex_cons, ex_tup, ex_lst, ex_call, ex_callP, ex_cb, ex_bm, ex_rep, ex_sl, ex_noPart, ex_part, ex_yes, it_items, it_rng1, it_rng2, tg_name, tg_sub, tg_tup, tg_cons, tg_nil, gs_0, gs_s, ss_0, ss_s, op_ii, op_ss, op_tt, op_mm, op_sb, op_ng, op_iNf, op_iNt, op_lle, op_ixT, op_ixR, op_ixL, op_putE, op_appE, it_tupE, it_rolE, it_refE, lstOf_l, exL, asS_some, asI_int, asB_bl, asL_some, asN_some, ite3_t, ite3_f, bl_1, bl_lenT, bl_lenR, bl_lenL, bl_lenS, bl_tuple, bl_list, bl_abs, bl_intI, bl_intB, bl_max, bl_min, op_eqSf, op_eqSt, op_eqIf, op_eqIt, op_eqTf, op_eqTt, op_eqRf, op_eqRt, op_eqNf, op_eqNt, eqD_int, eqD_nil, pl_int, pl_nil, pl_non, pl_rnil, pl_bl, sl_tupE, sl_rolE, keep_ref, keep_tup, keep_rol, tp_int, tp_tup, tp_rol, tp_str, tp_bl, tp_non, tp_ref, oFd, oMd, oPw, oShl, oLt, oLe, oGt, oGe, op_in, op_cp, wipe_nil, wipe_cons, mset_same, true_and, and_true, isN_int, ex_lstF, ex_repF, ex_lgF1, ex_lgF2, ex_tupRg1, ex_tupRg2, ex_frz, ex_slF, ex_slM, sl_tupF, sl_rolF, op_iiF, op_ssF, op_ttF, op_rrF, op_rrM, op_mmF, op_repF, li_rol, li_ref, bl_listF, bl_allF, bl_anyF, asT_some, asJ_some, op_eqBf, op_eqBt, isN_non, Bool.not_true, Bool.not_false, rep2]
  refine kd _ b _ _ _ _ f (by omega) (by decide) (by decide) fun r M1 r0 r1 f1 o1 => ?_
  (try simp only [ex_c, ex_var, ex_op, ex_un, ex_b, ex_and, ex_or, ex_not, ex_andV, ex_orV, ex_notV, ex_if, ex_chain, ex_nil, ex_cons, ex_tup, ex_lst, ex_call, ex_callP, ex_cb, ex_bm, ex_rep, ex_sl, ex_noPart, ex_part, ex_yes, it_items, it_rng1, it_rng2, tg_name, tg_sub, tg_tup, tg_cons, tg_nil, gs_0, gs_s, ss_0, ss_s, op_ii, op_ss, op_tt, op_mm, op_sb, op_ng, op_iNf, op_iNt, op_lle, op_ixT, op_ixR, op_ixL, op_putE, op_appE, it_tupE, it_rolE, it_refE, lstOf_l, exL, asS_some, asI_int, asB_bl, asL_some, asN_some, ite3_t, ite3_f, bl_1, bl_lenT, bl_lenR, bl_lenL, bl_lenS, bl_tuple, bl_list, bl_abs, bl_intI, bl_intB, bl_max, bl_min, op_eqSf, op_eqSt, op_eqIf, op_eqIt, op_eqTf, op_eqTt, op_eqRf, op_eqRt, op_eqNf, op_eqNt, eqD_int, eqD_nil, pl_int, pl_nil, pl_non, pl_rnil, pl_bl, sl_tupE, sl_rolE, keep_ref, keep_tup, keep_rol, tp_int, tp_tup, tp_rol, tp_str, tp_bl, tp_non, tp_ref, oFd, oMd, oPw, oShl, oLt, oLe, oGt, oGe, op_in, op_cp, wipe_nil, wipe_cons, mset_same, true_and, and_true, isN_int, ex_lstF, ex_repF, ex_lgF1, ex_lgF2, ex_tupRg1, ex_tupRg2, ex_frz, ex_slF, ex_slM, sl_tupF, sl_rolF, op_iiF, op_ssF, op_ttF, op_rrF, op_rrM, op_mmF, op_repF, li_rol, li_ref, bl_listF, bl_allF, bl_anyF, asT_some, asJ_some, op_eqBf, op_eqBt, isN_non, Bool.not_true, Bool.not_false, rep2])
  refine ite3_by (fun h => ?_) (fun h => ?_)
  · rw [st_ret]
    simp only [ex_c, ex_var, ex_op, ex_un, ex_b, ex_and, ex_or, ex_not, ex_andV, ex_orV, ex_notV, ex_if, ex_chain, ex_nil, ex_cons, ex_tup, ex_lst, ex_call, ex_callP, ex_cb, ex_bm, ex_rep, ex_sl, ex_noPart, ex_part, ex_yes, it_items, it_rng1, it_rng2, tg_name, tg_sub, tg_tup, tg_cons, tg_nil, gs_0, gs_s, ss_0, ss_s, op_ii, op_ss, op_tt, op_mm, op_sb, op_ng, op_iNf, op_iNt, op_lle, op_ixT, op_ixR, op_ixL, op_putE, op_appE, it_tupE, it_rolE, it_refE, lstOf_l, exL, asS_some, asI_int, asB_bl, asL_some, asN_some, ite3_t, ite3_f, bl_1, bl_lenT, bl_lenR, bl_lenL, bl_lenS, bl_tuple, bl_list, bl_abs, bl_intI, bl_intB, bl_max, bl_min, op_eqSf, op_eqSt, op_eqIf, op_eqIt, op_eqTf, op_eqTt, op_eqRf, op_eqRt, op_eqNf, op_eqNt, eqD_int, eqD_nil, pl_int, pl_nil, pl_non, pl_rnil, pl_bl, sl_tupE, sl_rolE, keep_ref, keep_tup, keep_rol, tp_int, tp_tup, tp_rol, tp_str, tp_bl, tp_non, tp_ref, oFd, oMd, oPw, oShl, oLt, oLe, oGt, oGe, op_in, op_cp, wipe_nil, wipe_cons, mset_same, true_and, and_true, isN_int, ex_lstF, ex_repF, ex_lgF1, ex_lgF2, ex_tupRg1, ex_tupRg2, ex_frz, ex_slF, ex_slM, sl_tupF, sl_rolF, op_iiF, op_ssF, op_ttF, op_rrF, op_rrM, op_mmF, op_repF, li_rol, li_ref, bl_listF, bl_allF, bl_anyF, asT_some, asJ_some, op_eqBf, op_eqBt, isN_non, Bool.not_true, Bool.not_false, rep2]
    exact q none _ (fun j hj => nomatch hj) (f1.mono (by omega)) o1
  rw [st_next]
  try dsimp only
  rw [st_seq, st_if]
  simp only [ex_c, ex_var, ex_op, ex_un, ex_b, ex_and, ex_or, ex_not, ex_andV, ex_orV, ex_notV, ex_if, ex_chain, ex_nil, ex_cons, ex_tup, ex_lst, ex_call, ex_callP, ex_cb, ex_bm, ex_rep, ex_sl, ex_noPart, ex_part, ex_yes, it_items, it_rng1, it_rng2, tg_name, tg_sub, tg_tup, tg_cons, tg_nil, gs_0, gs_s, ss_0, ss_s, op_ii, op_ss, op_tt, op_mm, op_sb, op_ng, op_iNf, op_iNt, op_lle, op_ixT, op_ixR, op_ixL, op_putE, op_appE, it_tupE, it_rolE, it_refE, lstOf_l, exL, asS_some, asI_int, asB_bl, asL_some, asN_some, ite3_t, ite3_f, bl_1, bl_lenT, bl_lenR, bl_lenL, bl_lenS, bl_tuple, bl_list, bl_abs, bl_intI, bl_intB, bl_max, bl_min, op_eqSf, op_eqSt, op_eqIf, op_eqIt, op_eqTf, op_eqTt, op_eqRf, op_eqRt, op_eqNf, op_eqNt, eqD_int, eqD_nil, pl_int, pl_nil, pl_non, pl_rnil, pl_bl, sl_tupE, sl_rolE, keep_ref, keep_tup, keep_rol, tp_int, tp_tup, tp_rol, tp_str, tp_bl, tp_non, tp_ref, oFd, oMd, oPw, oShl, oLt, oLe, oGt, oGe, op_in, op_cp, wipe_nil, wipe_cons, mset_same, true_and, and_true, isN_int, ex_lstF, ex_repF, ex_lgF1, ex_lgF2, ex_tupRg1, ex_tupRg2, ex_frz, ex_slF, ex_slM, sl_tupF, sl_rolF, op_iiF, op_ssF, op_ttF, op_rrF, op_rrM, op_mmF, op_repF, li_rol, li_ref, bl_listF, bl_allF, bl_anyF, asT_some, asJ_some, op_eqBf, op_eqBt, isN_non, Bool.not_true, Bool.not_false, rep2]
  refine ite3_by (fun h => ?_) (fun h => ?_)
  · rw [st_ret]
    simp only [ex_c, ex_var, ex_op, ex_un, ex_b, ex_and, ex_or, ex_not, ex_andV, ex_orV, ex_notV, ex_if, ex_chain, ex_nil, ex_cons, ex_tup, ex_lst, ex_call, ex_callP, ex_cb, ex_bm, ex_rep, ex_sl, ex_noPart, ex_part, ex_yes, it_items, it_rng1, it_rng2, tg_name, tg_sub, tg_tup, tg_cons, tg_nil, gs_0, gs_s, ss_0, ss_s, op_ii, op_ss, op_tt, op_mm, op_sb, op_ng, op_iNf, op_iNt, op_lle, op_ixT, op_ixR, op_ixL, op_putE, op_appE, it_tupE, it_rolE, it_refE, lstOf_l, exL, asS_some, asI_int, asB_bl, asL_some, asN_some, ite3_t, ite3_f, bl_1, bl_lenT, bl_lenR, bl_lenL, bl_lenS, bl_tuple, bl_list, bl_abs, bl_intI, bl_intB, bl_max, bl_min, op_eqSf, op_eqSt, op_eqIf, op_eqIt, op_eqTf, op_eqTt, op_eqRf, op_eqRt, op_eqNf, op_eqNt, eqD_int, eqD_nil, pl_int, pl_nil, pl_non, pl_rnil, pl_bl, sl_tupE, sl_rolE, keep_ref, keep_tup, keep_rol, tp_int, tp_tup, tp_rol, tp_str, tp_bl, tp_non, tp_ref, oFd, oMd, oPw, oShl, oLt, oLe, oGt, oGe, op_in, op_cp, wipe_nil, wipe_cons, mset_same, true_and, and_true, isN_int, ex_lstF, ex_repF, ex_lgF1, ex_lgF2, ex_tupRg1, ex_tupRg2, ex_frz, ex_slF, ex_slM, sl_tupF, sl_rolF, op_iiF, op_ssF, op_ttF, op_rrF, op_rrM, op_mmF, op_repF, li_rol, li_ref, bl_listF, bl_allF, bl_anyF, asT_some, asJ_some, op_eqBf, op_eqBt, isN_non, Bool.not_true, Bool.not_false, rep2]
    refine kd _ (b + 1) _ _ _ _ f1 (by omega) (by decide) (by decide) fun x M2 x0 x1 f2 o2 => ?_
    (try simp only [ex_c, ex_var, ex_op, ex_un, ex_b, ex_and, ex_or, ex_not, ex_andV, ex_orV, ex_notV, ex_if, ex_chain, ex_nil, ex_cons, ex_tup, ex_lst, ex_call, ex_callP, ex_cb, ex_bm, ex_rep, ex_sl, ex_noPart, ex_part, ex_yes, it_items, it_rng1, it_rng2, tg_name, tg_sub, tg_tup, tg_cons, tg_nil, gs_0, gs_s, ss_0, ss_s, op_ii, op_ss, op_tt, op_mm, op_sb, op_ng, op_iNf, op_iNt, op_lle, op_ixT, op_ixR, op_ixL, op_putE, op_appE, it_tupE, it_rolE, it_refE, lstOf_l, exL, asS_some, asI_int, asB_bl, asL_some, asN_some, ite3_t, ite3_f, bl_1, bl_lenT, bl_lenR, bl_lenL, bl_lenS, bl_tuple, bl_list, bl_abs, bl_intI, bl_intB, bl_max, bl_min, op_eqSf, op_eqSt, op_eqIf, op_eqIt, op_eqTf, op_eqTt, op_eqRf, op_eqRt, op_eqNf, op_eqNt, eqD_int, eqD_nil, pl_int, pl_nil, pl_non, pl_rnil, pl_bl, sl_tupE, sl_rolE, keep_ref, keep_tup, keep_rol, tp_int, tp_tup, tp_rol, tp_str, tp_bl, tp_non, tp_ref, oFd, oMd, oPw, oShl, oLt, oLe, oGt, oGe, op_in, op_cp, wipe_nil, wipe_cons, mset_same, true_and, and_true, isN_int, ex_lstF, ex_repF, ex_lgF1, ex_lgF2, ex_tupRg1, ex_tupRg2, ex_frz, ex_slF, ex_slM, sl_tupF, sl_rolF, op_iiF, op_ssF, op_ttF, op_rrF, op_rrM, op_mmF, op_repF, li_rol, li_ref, bl_listF, bl_allF, bl_anyF, asT_some, asJ_some, op_eqBf, op_eqBt, isN_non, Bool.not_true, Bool.not_false, rep2])
    refine ⟨by show 4 ≤ sizeLine; decide, kd _ (b + 2) _ _ _ _ f2 (by omega) (by decide) (by decide) fun y M3 y0 y1 f3 o3 => ?_⟩
    have hat : ∃ z : Int, atI [D.int 0, D.int 0, D.int 1, D.int x] y = some (.int z) := by
      have : y = 0 ∨ y = 1 ∨ y = 2 ∨ y = 3 := by omega
      rcases this with rfl | rfl | rfl | rfl <;> exact ⟨_, rfl⟩
    obtain ⟨z, hat⟩ := hat
    simp only [ex_c, ex_var, ex_op, ex_un, ex_b, ex_and, ex_or, ex_not, ex_andV, ex_orV, ex_notV, ex_if, ex_chain, ex_nil, ex_cons, ex_tup, ex_lst, ex_call, ex_callP, ex_cb, ex_bm, ex_rep, ex_sl, ex_noPart, ex_part, ex_yes, it_items, it_rng1, it_rng2, tg_name, tg_sub, tg_tup, tg_cons, tg_nil, gs_0, gs_s, ss_0, ss_s, op_ii, op_ss, op_tt, op_mm, op_sb, op_ng, op_iNf, op_iNt, op_lle, op_ixT, op_ixR, op_ixL, op_putE, op_appE, it_tupE, it_rolE, it_refE, lstOf_l, exL, asS_some, asI_int, asB_bl, asL_some, asN_some, ite3_t, ite3_f, bl_1, bl_lenT, bl_lenR, bl_lenL, bl_lenS, bl_tuple, bl_list, bl_abs, bl_intI, bl_intB, bl_max, bl_min, op_eqSf, op_eqSt, op_eqIf, op_eqIt, op_eqTf, op_eqTt, op_eqRf, op_eqRt, op_eqNf, op_eqNt, eqD_int, eqD_nil, pl_int, pl_nil, pl_non, pl_rnil, pl_bl, sl_tupE, sl_rolE, keep_ref, keep_tup, keep_rol, tp_int, tp_tup, tp_rol, tp_str, tp_bl, tp_non, tp_ref, oFd, oMd, oPw, oShl, oLt, oLe, oGt, oGe, op_in, op_cp, wipe_nil, wipe_cons, mset_same, true_and, and_true, isN_int, ex_lstF, ex_repF, ex_lgF1, ex_lgF2, ex_tupRg1, ex_tupRg2, ex_frz, ex_slF, ex_slM, sl_tupF, sl_rolF, op_iiF, op_ssF, op_ttF, op_rrF, op_rrM, op_mmF, op_repF, li_rol, li_ref, bl_listF, bl_allF, bl_anyF, asT_some, asJ_some, op_eqBf, op_eqBt, isN_non, Bool.not_true, Bool.not_false, rep2, hat]
    have key : ∀ u : Int, -12 ≤ (if (if u < 12 then u else 12) > -12 then (if u < 12 then u else 12) else -12 : Int) ∧ (if (if u < 12 then u else 12) > -12 then (if u < 12 then u else 12) else -12 : Int) ≤ 12 := fun u => by
      split <;> split at * <;> omega
    exact q (some _) _ (edb (key _).1 (key _).2) f3 ((o1.trans o2).trans o3)
  · rw [st_next]
    try dsimp only
    rw [st_ret]
    simp only [ex_c, ex_var, ex_op, ex_un, ex_b, ex_and, ex_or, ex_not, ex_andV, ex_orV, ex_notV, ex_if, ex_chain, ex_nil, ex_cons, ex_tup, ex_lst, ex_call, ex_callP, ex_cb, ex_bm, ex_rep, ex_sl, ex_noPart, ex_part, ex_yes, it_items, it_rng1, it_rng2, tg_name, tg_sub, tg_tup, tg_cons, tg_nil, gs_0, gs_s, ss_0, ss_s, op_ii, op_ss, op_tt, op_mm, op_sb, op_ng, op_iNf, op_iNt, op_lle, op_ixT, op_ixR, op_ixL, op_putE, op_appE, it_tupE, it_rolE, it_refE, lstOf_l, exL, asS_some, asI_int, asB_bl, asL_some, asN_some, ite3_t, ite3_f, bl_1, bl_lenT, bl_lenR, bl_lenL, bl_lenS, bl_tuple, bl_list, bl_abs, bl_intI, bl_intB, bl_max, bl_min, op_eqSf, op_eqSt, op_eqIf, op_eqIt, op_eqTf, op_eqTt, op_eqRf, op_eqRt, op_eqNf, op_eqNt, eqD_int, eqD_nil, pl_int, pl_nil, pl_non, pl_rnil, pl_bl, sl_tupE, sl_rolE, keep_ref, keep_tup, keep_rol, tp_int, tp_tup, tp_rol, tp_str, tp_bl, tp_non, tp_ref, oFd, oMd, oPw, oShl, oLt, oLe, oGt, oGe, op_in, op_cp, wipe_nil, wipe_cons, mset_same, true_and, and_true, isN_int, ex_lstF, ex_repF, ex_lgF1, ex_lgF2, ex_tupRg1, ex_tupRg2, ex_frz, ex_slF, ex_slM, sl_tupF, sl_rolF, op_iiF, op_ssF, op_ttF, op_rrF, op_rrM, op_mmF, op_repF, li_rol, li_ref, bl_listF, bl_allF, bl_anyF, asT_some, asJ_some, op_eqBf, op_eqBt, isN_non, Bool.not_true, Bool.not_false, rep2]
    refine kd _ (b + 1) _ _ _ _ f1 (by omega) (by decide) (by decide) fun x M2 x0 x1 f2 o2 => ?_
    (try simp only [ex_c, ex_var, ex_op, ex_un, ex_b, ex_and, ex_or, ex_not, ex_andV, ex_orV, ex_notV, ex_if, ex_chain, ex_nil, ex_cons, ex_tup, ex_lst, ex_call, ex_callP, ex_cb, ex_bm, ex_rep, ex_sl, ex_noPart, ex_part, ex_yes, it_items, it_rng1, it_rng2, tg_name, tg_sub, tg_tup, tg_cons, tg_nil, gs_0, gs_s, ss_0, ss_s, op_ii, op_ss, op_tt, op_mm, op_sb, op_ng, op_iNf, op_iNt, op_lle, op_ixT, op_ixR, op_ixL, op_putE, op_appE, it_tupE, it_rolE, it_refE, lstOf_l, exL, asS_some, asI_int, asB_bl, asL_some, asN_some, ite3_t, ite3_f, bl_1, bl_lenT, bl_lenR, bl_lenL, bl_lenS, bl_tuple, bl_list, bl_abs, bl_intI, bl_intB, bl_max, bl_min, op_eqSf, op_eqSt, op_eqIf, op_eqIt, op_eqTf, op_eqTt, op_eqRf, op_eqRt, op_eqNf, op_eqNt, eqD_int, eqD_nil, pl_int, pl_nil, pl_non, pl_rnil, pl_bl, sl_tupE, sl_rolE, keep_ref, keep_tup, keep_rol, tp_int, tp_tup, tp_rol, tp_str, tp_bl, tp_non, tp_ref, oFd, oMd, oPw, oShl, oLt, oLe, oGt, oGe, op_in, op_cp, wipe_nil, wipe_cons, mset_same, true_and, and_true, isN_int, ex_lstF, ex_repF, ex_lgF1, ex_lgF2, ex_tupRg1, ex_tupRg2, ex_frz, ex_slF, ex_slM, sl_tupF, sl_rolF, op_iiF, op_ssF, op_ttF, op_rrF, op_rrM, op_mmF, op_repF, li_rol, li_ref, bl_listF, bl_allF, bl_anyF, asT_some, asJ_some, op_eqBf, op_eqBt, isN_non, Bool.not_true, Bool.not_false, rep2])
    refine kd _ (b + 2) _ _ _ _ f2 (by omega) (by decide) (by decide) fun y M3 y0 y1 f3 o3 => ?_
    (try simp only [ex_c, ex_var, ex_op, ex_un, ex_b, ex_and, ex_or, ex_not, ex_andV, ex_orV, ex_notV, ex_if, ex_chain, ex_nil, ex_cons, ex_tup, ex_lst, ex_call, ex_callP, ex_cb, ex_bm, ex_rep, ex_sl, ex_noPart, ex_part, ex_yes, it_items, it_rng1, it_rng2, tg_name, tg_sub, tg_tup, tg_cons, tg_nil, gs_0, gs_s, ss_0, ss_s, op_ii, op_ss, op_tt, op_mm, op_sb, op_ng, op_iNf, op_iNt, op_lle, op_ixT, op_ixR, op_ixL, op_putE, op_appE, it_tupE, it_rolE, it_refE, lstOf_l, exL, asS_some, asI_int, asB_bl, asL_some, asN_some, ite3_t, ite3_f, bl_1, bl_lenT, bl_lenR, bl_lenL, bl_lenS, bl_tuple, bl_list, bl_abs, bl_intI, bl_intB, bl_max, bl_min, op_eqSf, op_eqSt, op_eqIf, op_eqIt, op_eqTf, op_eqTt, op_eqRf, op_eqRt, op_eqNf, op_eqNt, eqD_int, eqD_nil, pl_int, pl_nil, pl_non, pl_rnil, pl_bl, sl_tupE, sl_rolE, keep_ref, keep_tup, keep_rol, tp_int, tp_tup, tp_rol, tp_str, tp_bl, tp_non, tp_ref, oFd, oMd, oPw, oShl, oLt, oLe, oGt, oGe, op_in, op_cp, wipe_nil, wipe_cons, mset_same, true_and, and_true, isN_int, ex_lstF, ex_repF, ex_lgF1, ex_lgF2, ex_tupRg1, ex_tupRg2, ex_frz, ex_slF, ex_slM, sl_tupF, sl_rolF, op_iiF, op_ssF, op_ttF, op_rrF, op_rrM, op_mmF, op_repF, li_rol, li_ref, bl_listF, bl_allF, bl_anyF, asT_some, asJ_some, op_eqBf, op_eqBt, isN_non, Bool.not_true, Bool.not_false, rep2])
    have hm := md_in (x := way) (n := 2) (by decide)
    have hat : ∃ z : Int, atI [D.int (x - 12), D.int (y - 1)] (way.fmod 2) = some (.int z) ∧ -12 ≤ z ∧ z ≤ 12 := by
      have : way.fmod 2 = 0 ∨ way.fmod 2 = 1 := by omega
      rcases this with e | e <;> rw [e]
      · exact ⟨x - 12, rfl, by omega, by omega⟩
      · exact ⟨y - 1, rfl, by omega, by omega⟩
    obtain ⟨z, hat, z0, z1⟩ := hat
    rw [hat]
    exact ⟨by show 2 ≤ sizeLine; decide, by decide, q (some z) _ (edb z0 z1) f3 ((o1.trans o2).trans o3)⟩
def table7R (sp__law_draw : Sp3) (sp__law_end : Sp3) : XK3 → TS3 := fun E =>
  (wSeq (wSet 2 (wCall sp__law_draw E (wCons (wVar 0) (wCons (wC (.int 6)) wNil))))
  (wSeq (wSet 3 (wOp oAddF (wLcF (wRng1 (wCons (wOp oSub (wVar 1) (wC (.int 1))) wNil)) (wgName 4) wYes (wOp oSub (wCall sp__law_draw X0 (wCons (wVar 0) (wCons (wC (.int 9)) wNil))) (wC (.int 4))) [4]) (wLstF (wCons (wC (.int 0)) wNil))))
  (wSeq (wSet 5 (wLst wNil))
  (wSeq (wFor (wRng1 (wCons (wVar 1) wNil)) (wgName 4) (wSeq (wSet 6 (wLc (wRng1 (wCons (wVar 1) wNil)) (wgName 7) wYes (wCall sp__law_end X0 (wCons (wVar 0) (wCons (wVar 2) (wCons (wOp oSub (wOp oIx (wVar 3) (wVar 4)) (wOp oIx (wVar 3) (wVar 7))) wNil)))) [7]))
  (wSeq (wAsg (wOp oIx (wLstF (wCons (wC .non) (wCons (wC (.int 0)) (wCons (wC .non) (wCons (wC (.int 3)) (wCons (wC (.int 0)) (wCons (wC .non) (wCons (wC (.int 12)) (wCons (wOp oMulF (wUn oNeg (wC (.int 1))) (wCB bInt (wCons (wOp (oEq false) (wVar 2) (wC (.int 5))) wNil))) wNil))))))))) (wCall sp__law_draw E (wCons (wVar 0) (wCons (wC (.int 8)) wNil)))) (wgSub (wVar 6) (wVar 4) oPut))
  (wDrop (wBM oApp (wVar 5) (wCons (wCB bTuple (wCons (wVar 6) wNil)) wNil))))))
  (wRet (wCB bTuple (wCons (wVar 5) wNil)))))))
def STab7 (sp : Sp3) : Prop := ∀ (a : Addr) (b n : Nat) (M : Mp) (Q : VK3) (E : XK3), Fd b M a → b < 2 ^ 28 → 0 < n → n ≤ 7 → (∀ T M', TabB 13 n T → Fd (b + 200) M' a → Gr a M M' → Q (tabD T) M') → sp [.ref a, .int n] M Q E
theorem Gr.none {a b : Addr} {M M' : Mp} (x : Gr a M M') (h : M' b = none) (hb : b ≠ a) : M b = none := by
  cases e : M b with
  | none => rfl
  | some o => rw [x b o hb e] at h; cases h
theorem s_tab7 {sd se : Sp3} (kd : SDraw7 sd) (ke : SEnd7 se) : STab7 (spOf 2 8 (table7R sd se)) := by
  refine fun a b n Ma Q E f hb hn hn1 q => ⟨rfl, ?_⟩
  show table7R sd se E _ [some (.ref a), some (.int n), none, none, none, none, none, none] Ma
  unfold table7R
  have big : (1000 : Nat) ≤ sizeLine := by decide
  rw [st_seq, st_set]
  simp only [ex_c, ex_var, ex_op, ex_un, ex_b, ex_and, ex_or, ex_not, ex_andV, ex_orV, ex_notV, ex_if, ex_chain, ex_nil, ex_cons, ex_tup, ex_lst, ex_call, ex_callP, ex_cb, ex_bm, ex_rep, ex_sl, ex_noPart, ex_part, ex_yes, it_items, it_rng1, it_rng2, tg_name, tg_sub, tg_tup, tg_cons, tg_nil, gs_0, gs_s, ss_0, ss_s, op_ii, op_ss, op_tt, op_mm, op_sb, op_ng, op_iNf, op_iNt, op_lle, op_ixT, op_ixR, op_ixL, op_putE, op_appE, it_tupE, it_rolE, it_refE, lstOf_l, exL, asS_some, asI_int, asB_bl, asL_some, asN_some, ite3_t, ite3_f, bl_1, bl_lenT, bl_lenR, bl_lenL, bl_lenS, bl_tuple, bl_list, bl_abs, bl_intI, bl_intB, bl_max, bl_min, op_eqSf, op_eqSt, op_eqIf, op_eqIt, op_eqTf, op_eqTt, op_eqRf, op_eqRt, op_eqNf, op_eqNt, eqD_int, eqD_nil, pl_int, pl_nil, pl_non, pl_rnil, pl_bl, sl_tupE, sl_rolE, keep_ref, keep_tup, keep_rol, tp_int, tp_tup, tp_rol, tp_str, tp_bl, tp_non, tp_ref, oFd, oMd, oPw, oShl, oLt, oLe, oGt, oGe, op_in, op_cp, wipe_nil, wipe_cons, mset_same, true_and, and_true, isN_int, ex_lstF, ex_repF, ex_lgF1, ex_lgF2, ex_tupRg1, ex_tupRg2, ex_frz, ex_slF, ex_slM, sl_tupF, sl_rolF, op_iiF, op_ssF, op_ttF, op_rrF, op_rrM, op_mmF, op_repF, li_rol, li_ref, bl_listF, bl_allF, bl_anyF, asT_some, asJ_some, op_eqBf, op_eqBt, isN_non, Bool.not_true, Bool.not_false, rep2]
  refine kd _ b _ _ _ _ f (by omega) (by decide) (by decide) fun way M1 way0 way1 f1 o1 => ?_
  try dsimp only
  rw [st_seq, st_set]
  simp only [ex_c, ex_var, ex_op, ex_un, ex_b, ex_and, ex_or, ex_not, ex_andV, ex_orV, ex_notV, ex_if, ex_chain, ex_nil, ex_cons, ex_tup, ex_lst, ex_call, ex_callP, ex_cb, ex_bm, ex_rep, ex_sl, ex_noPart, ex_part, ex_yes, it_items, it_rng1, it_rng2, tg_name, tg_sub, tg_tup, tg_cons, tg_nil, gs_0, gs_s, ss_0, ss_s, op_ii, op_ss, op_tt, op_mm, op_sb, op_ng, op_iNf, op_iNt, op_lle, op_ixT, op_ixR, op_ixL, op_putE, op_appE, it_tupE, it_rolE, it_refE, lstOf_l, exL, asS_some, asI_int, asB_bl, asL_some, asN_some, ite3_t, ite3_f, bl_1, bl_lenT, bl_lenR, bl_lenL, bl_lenS, bl_tuple, bl_list, bl_abs, bl_intI, bl_intB, bl_max, bl_min, op_eqSf, op_eqSt, op_eqIf, op_eqIt, op_eqTf, op_eqTt, op_eqRf, op_eqRt, op_eqNf, op_eqNt, eqD_int, eqD_nil, pl_int, pl_nil, pl_non, pl_rnil, pl_bl, sl_tupE, sl_rolE, keep_ref, keep_tup, keep_rol, tp_int, tp_tup, tp_rol, tp_str, tp_bl, tp_non, tp_ref, oFd, oMd, oPw, oShl, oLt, oLe, oGt, oGe, op_in, op_cp, wipe_nil, wipe_cons, mset_same, true_and, and_true, isN_int, ex_lstF, ex_repF, ex_lgF1, ex_lgF2, ex_tupRg1, ex_tupRg2, ex_frz, ex_slF, ex_slM, sl_tupF, sl_rolF, op_iiF, op_ssF, op_ttF, op_rrF, op_rrM, op_mmF, op_repF, li_rol, li_ref, bl_listF, bl_allF, bl_anyF, asT_some, asJ_some, op_eqBf, op_eqBt, isN_non, Bool.not_true, Bool.not_false, rep2, ex_lcF]
  refine ⟨by omega, by omega, ?_⟩
  refine lc_pv (fun i acc M => ∃ vs : List Int, acc = vs.map D.int ∧ vs.length = i ∧ i ≤ 6 ∧ Fd (b + 1 + i) M a ∧ Only a Ma M) ?_ ?_ ⟨[], rfl, rfl, by decide, f1, o1⟩
  · rintro i d acc M hd ⟨vs, rfl, hl, hi, f, o⟩ X hX
    obtain ⟨hlt, rfl⟩ := rgD_get hd
    refine ⟨True.intro, ?_⟩
    simp only [ex_c, ex_var, ex_op, ex_un, ex_b, ex_and, ex_or, ex_not, ex_andV, ex_orV, ex_notV, ex_if, ex_chain, ex_nil, ex_cons, ex_tup, ex_lst, ex_call, ex_callP, ex_cb, ex_bm, ex_rep, ex_sl, ex_noPart, ex_part, ex_yes, it_items, it_rng1, it_rng2, tg_name, tg_sub, tg_tup, tg_cons, tg_nil, gs_0, gs_s, ss_0, ss_s, op_ii, op_ss, op_tt, op_mm, op_sb, op_ng, op_iNf, op_iNt, op_lle, op_ixT, op_ixR, op_ixL, op_putE, op_appE, it_tupE, it_rolE, it_refE, lstOf_l, exL, asS_some, asI_int, asB_bl, asL_some, asN_some, ite3_t, ite3_f, bl_1, bl_lenT, bl_lenR, bl_lenL, bl_lenS, bl_tuple, bl_list, bl_abs, bl_intI, bl_intB, bl_max, bl_min, op_eqSf, op_eqSt, op_eqIf, op_eqIt, op_eqTf, op_eqTt, op_eqRf, op_eqRt, op_eqNf, op_eqNt, eqD_int, eqD_nil, pl_int, pl_nil, pl_non, pl_rnil, pl_bl, sl_tupE, sl_rolE, keep_ref, keep_tup, keep_rol, tp_int, tp_tup, tp_rol, tp_str, tp_bl, tp_non, tp_ref, oFd, oMd, oPw, oShl, oLt, oLe, oGt, oGe, op_in, op_cp, wipe_nil, wipe_cons, mset_same, true_and, and_true, isN_int, ex_lstF, ex_repF, ex_lgF1, ex_lgF2, ex_tupRg1, ex_tupRg2, ex_frz, ex_slF, ex_slM, sl_tupF, sl_rolF, op_iiF, op_ssF, op_ttF, op_rrF, op_rrM, op_mmF, op_repF, li_rol, li_ref, bl_listF, bl_allF, bl_anyF, asT_some, asJ_some, op_eqBf, op_eqBt, isN_non, Bool.not_true, Bool.not_false, rep2]
    refine kd _ (b + 1 + i) _ _ _ _ f (by omega) (by decide) (by decide) fun x M2 x0 x1 f2 o2 => ?_
    (try simp only [ex_c, ex_var, ex_op, ex_un, ex_b, ex_and, ex_or, ex_not, ex_andV, ex_orV, ex_notV, ex_if, ex_chain, ex_nil, ex_cons, ex_tup, ex_lst, ex_call, ex_callP, ex_cb, ex_bm, ex_rep, ex_sl, ex_noPart, ex_part, ex_yes, it_items, it_rng1, it_rng2, tg_name, tg_sub, tg_tup, tg_cons, tg_nil, gs_0, gs_s, ss_0, ss_s, op_ii, op_ss, op_tt, op_mm, op_sb, op_ng, op_iNf, op_iNt, op_lle, op_ixT, op_ixR, op_ixL, op_putE, op_appE, it_tupE, it_rolE, it_refE, lstOf_l, exL, asS_some, asI_int, asB_bl, asL_some, asN_some, ite3_t, ite3_f, bl_1, bl_lenT, bl_lenR, bl_lenL, bl_lenS, bl_tuple, bl_list, bl_abs, bl_intI, bl_intB, bl_max, bl_min, op_eqSf, op_eqSt, op_eqIf, op_eqIt, op_eqTf, op_eqTt, op_eqRf, op_eqRt, op_eqNf, op_eqNt, eqD_int, eqD_nil, pl_int, pl_nil, pl_non, pl_rnil, pl_bl, sl_tupE, sl_rolE, keep_ref, keep_tup, keep_rol, tp_int, tp_tup, tp_rol, tp_str, tp_bl, tp_non, tp_ref, oFd, oMd, oPw, oShl, oLt, oLe, oGt, oGe, op_in, op_cp, wipe_nil, wipe_cons, mset_same, true_and, and_true, isN_int, ex_lstF, ex_repF, ex_lgF1, ex_lgF2, ex_tupRg1, ex_tupRg2, ex_frz, ex_slF, ex_slM, sl_tupF, sl_rolF, op_iiF, op_ssF, op_ttF, op_rrF, op_rrM, op_mmF, op_repF, li_rol, li_ref, bl_listF, bl_allF, bl_anyF, asT_some, asJ_some, op_eqBf, op_eqBt, isN_non, Bool.not_true, Bool.not_false, rep2])
    refine ⟨by rw [List.length_map]; omega, hX _ _ ⟨vs ++ [x - 4], by rw [List.map_append]; rfl, by rw [List.length_append, hl]; rfl, by omega, f2.mono (by omega), o.trans o2⟩⟩
  rintro acc M ⟨vs, rfl, hl, hi, f, o⟩
  rw [rgD_len] at hl
  refine ⟨True.intro, ?_⟩
  (try simp only [ex_c, ex_var, ex_op, ex_un, ex_b, ex_and, ex_or, ex_not, ex_andV, ex_orV, ex_notV, ex_if, ex_chain, ex_nil, ex_cons, ex_tup, ex_lst, ex_call, ex_callP, ex_cb, ex_bm, ex_rep, ex_sl, ex_noPart, ex_part, ex_yes, it_items, it_rng1, it_rng2, tg_name, tg_sub, tg_tup, tg_cons, tg_nil, gs_0, gs_s, ss_0, ss_s, op_ii, op_ss, op_tt, op_mm, op_sb, op_ng, op_iNf, op_iNt, op_lle, op_ixT, op_ixR, op_ixL, op_putE, op_appE, it_tupE, it_rolE, it_refE, lstOf_l, exL, asS_some, asI_int, asB_bl, asL_some, asN_some, ite3_t, ite3_f, bl_1, bl_lenT, bl_lenR, bl_lenL, bl_lenS, bl_tuple, bl_list, bl_abs, bl_intI, bl_intB, bl_max, bl_min, op_eqSf, op_eqSt, op_eqIf, op_eqIt, op_eqTf, op_eqTt, op_eqRf, op_eqRt, op_eqNf, op_eqNt, eqD_int, eqD_nil, pl_int, pl_nil, pl_non, pl_rnil, pl_bl, sl_tupE, sl_rolE, keep_ref, keep_tup, keep_rol, tp_int, tp_tup, tp_rol, tp_str, tp_bl, tp_non, tp_ref, oFd, oMd, oPw, oShl, oLt, oLe, oGt, oGe, op_in, op_cp, wipe_nil, wipe_cons, mset_same, true_and, and_true, isN_int, ex_lstF, ex_repF, ex_lgF1, ex_lgF2, ex_tupRg1, ex_tupRg2, ex_frz, ex_slF, ex_slM, sl_tupF, sl_rolF, op_iiF, op_ssF, op_ttF, op_rrF, op_rrM, op_mmF, op_repF, li_rol, li_ref, bl_listF, bl_allF, bl_anyF, asT_some, asJ_some, op_eqBf, op_eqBt, isN_non, Bool.not_true, Bool.not_false, rep2])
  have e1 : vs.map D.int ++ [D.int 0] = (vs ++ [0]).map D.int := by simp
  rw [e1]
  refine ⟨by show 1 ≤ sizeLine; omega, by rw [List.length_map]; show _ + 1 ≤ sizeLine; omega, ?_⟩
  have wl : (vs ++ [0]).length = n := by rw [List.length_append]; show _ + 1 = _; omega
  generalize vs ++ [0] = ws at wl
  have at' : ∀ i : Nat, i < n → ∃ x : Int, atI (ws.map D.int) (0 + (i : Int)) = some (.int x) := fun i hi => by
    rw [Int.zero_add]
    exact ⟨ws[i], atI_nat (by rw [List.getElem?_map, List.getElem?_eq_getElem (by omega)]; rfl)⟩
  try dsimp only
  rw [st_seq, st_set]
  simp only [ex_c, ex_var, ex_op, ex_un, ex_b, ex_and, ex_or, ex_not, ex_andV, ex_orV, ex_notV, ex_if, ex_chain, ex_nil, ex_cons, ex_tup, ex_lst, ex_call, ex_callP, ex_cb, ex_bm, ex_rep, ex_sl, ex_noPart, ex_part, ex_yes, it_items, it_rng1, it_rng2, tg_name, tg_sub, tg_tup, tg_cons, tg_nil, gs_0, gs_s, ss_0, ss_s, op_ii, op_ss, op_tt, op_mm, op_sb, op_ng, op_iNf, op_iNt, op_lle, op_ixT, op_ixR, op_ixL, op_putE, op_appE, it_tupE, it_rolE, it_refE, lstOf_l, exL, asS_some, asI_int, asB_bl, asL_some, asN_some, ite3_t, ite3_f, bl_1, bl_lenT, bl_lenR, bl_lenL, bl_lenS, bl_tuple, bl_list, bl_abs, bl_intI, bl_intB, bl_max, bl_min, op_eqSf, op_eqSt, op_eqIf, op_eqIt, op_eqTf, op_eqTt, op_eqRf, op_eqRt, op_eqNf, op_eqNt, eqD_int, eqD_nil, pl_int, pl_nil, pl_non, pl_rnil, pl_bl, sl_tupE, sl_rolE, keep_ref, keep_tup, keep_rol, tp_int, tp_tup, tp_rol, tp_str, tp_bl, tp_non, tp_ref, oFd, oMd, oPw, oShl, oLt, oLe, oGt, oGe, op_in, op_cp, wipe_nil, wipe_cons, mset_same, true_and, and_true, isN_int, ex_lstF, ex_repF, ex_lgF1, ex_lgF2, ex_tupRg1, ex_tupRg2, ex_frz, ex_slF, ex_slM, sl_tupF, sl_rolF, op_iiF, op_ssF, op_ttF, op_rrF, op_rrM, op_mmF, op_repF, li_rol, li_ref, bl_listF, bl_allF, bl_anyF, asT_some, asJ_some, op_eqBf, op_eqBt, isN_non, Bool.not_true, Bool.not_false, rep2]
  refine ⟨Nat.zero_le _, fun l hl => ?_⟩
  have hla := f.ne hl
  try dsimp only
  rw [st_seq, st_for]
  simp only [ex_c, ex_var, ex_op, ex_un, ex_b, ex_and, ex_or, ex_not, ex_andV, ex_orV, ex_notV, ex_if, ex_chain, ex_nil, ex_cons, ex_tup, ex_lst, ex_call, ex_callP, ex_cb, ex_bm, ex_rep, ex_sl, ex_noPart, ex_part, ex_yes, it_items, it_rng1, it_rng2, tg_name, tg_sub, tg_tup, tg_cons, tg_nil, gs_0, gs_s, ss_0, ss_s, op_ii, op_ss, op_tt, op_mm, op_sb, op_ng, op_iNf, op_iNt, op_lle, op_ixT, op_ixR, op_ixL, op_putE, op_appE, it_tupE, it_rolE, it_refE, lstOf_l, exL, asS_some, asI_int, asB_bl, asL_some, asN_some, ite3_t, ite3_f, bl_1, bl_lenT, bl_lenR, bl_lenL, bl_lenS, bl_tuple, bl_list, bl_abs, bl_intI, bl_intB, bl_max, bl_min, op_eqSf, op_eqSt, op_eqIf, op_eqIt, op_eqTf, op_eqTt, op_eqRf, op_eqRt, op_eqNf, op_eqNt, eqD_int, eqD_nil, pl_int, pl_nil, pl_non, pl_rnil, pl_bl, sl_tupE, sl_rolE, keep_ref, keep_tup, keep_rol, tp_int, tp_tup, tp_rol, tp_str, tp_bl, tp_non, tp_ref, oFd, oMd, oPw, oShl, oLt, oLe, oGt, oGe, op_in, op_cp, wipe_nil, wipe_cons, mset_same, true_and, and_true, isN_int, ex_lstF, ex_repF, ex_lgF1, ex_lgF2, ex_tupRg1, ex_tupRg2, ex_frz, ex_slF, ex_slM, sl_tupF, sl_rolF, op_iiF, op_ssF, op_ttF, op_rrF, op_rrM, op_mmF, op_repF, li_rol, li_ref, bl_listF, bl_allF, bl_anyF, asT_some, asJ_some, op_eqBf, op_eqBt, isN_non, Bool.not_true, Bool.not_false, rep2]
  refine ⟨by omega, by omega, ?_⟩
  rw [Int.toNat_natCast]
  refine for_rg (fun p τ M => p ≤ n ∧ (∃ T : Tab, M l = some (.lst (T.map rowD)) ∧ T.length = p ∧ (∀ r ∈ T, r.length = n ∧ ∀ e ∈ r, EdB 13 e) ∧ Fd (b + 7 + 22 * p) M a ∧ Gr a Ma M) ∧ ∃ x4 x6 x7, τ = [some (.ref a), some (.int n), some (.int way), some (.rol (ws.map D.int)), x4, some (.ref l), x6, x7]) ?_ ?_
    ⟨Nat.zero_le _, ⟨[], mset_same, rfl, (fun r hr => nomatch hr), (f.put hla).mono (by omega), o.gr.put (o.gr.none hl hla)⟩, _, _, _, rfl⟩
  · rintro p τ M2 hp ⟨_, ⟨T, hM, hTl, hT, f, g⟩, x4, x6, x7, rfl⟩ X hX
    obtain ⟨xp, hxp⟩ := at' p hp
    rw [tg_name, st_seq, st_set]
    simp only [ex_c, ex_var, ex_op, ex_un, ex_b, ex_and, ex_or, ex_not, ex_andV, ex_orV, ex_notV, ex_if, ex_chain, ex_nil, ex_cons, ex_tup, ex_lst, ex_call, ex_callP, ex_cb, ex_bm, ex_rep, ex_sl, ex_noPart, ex_part, ex_yes, it_items, it_rng1, it_rng2, tg_name, tg_sub, tg_tup, tg_cons, tg_nil, gs_0, gs_s, ss_0, ss_s, op_ii, op_ss, op_tt, op_mm, op_sb, op_ng, op_iNf, op_iNt, op_lle, op_ixT, op_ixR, op_ixL, op_putE, op_appE, it_tupE, it_rolE, it_refE, lstOf_l, exL, asS_some, asI_int, asB_bl, asL_some, asN_some, ite3_t, ite3_f, bl_1, bl_lenT, bl_lenR, bl_lenL, bl_lenS, bl_tuple, bl_list, bl_abs, bl_intI, bl_intB, bl_max, bl_min, op_eqSf, op_eqSt, op_eqIf, op_eqIt, op_eqTf, op_eqTt, op_eqRf, op_eqRt, op_eqNf, op_eqNt, eqD_int, eqD_nil, pl_int, pl_nil, pl_non, pl_rnil, pl_bl, sl_tupE, sl_rolE, keep_ref, keep_tup, keep_rol, tp_int, tp_tup, tp_rol, tp_str, tp_bl, tp_non, tp_ref, oFd, oMd, oPw, oShl, oLt, oLe, oGt, oGe, op_in, op_cp, wipe_nil, wipe_cons, mset_same, true_and, and_true, isN_int, ex_lstF, ex_repF, ex_lgF1, ex_lgF2, ex_tupRg1, ex_tupRg2, ex_frz, ex_slF, ex_slM, sl_tupF, sl_rolF, op_iiF, op_ssF, op_ttF, op_rrF, op_rrM, op_mmF, op_repF, li_rol, li_ref, bl_listF, bl_allF, bl_anyF, asT_some, asJ_some, op_eqBf, op_eqBt, isN_non, Bool.not_true, Bool.not_false, rep2, ex_lc]
    refine ⟨by omega, by omega, ?_⟩
    rw [Int.toNat_natCast]
    refine lc_pv (fun i acc M => ∃ r : List Ed, acc = r.map oD ∧ r.length = i ∧ (∀ e ∈ r, EdB 13 e) ∧ i ≤ n ∧ Fd (b + 7 + 22 * p + 3 * i) M a ∧ Only a M2 M) ?_ ?_ ⟨[], rfl, rfl, (fun e he => nomatch he), Nat.zero_le _, f, .refl⟩
    · rintro i d acc M3 hd ⟨r, rfl, hrl, hr, hi, f3, o3⟩ Y hY
      obtain ⟨hlt, rfl⟩ := rgD_get hd
      obtain ⟨xi, hxi⟩ := at' i hlt
      refine ⟨True.intro, ?_⟩
      simp only [ex_c, ex_var, ex_op, ex_un, ex_b, ex_and, ex_or, ex_not, ex_andV, ex_orV, ex_notV, ex_if, ex_chain, ex_nil, ex_cons, ex_tup, ex_lst, ex_call, ex_callP, ex_cb, ex_bm, ex_rep, ex_sl, ex_noPart, ex_part, ex_yes, it_items, it_rng1, it_rng2, tg_name, tg_sub, tg_tup, tg_cons, tg_nil, gs_0, gs_s, ss_0, ss_s, op_ii, op_ss, op_tt, op_mm, op_sb, op_ng, op_iNf, op_iNt, op_lle, op_ixT, op_ixR, op_ixL, op_putE, op_appE, it_tupE, it_rolE, it_refE, lstOf_l, exL, asS_some, asI_int, asB_bl, asL_some, asN_some, ite3_t, ite3_f, bl_1, bl_lenT, bl_lenR, bl_lenL, bl_lenS, bl_tuple, bl_list, bl_abs, bl_intI, bl_intB, bl_max, bl_min, op_eqSf, op_eqSt, op_eqIf, op_eqIt, op_eqTf, op_eqTt, op_eqRf, op_eqRt, op_eqNf, op_eqNt, eqD_int, eqD_nil, pl_int, pl_nil, pl_non, pl_rnil, pl_bl, sl_tupE, sl_rolE, keep_ref, keep_tup, keep_rol, tp_int, tp_tup, tp_rol, tp_str, tp_bl, tp_non, tp_ref, oFd, oMd, oPw, oShl, oLt, oLe, oGt, oGe, op_in, op_cp, wipe_nil, wipe_cons, mset_same, true_and, and_true, isN_int, ex_lstF, ex_repF, ex_lgF1, ex_lgF2, ex_tupRg1, ex_tupRg2, ex_frz, ex_slF, ex_slM, sl_tupF, sl_rolF, op_iiF, op_ssF, op_ttF, op_rrF, op_rrM, op_mmF, op_repF, li_rol, li_ref, bl_listF, bl_allF, bl_anyF, asT_some, asJ_some, op_eqBf, op_eqBt, isN_non, Bool.not_true, Bool.not_false, rep2, hxp, hxi]
      refine ke _ (b + 7 + 22 * p + 3 * i) _ _ _ _ _ f3 (by omega) fun e M4 he f4 o4 => ?_
      refine ⟨by rw [List.length_map]; omega, hY _ _ ⟨r ++ [e], by rw [List.map_append]; rfl, by rw [List.length_append, hrl]; rfl, fun x hx => ?_, hlt, f4.mono (by omega), o3.trans o4⟩⟩
      rcases List.mem_append.mp hx with h | h
      · exact hr x h
      · rw [List.mem_singleton] at h; rw [h]; exact he
    rintro acc M3 ⟨r, rfl, hrl, hr, hi, f3, o3⟩
    rw [rgD_len] at hrl
    refine ⟨True.intro, fun e he => ?_⟩
    have hM3 : M3 l = some (.lst (T.map rowD)) := (o3 l hla).trans hM
    have hel : l ≠ e := fun z => by rw [z, he] at hM3; cases hM3
    have hea := f3.ne he
    try dsimp only
    rw [st_seq, st_asg]
    simp only [ex_c, ex_var, ex_op, ex_un, ex_b, ex_and, ex_or, ex_not, ex_andV, ex_orV, ex_notV, ex_if, ex_chain, ex_nil, ex_cons, ex_tup, ex_lst, ex_call, ex_callP, ex_cb, ex_bm, ex_rep, ex_sl, ex_noPart, ex_part, ex_yes, it_items, it_rng1, it_rng2, tg_name, tg_sub, tg_tup, tg_cons, tg_nil, gs_0, gs_s, ss_0, ss_s, op_ii, op_ss, op_tt, op_mm, op_sb, op_ng, op_iNf, op_iNt, op_lle, op_ixT, op_ixR, op_ixL, op_putE, op_appE, it_tupE, it_rolE, it_refE, lstOf_l, exL, asS_some, asI_int, asB_bl, asL_some, asN_some, ite3_t, ite3_f, bl_1, bl_lenT, bl_lenR, bl_lenL, bl_lenS, bl_tuple, bl_list, bl_abs, bl_intI, bl_intB, bl_max, bl_min, op_eqSf, op_eqSt, op_eqIf, op_eqIt, op_eqTf, op_eqTt, op_eqRf, op_eqRt, op_eqNf, op_eqNt, eqD_int, eqD_nil, pl_int, pl_nil, pl_non, pl_rnil, pl_bl, sl_tupE, sl_rolE, keep_ref, keep_tup, keep_rol, tp_int, tp_tup, tp_rol, tp_str, tp_bl, tp_non, tp_ref, oFd, oMd, oPw, oShl, oLt, oLe, oGt, oGe, op_in, op_cp, wipe_nil, wipe_cons, mset_same, true_and, and_true, isN_int, ex_lstF, ex_repF, ex_lgF1, ex_lgF2, ex_tupRg1, ex_tupRg2, ex_frz, ex_slF, ex_slM, sl_tupF, sl_rolF, op_iiF, op_ssF, op_ttF, op_rrF, op_rrM, op_mmF, op_repF, li_rol, li_ref, bl_listF, bl_allF, bl_anyF, asT_some, asJ_some, op_eqBf, op_eqBt, isN_non, Bool.not_true, Bool.not_false, rep2, tp_int]
    have hd : ∃ z : Int, (-1 * if decide (way = 5) = true then 1 else 0 : Int) = z ∧ -1 ≤ z ∧ z ≤ 0 := ⟨_, rfl, by split <;> decide, by split <;> decide⟩
    obtain ⟨z, hz, z0, z1⟩ := hd
    rw [hz]
    refine ⟨CMul.ok (.inl ⟨by decide, by decide⟩), by show 8 ≤ sizeLine; omega, kd _ (b + 7 + 22 * p + 3 * 7) _ _ _ _ ((f3.mono (by omega)).put hea) (by omega) (by decide) (by decide) fun x M4 x0 x1 f4 o4 => ?_⟩
    have hat : ∃ y, atI [D.non, D.int 0, D.non, D.int 3, D.int 0, D.non, D.int 12, D.int z] x = some (oD y) ∧ EdB 13 y := by
      have : x = 0 ∨ x = 1 ∨ x = 2 ∨ x = 3 ∨ x = 4 ∨ x = 5 ∨ x = 6 ∨ x = 7 := by omega
      rcases this with rfl | rfl | rfl | rfl | rfl | rfl | rfl | rfl
      · exact ⟨none, rfl, fun j hj => nomatch hj⟩
      · exact ⟨some 0, rfl, edb (by decide) (by decide)⟩
      · exact ⟨none, rfl, fun j hj => nomatch hj⟩
      · exact ⟨some 3, rfl, edb (by decide) (by decide)⟩
      · exact ⟨some 0, rfl, edb (by decide) (by decide)⟩
      · exact ⟨none, rfl, fun j hj => nomatch hj⟩
      · exact ⟨some 12, rfl, edb (by decide) (by decide)⟩
      · exact ⟨some z, rfl, edb (by omega) (by omega)⟩
    obtain ⟨y, hat, hy⟩ := hat
    have hM4 : M4 e = some (.lst (r.map oD)) := (o4 e hea).trans mset_same
    have hM4l : M4 l = some (.lst (T.map rowD)) := ((o4 l hla).trans (mset_ne hel)).trans hM3
    have hix : ixN (r.map oD).length (0 + (p : Int)) = some p := by
      unfold ixN
      rw [List.length_map, if_pos (by omega), if_pos (by omega), Int.zero_add, Int.toNat_natCast]
    simp only [ex_c, ex_var, ex_op, ex_un, ex_b, ex_and, ex_or, ex_not, ex_andV, ex_orV, ex_notV, ex_if, ex_chain, ex_nil, ex_cons, ex_tup, ex_lst, ex_call, ex_callP, ex_cb, ex_bm, ex_rep, ex_sl, ex_noPart, ex_part, ex_yes, it_items, it_rng1, it_rng2, tg_name, tg_sub, tg_tup, tg_cons, tg_nil, gs_0, gs_s, ss_0, ss_s, op_ii, op_ss, op_tt, op_mm, op_sb, op_ng, op_iNf, op_iNt, op_lle, op_ixT, op_ixR, op_ixL, op_putE, op_appE, it_tupE, it_rolE, it_refE, lstOf_l, exL, asS_some, asI_int, asB_bl, asL_some, asN_some, ite3_t, ite3_f, bl_1, bl_lenT, bl_lenR, bl_lenL, bl_lenS, bl_tuple, bl_list, bl_abs, bl_intI, bl_intB, bl_max, bl_min, op_eqSf, op_eqSt, op_eqIf, op_eqIt, op_eqTf, op_eqTt, op_eqRf, op_eqRt, op_eqNf, op_eqNt, eqD_int, eqD_nil, pl_int, pl_nil, pl_non, pl_rnil, pl_bl, sl_tupE, sl_rolE, keep_ref, keep_tup, keep_rol, tp_int, tp_tup, tp_rol, tp_str, tp_bl, tp_non, tp_ref, oFd, oMd, oPw, oShl, oLt, oLe, oGt, oGe, op_in, op_cp, wipe_nil, wipe_cons, mset_same, true_and, and_true, isN_int, ex_lstF, ex_repF, ex_lgF1, ex_lgF2, ex_tupRg1, ex_tupRg2, ex_frz, ex_slF, ex_slM, sl_tupF, sl_rolF, op_iiF, op_ssF, op_ttF, op_rrF, op_rrM, op_mmF, op_repF, li_rol, li_ref, bl_listF, bl_allF, bl_anyF, asT_some, asJ_some, op_eqBf, op_eqBt, isN_non, Bool.not_true, Bool.not_false, rep2, hat, hM4, hix]
    try dsimp only
    rw [st_drop]
    simp only [ex_c, ex_var, ex_op, ex_un, ex_b, ex_and, ex_or, ex_not, ex_andV, ex_orV, ex_notV, ex_if, ex_chain, ex_nil, ex_cons, ex_tup, ex_lst, ex_call, ex_callP, ex_cb, ex_bm, ex_rep, ex_sl, ex_noPart, ex_part, ex_yes, it_items, it_rng1, it_rng2, tg_name, tg_sub, tg_tup, tg_cons, tg_nil, gs_0, gs_s, ss_0, ss_s, op_ii, op_ss, op_tt, op_mm, op_sb, op_ng, op_iNf, op_iNt, op_lle, op_ixT, op_ixR, op_ixL, op_putE, op_appE, it_tupE, it_rolE, it_refE, lstOf_l, exL, asS_some, asI_int, asB_bl, asL_some, asN_some, ite3_t, ite3_f, bl_1, bl_lenT, bl_lenR, bl_lenL, bl_lenS, bl_tuple, bl_list, bl_abs, bl_intI, bl_intB, bl_max, bl_min, op_eqSf, op_eqSt, op_eqIf, op_eqIt, op_eqTf, op_eqTt, op_eqRf, op_eqRt, op_eqNf, op_eqNt, eqD_int, eqD_nil, pl_int, pl_nil, pl_non, pl_rnil, pl_bl, sl_tupE, sl_rolE, keep_ref, keep_tup, keep_rol, tp_int, tp_tup, tp_rol, tp_str, tp_bl, tp_non, tp_ref, oFd, oMd, oPw, oShl, oLt, oLe, oGt, oGe, op_in, op_cp, wipe_nil, wipe_cons, mset_same, true_and, and_true, isN_int, ex_lstF, ex_repF, ex_lgF1, ex_lgF2, ex_tupRg1, ex_tupRg2, ex_frz, ex_slF, ex_slM, sl_tupF, sl_rolF, op_iiF, op_ssF, op_ttF, op_rrF, op_rrM, op_mmF, op_repF, li_rol, li_ref, bl_listF, bl_allF, bl_anyF, asT_some, asJ_some, op_eqBf, op_eqBt, isN_non, Bool.not_true, Bool.not_false, rep2]
    have hM5 : mset M4 e (.lst ((r.map oD).set p (oD y))) l = some (.lst (T.map rowD)) := (mset_ne hel).trans hM4l
    refine ⟨⟨_, hM5⟩, ?_⟩
    rw [hM5]
    have hle : T.length < sizeLine := by omega
    (try simp only [ex_c, ex_var, ex_op, ex_un, ex_b, ex_and, ex_or, ex_not, ex_andV, ex_orV, ex_notV, ex_if, ex_chain, ex_nil, ex_cons, ex_tup, ex_lst, ex_call, ex_callP, ex_cb, ex_bm, ex_rep, ex_sl, ex_noPart, ex_part, ex_yes, it_items, it_rng1, it_rng2, tg_name, tg_sub, tg_tup, tg_cons, tg_nil, gs_0, gs_s, ss_0, ss_s, op_ii, op_ss, op_tt, op_mm, op_sb, op_ng, op_iNf, op_iNt, op_lle, op_ixT, op_ixR, op_ixL, op_putE, op_appE, it_tupE, it_rolE, it_refE, lstOf_l, exL, asS_some, asI_int, asB_bl, asL_some, asN_some, ite3_t, ite3_f, bl_1, bl_lenT, bl_lenR, bl_lenL, bl_lenS, bl_tuple, bl_list, bl_abs, bl_intI, bl_intB, bl_max, bl_min, op_eqSf, op_eqSt, op_eqIf, op_eqIt, op_eqTf, op_eqTt, op_eqRf, op_eqRt, op_eqNf, op_eqNt, eqD_int, eqD_nil, pl_int, pl_nil, pl_non, pl_rnil, pl_bl, sl_tupE, sl_rolE, keep_ref, keep_tup, keep_rol, tp_int, tp_tup, tp_rol, tp_str, tp_bl, tp_non, tp_ref, oFd, oMd, oPw, oShl, oLt, oLe, oGt, oGe, op_in, op_cp, wipe_nil, wipe_cons, mset_same, true_and, and_true, isN_int, ex_lstF, ex_repF, ex_lgF1, ex_lgF2, ex_tupRg1, ex_tupRg2, ex_frz, ex_slF, ex_slM, sl_tupF, sl_rolF, op_iiF, op_ssF, op_ttF, op_rrF, op_rrM, op_mmF, op_repF, li_rol, li_ref, bl_listF, bl_allF, bl_anyF, asT_some, asJ_some, op_eqBf, op_eqBt, isN_non, Bool.not_true, Bool.not_false, rep2, List.length_map])
    have he0 : Ma e = none := (g.trans o3.gr).none he hea
    have hl0 : Ma l = none := o.gr.none hl hla
    refine ⟨hle, hX _ _ ⟨hp, ⟨T ++ [r.set p y], ?_, by rw [List.length_append, hTl]; rfl, fun r' hr' => ?_, ((f4.put hea).put hla).mono (by omega), ((((g.trans o3.gr).put he0).trans o4.gr).put he0).put hl0⟩, _, _, _, rfl⟩⟩
    · rw [mset_same, List.map_append, ← List.map_set]; rfl
    · rcases List.mem_append.mp hr' with h | h
      · exact hT r' h
      · rw [List.mem_singleton] at h
        subst h
        refine ⟨by rw [List.length_set]; exact hrl, fun x hx => ?_⟩
        rcases List.mem_or_eq_of_mem_set hx with h | h
        · exact hr x h
        · rw [h]; exact hy
  · rintro τ M ⟨_, ⟨T, hM, hTl, hT, f, g⟩, x4, x6, x7, rfl⟩
    try dsimp only
    rw [st_ret]
    simp only [ex_c, ex_var, ex_op, ex_un, ex_b, ex_and, ex_or, ex_not, ex_andV, ex_orV, ex_notV, ex_if, ex_chain, ex_nil, ex_cons, ex_tup, ex_lst, ex_call, ex_callP, ex_cb, ex_bm, ex_rep, ex_sl, ex_noPart, ex_part, ex_yes, it_items, it_rng1, it_rng2, tg_name, tg_sub, tg_tup, tg_cons, tg_nil, gs_0, gs_s, ss_0, ss_s, op_ii, op_ss, op_tt, op_mm, op_sb, op_ng, op_iNf, op_iNt, op_lle, op_ixT, op_ixR, op_ixL, op_putE, op_appE, it_tupE, it_rolE, it_refE, lstOf_l, exL, asS_some, asI_int, asB_bl, asL_some, asN_some, ite3_t, ite3_f, bl_1, bl_lenT, bl_lenR, bl_lenL, bl_lenS, bl_tuple, bl_list, bl_abs, bl_intI, bl_intB, bl_max, bl_min, op_eqSf, op_eqSt, op_eqIf, op_eqIt, op_eqTf, op_eqTt, op_eqRf, op_eqRt, op_eqNf, op_eqNt, eqD_int, eqD_nil, pl_int, pl_nil, pl_non, pl_rnil, pl_bl, sl_tupE, sl_rolE, keep_ref, keep_tup, keep_rol, tp_int, tp_tup, tp_rol, tp_str, tp_bl, tp_non, tp_ref, oFd, oMd, oPw, oShl, oLt, oLe, oGt, oGe, op_in, op_cp, wipe_nil, wipe_cons, mset_same, true_and, and_true, isN_int, ex_lstF, ex_repF, ex_lgF1, ex_lgF2, ex_tupRg1, ex_tupRg2, ex_frz, ex_slF, ex_slM, sl_tupF, sl_rolF, op_iiF, op_ssF, op_ttF, op_rrF, op_rrM, op_mmF, op_repF, li_rol, li_ref, bl_listF, bl_allF, bl_anyF, asT_some, asJ_some, op_eqBf, op_eqBt, isN_non, Bool.not_true, Bool.not_false, rep2, hM]
    exact q T _ ⟨hTl, fun r hr => (hT r hr).1, fun r hr e he => (hT r hr).2 e he⟩ (f.mono (by omega)) g
end L3
set_option Elab.async false
set_option linter.all false
set_option maxRecDepth 100000
set_option maxHeartbeats 4000000
namespace L3
open PySem PySem.Spec PyProof.Rows L2
def RowFrom (n : Nat) (T : Tab) (p : Nat) (d : D) : Prop := (d = .non ∧ ∀ S, ¬ IsCl n (at2 T) S) ∨ ∃ l : List Ed, d = rowD l ∧ l.length = n ∧ Stable n (at2 T) (at1 l) ∧ eLe (at1 l p) (some 0) ∧ ∀ S, IsCl n (at2 T) S → ∀ i, i < n → at1 l i = S p i
end L3
set_option Elab.async false
set_option linter.all false
set_option maxRecDepth 100000
set_option maxHeartbeats 4000000
namespace L3
open PySem PySem.Spec PyProof.Rows L2
theorem RowFrom.pl {n p : Nat} {T : Tab} {d : D} (h : RowFrom n T p d) : plain d = true ∧ deep d ≤ 1 := by
  rcases h with ⟨rfl, _⟩ | ⟨l, rfl, _⟩
  · exact ⟨rfl, by simp [deep]⟩
  · have p := pl_row (l := l)
    refine ⟨p.p, ?_⟩
    show deeps (l.map oD) + 1 ≤ 1
    have : deeps (l.map oD) = 0 := by
      clear p
      rename_i hh; clear hh
      induction l with
      | nil => rfl
      | cons a r ih => cases a <;> simp [deeps, oD, deep, ih]
    omega
end L3
set_option Elab.async false
set_option linter.all false
set_option maxRecDepth 100000
set_option maxHeartbeats 4000000
namespace L3
open PySem PySem.Spec PyProof.Rows L2
theorem Le.gr {a : Addr} {M M' : Mp} (h : Le M M') : Gr a M M' := fun b o _ e => h b o e
theorem Fd.le {b : Nat} {a : Addr} {M M' : Mp} (x : Fd b M a) (h : Le M M') : Fd b M' a := by
  obtain ⟨cs, i, g, n, hn, e⟩ := x
  exact ⟨cs, i, g, n, hn, h _ _ e⟩
end L3
set_option Elab.async false
set_option linter.all false
set_option maxRecDepth 100000
set_option maxHeartbeats 4000000
namespace L3
open PySem PySem.Spec PyProof.Rows L2
def zipT (f : Ed → Ed → Ed) (T U : Tab) : Tab := List.zipWith (fun r s => List.zipWith f r s) T U
end L3
set_option Elab.async false
set_option linter.all false
set_option maxRecDepth 100000
set_option maxHeartbeats 4000000
namespace L3
open PySem PySem.Spec PyProof.Rows L2
def leB : Ed → Ed → Bool
  | _, none => true
  | none, some _ => false
  | some x, some y => decide (x ≤ y)
/-- every end of one is at most that of the other -/
def WI (n : Nat) (S U : Tab) : Prop := ∀ p q, p < n → q < n → leB (at2 S p q) (at2 U p q) = true
/-- what is told of two tables -/
def WB (n : Nat) (S U : Tab) (b : Bool) : Prop := (S = [] ∧ b = true) ∨ (S ≠ [] ∧ U = [] ∧ b = false) ∨ (S ≠ [] ∧ U ≠ [] ∧ (b = true ↔ WI n S U))
theorem WB.uniq {n : Nat} {S U : Tab} {b c : Bool} (h : WB n S U b) (h' : WB n S U c) : b = c := by
  rcases h with ⟨e, r⟩ | ⟨e, f, r⟩ | ⟨e, f, r⟩ <;> rcases h' with ⟨e', r'⟩ | ⟨e', f', r'⟩ | ⟨e', f', r'⟩
  · rw [r, r']
  · exact absurd e e'
  · exact absurd e e'
  · exact absurd e' e
  · rw [r, r']
  · exact absurd f f'
  · exact absurd e' e
  · exact absurd f' f
  · rw [Bool.eq_iff_iff, r, r']
end L3
set_option Elab.async false
set_option linter.all false
set_option maxRecDepth 100000
set_option maxHeartbeats 4000000
namespace L3
open PySem PySem.Spec PyProof.Rows L2
end L3
set_option Elab.async false
set_option linter.all false
set_option maxRecDepth 100000
set_option maxHeartbeats 4000000
namespace L3
open PySem PySem.Spec PyProof.Rows L2
/-- tables that may be asked for: on k points or (), with what they are closed -/
structure Ct (b k : Nat) (d : D) : Prop where
  ex : ∃ (n B : Nat) (U V : Tab), d = tabD U ∧ n ≤ k ∧ 0 < B ∧ B ≤ b ∧ TabB B n U ∧ (U = [] ∨ n = k) ∧ Closes n B U (tabD V) ∧ (V = [] ∨ (Sq k V ∧ 0 < k)) ∧ (U = [] ∨ (Sq k U ∧ 0 < k)) ∧ ∃ C, C = 2 ^ k * b ∧ (V = [] ∨ TabB C k V)
theorem Ct.mono {b c k : Nat} {d : D} (h : Ct b k d) (hb : b ≤ c) : Ct c k d := by
  obtain ⟨n, B, U, V, e, h1, h2, h3, h4, h5, h6, h7, h8, C, rfl, h9⟩ := h.ex
  refine ⟨n, B, U, V, e, h1, h2, Nat.le_trans h3 hb, h4, h5, h6, h7, h8, _, rfl, ?_⟩
  rcases h9 with h | h
  · exact .inl h
  · exact .inr (h.mono (Nat.mul_le_mul_left _ hb))
theorem Ct.tm {b k : Nat} {d : D} (h : Ct b k d) (hb : b ≤ 10 ^ 100) (hk : k ≤ 7) : Tm 2 56 d := by
  obtain ⟨n, B, U, V, rfl, hn, _, hB, t, _⟩ := h.ex
  exact (Tm.tab t (Nat.le_trans hB hb)).mono (Nat.le_refl _) (Nat.mul_le_mul (Nat.le_trans hn hk) (Nat.add_le_add_right (Nat.le_trans hn hk) 1))
end L3
set_option Elab.async false
set_option linter.all false
set_option maxRecDepth 100000
set_option maxHeartbeats 4000000
namespace L3
open PySem PySem.Spec PyProof.Rows L2
def vW (vs : List Int) : Vl := fun i => (vs ++ [0]).getD i 0
def MetB (n : Nat) (T : Tab) (vs : List Int) (b : Bool) : Prop := (T = [] ∧ b = false) ∨ (T ≠ [] ∧ (b = true ↔ Meets n (at2 T) (vW vs)))
theorem MetB.uniq {n : Nat} {T : Tab} {vs : List Int} {b c : Bool} (h : MetB n T vs b) (h' : MetB n T vs c) : b = c := by
  rcases h with ⟨e, rfl⟩ | ⟨e, h⟩
  · rcases h' with ⟨_, rfl⟩ | ⟨e', _⟩
    · rfl
    · exact absurd e e'
  · rcases h' with ⟨e', _⟩ | ⟨_, h'⟩
    · exact absurd e' e
    · rw [Bool.eq_iff_iff, h, h']
end L3
set_option Elab.async false
set_option linter.all false
set_option maxRecDepth 100000
set_option maxHeartbeats 4000000
namespace L3
open PySem PySem.Spec PyProof.Rows L2
def Bxd (n : Nat) (W : Int) (T : Tab) : Prop := ∀ p, p + 1 < n → (∃ x, at2 T p (n - 1) = some x ∧ x ≤ W) ∧ ∃ x, at2 T (n - 1) p = some x ∧ x ≤ W
end L3
set_option Elab.async false
set_option linter.all false
set_option maxRecDepth 100000
set_option maxHeartbeats 4000000
namespace L3
open PySem PySem.Spec PyProof.Rows L2
/-- a list that may be written or not -/
def IsL (M : Mp) (d : D) (ds : List D) : Prop := d = .rol ds ∨ ∃ l, d = .ref l ∧ M l = some (.lst ds)
theorem IsL.keep {M M' : Mp} {d : D} {ds : List D} (h : IsL M' d ds) : keepG M d ds M' := by
  rcases h with rfl | ⟨l, rfl, h⟩
  · exact True.intro
  · exact h
theorem IsL.put {M : Mp} {d : D} {ds : List D} {f : Addr} {o : MO} (h : IsL M d ds) (hf : ∀ l, d = .ref l → f ≠ l) : IsL (mset M f o) d ds := by
  rcases h with rfl | ⟨l, rfl, h⟩
  · exact .inl rfl
  · exact .inr ⟨l, rfl, (mset_ne (Ne.symm (hf l rfl))).trans h⟩
end L3
set_option Elab.async false
set_option linter.all false
set_option maxRecDepth 100000
set_option maxHeartbeats 4000000
namespace L3
open PySem PySem.Spec PyProof.Rows L2
/-- rows as they are being boxed -/
structure BxR (n : Nat) (W : Int) (V : Tab) (i : Nat) : Prop where
  len : V.length = i
  rows : ∀ r ∈ V, r.length = n ∧ ∀ e ∈ r, EdB 13 e
  low : ∀ p, p < i → p + 1 < n → ∃ x, at2 V p (n - 1) = some x ∧ x ≤ W
  last : ∀ p, p < i → p + 1 = n → ∀ j, j + 1 < n → ∃ x, at2 V p j = some x ∧ x ≤ W
theorem BxR.done {n : Nat} {W : Int} {V : Tab} (h : BxR n W V n) : TabB 13 n V ∧ Bxd n W V :=
  ⟨⟨h.len, fun r hr => (h.rows r hr).1, fun r hr e he => (h.rows r hr).2 e he⟩, fun p hp => ⟨h.low p (by omega) hp, h.last (n - 1) (by omega) (by omega) p hp⟩⟩
end L3
set_option Elab.async false
set_option linter.all false
set_option maxRecDepth 100000
set_option maxHeartbeats 4000000
namespace L3
open PySem PySem.Spec PyProof.Rows L2
def eSum (k : Int) : Ed → Ed → Ed
  | none, _ => none
  | some x, some y => some (x + k * y)
  | some _, none => none
/-- integers at the same places -/
def Alike (T G : Tab) : Prop := T.map (fun r => r.map Option.isNone) = G.map (fun r => r.map Option.isNone)
theorem sum_alike {k : Int} : ∀ {r s : List Ed}, r.map Option.isNone = s.map Option.isNone → r.map Option.isNone = (List.zipWith (eSum k) r s).map Option.isNone
  | [], [], _ => rfl
  | [], _ :: _, h => by cases h
  | _ :: _, [], h => by cases h
  | a :: r, b :: s, h => by
    rw [List.map_cons, List.map_cons] at h
    injection h with h1 h2
    rw [List.zipWith_cons_cons, List.map_cons, List.map_cons, ← sum_alike h2]
    congr 1
    cases a <;> cases b <;> simp_all [eSum]
theorem Alike.sum {k : Int} : ∀ {T G : Tab}, Alike T G → Alike T (zipT (eSum k) T G)
  | [], [], _ => rfl
  | [], _ :: _, h => by cases h
  | _ :: _, [], h => by cases h
  | a :: T, b :: G, h => by
    unfold Alike at h
    rw [List.map_cons, List.map_cons] at h
    injection h with h1 h2
    show _ = _
    unfold zipT
    rw [List.zipWith_cons_cons, List.map_cons, List.map_cons, ← sum_alike h1]
    congr 1
    exact Alike.sum (T := T) (G := G) h2
end L3
set_option Elab.async false
set_option linter.all false
set_option maxRecDepth 100000
set_option maxHeartbeats 4000000
namespace L3
open PySem PySem.Spec PyProof.Rows L2
theorem isi_I {i : Int} {n : String} {b : Bool} {M : Mp} {Q : VK3} (h : kitB "int" n = some b) : bIsi [.int i, .ty n] M Q = Q (.bl b) M := isi_is rfl h
theorem isi_B {c : Bool} {n : String} {b : Bool} {M : Mp} {Q : VK3} (h : kitB "bool" n = some b) : bIsi [.bl c, .ty n] M Q = Q (.bl b) M := isi_is rfl h
theorem isi_S {s : Str} {n : String} {b : Bool} {M : Mp} {Q : VK3} (h : kitB "str" n = some b) : bIsi [.str s, .ty n] M Q = Q (.bl b) M := isi_is rfl h
theorem isi_T {ds : List D} {n : String} {b : Bool} {M : Mp} {Q : VK3} (h : kitB "tuple" n = some b) : bIsi [.tup ds, .ty n] M Q = Q (.bl b) M := isi_is rfl h
theorem isi_L {ds : List D} {n : String} {b : Bool} {M : Mp} {Q : VK3} (h : kitB "list" n = some b) : bIsi [.rol ds, .ty n] M Q = Q (.bl b) M := isi_is rfl h
theorem isi_N {n : String} {b : Bool} {M : Mp} {Q : VK3} (h : kitB "NoneType" n = some b) : bIsi [.non, .ty n] M Q = Q (.bl b) M := isi_is rfl h
def isI : D → Bool
  | .int _ => true
  | _ => false
def isIntR : XK3 → TS3 := fun E =>
  (wRet (wAndV (wCB bIsi (wCons (wVar 0) (wCons (wC (.ty "int")) wNil))) (wNotV (wCB bIsi (wCons (wVar 0) (wCons (wC (.ty "bool")) wNil))))))
def SIsInt (sp : Sp3) : Prop := ∀ (d : D) (Q : VK3) (E : XK3), plain d = true → (∀ M, Q (.bl (isI d)) M) → sp [d] M0 Q E
theorem s_isInt : SIsInt (spOf 1 1 isIntR) := by
  refine fun d Q E hp q => ⟨rfl, ?_⟩
  show isIntR E _ [some d] M0
  unfold isIntR
  rw [st_ret]
  cases d with
  | non => simp only [ex_c, ex_var, ex_op, ex_un, ex_b, ex_and, ex_or, ex_not, ex_andV, ex_orV, ex_notV, ex_if, ex_chain, ex_nil, ex_cons, ex_tup, ex_lst, ex_call, ex_callP, ex_cb, ex_bm, ex_rep, ex_sl, ex_noPart, ex_part, ex_yes, it_items, it_rng1, it_rng2, tg_name, tg_sub, tg_tup, tg_cons, tg_nil, gs_0, gs_s, ss_0, ss_s, op_ii, op_ss, op_tt, op_mm, op_sb, op_ng, op_iNf, op_iNt, op_lle, op_ixT, op_ixR, op_ixL, op_putE, op_appE, it_tupE, it_rolE, it_refE, lstOf_l, exL, asS_some, asI_int, asB_bl, asL_some, asN_some, ite3_t, ite3_f, bl_1, bl_lenT, bl_lenR, bl_lenL, bl_lenS, bl_tuple, bl_list, bl_abs, bl_intI, bl_intB, bl_max, bl_min, op_eqSf, op_eqSt, op_eqIf, op_eqIt, op_eqTf, op_eqTt, op_eqRf, op_eqRt, op_eqNf, op_eqNt, eqD_int, eqD_nil, pl_int, pl_nil, pl_non, pl_rnil, pl_bl, sl_tupE, sl_rolE, keep_ref, keep_tup, keep_rol, tp_int, tp_tup, tp_rol, tp_str, tp_bl, tp_non, tp_ref, oFd, oMd, oPw, oShl, oLt, oLe, oGt, oGe, op_in, op_cp, wipe_nil, wipe_cons, mset_same, true_and, and_true, isN_int, ex_lstF, ex_repF, ex_lgF1, ex_lgF2, ex_tupRg1, ex_tupRg2, ex_frz, ex_slF, ex_slM, sl_tupF, sl_rolF, op_iiF, op_ssF, op_ttF, op_rrF, op_rrM, op_mmF, op_repF, li_rol, li_ref, bl_listF, bl_allF, bl_anyF, asT_some, asJ_some, op_eqBf, op_eqBt, isN_non, Bool.not_true, Bool.not_false, rep2, isi_N kb_ni]; exact q _
  | int i => simp only [ex_c, ex_var, ex_op, ex_un, ex_b, ex_and, ex_or, ex_not, ex_andV, ex_orV, ex_notV, ex_if, ex_chain, ex_nil, ex_cons, ex_tup, ex_lst, ex_call, ex_callP, ex_cb, ex_bm, ex_rep, ex_sl, ex_noPart, ex_part, ex_yes, it_items, it_rng1, it_rng2, tg_name, tg_sub, tg_tup, tg_cons, tg_nil, gs_0, gs_s, ss_0, ss_s, op_ii, op_ss, op_tt, op_mm, op_sb, op_ng, op_iNf, op_iNt, op_lle, op_ixT, op_ixR, op_ixL, op_putE, op_appE, it_tupE, it_rolE, it_refE, lstOf_l, exL, asS_some, asI_int, asB_bl, asL_some, asN_some, ite3_t, ite3_f, bl_1, bl_lenT, bl_lenR, bl_lenL, bl_lenS, bl_tuple, bl_list, bl_abs, bl_intI, bl_intB, bl_max, bl_min, op_eqSf, op_eqSt, op_eqIf, op_eqIt, op_eqTf, op_eqTt, op_eqRf, op_eqRt, op_eqNf, op_eqNt, eqD_int, eqD_nil, pl_int, pl_nil, pl_non, pl_rnil, pl_bl, sl_tupE, sl_rolE, keep_ref, keep_tup, keep_rol, tp_int, tp_tup, tp_rol, tp_str, tp_bl, tp_non, tp_ref, oFd, oMd, oPw, oShl, oLt, oLe, oGt, oGe, op_in, op_cp, wipe_nil, wipe_cons, mset_same, true_and, and_true, isN_int, ex_lstF, ex_repF, ex_lgF1, ex_lgF2, ex_tupRg1, ex_tupRg2, ex_frz, ex_slF, ex_slM, sl_tupF, sl_rolF, op_iiF, op_ssF, op_ttF, op_rrF, op_rrM, op_mmF, op_repF, li_rol, li_ref, bl_listF, bl_allF, bl_anyF, asT_some, asJ_some, op_eqBf, op_eqBt, isN_non, Bool.not_true, Bool.not_false, rep2, isi_I kb_ii, isi_I kb_ib, Bool.not_false]; exact q _
  | bl b => simp only [ex_c, ex_var, ex_op, ex_un, ex_b, ex_and, ex_or, ex_not, ex_andV, ex_orV, ex_notV, ex_if, ex_chain, ex_nil, ex_cons, ex_tup, ex_lst, ex_call, ex_callP, ex_cb, ex_bm, ex_rep, ex_sl, ex_noPart, ex_part, ex_yes, it_items, it_rng1, it_rng2, tg_name, tg_sub, tg_tup, tg_cons, tg_nil, gs_0, gs_s, ss_0, ss_s, op_ii, op_ss, op_tt, op_mm, op_sb, op_ng, op_iNf, op_iNt, op_lle, op_ixT, op_ixR, op_ixL, op_putE, op_appE, it_tupE, it_rolE, it_refE, lstOf_l, exL, asS_some, asI_int, asB_bl, asL_some, asN_some, ite3_t, ite3_f, bl_1, bl_lenT, bl_lenR, bl_lenL, bl_lenS, bl_tuple, bl_list, bl_abs, bl_intI, bl_intB, bl_max, bl_min, op_eqSf, op_eqSt, op_eqIf, op_eqIt, op_eqTf, op_eqTt, op_eqRf, op_eqRt, op_eqNf, op_eqNt, eqD_int, eqD_nil, pl_int, pl_nil, pl_non, pl_rnil, pl_bl, sl_tupE, sl_rolE, keep_ref, keep_tup, keep_rol, tp_int, tp_tup, tp_rol, tp_str, tp_bl, tp_non, tp_ref, oFd, oMd, oPw, oShl, oLt, oLe, oGt, oGe, op_in, op_cp, wipe_nil, wipe_cons, mset_same, true_and, and_true, isN_int, ex_lstF, ex_repF, ex_lgF1, ex_lgF2, ex_tupRg1, ex_tupRg2, ex_frz, ex_slF, ex_slM, sl_tupF, sl_rolF, op_iiF, op_ssF, op_ttF, op_rrF, op_rrM, op_mmF, op_repF, li_rol, li_ref, bl_listF, bl_allF, bl_anyF, asT_some, asJ_some, op_eqBf, op_eqBt, isN_non, Bool.not_true, Bool.not_false, rep2, isi_B kb_bi, isi_B kb_bb, Bool.not_true]; exact q _
  | str s => simp only [ex_c, ex_var, ex_op, ex_un, ex_b, ex_and, ex_or, ex_not, ex_andV, ex_orV, ex_notV, ex_if, ex_chain, ex_nil, ex_cons, ex_tup, ex_lst, ex_call, ex_callP, ex_cb, ex_bm, ex_rep, ex_sl, ex_noPart, ex_part, ex_yes, it_items, it_rng1, it_rng2, tg_name, tg_sub, tg_tup, tg_cons, tg_nil, gs_0, gs_s, ss_0, ss_s, op_ii, op_ss, op_tt, op_mm, op_sb, op_ng, op_iNf, op_iNt, op_lle, op_ixT, op_ixR, op_ixL, op_putE, op_appE, it_tupE, it_rolE, it_refE, lstOf_l, exL, asS_some, asI_int, asB_bl, asL_some, asN_some, ite3_t, ite3_f, bl_1, bl_lenT, bl_lenR, bl_lenL, bl_lenS, bl_tuple, bl_list, bl_abs, bl_intI, bl_intB, bl_max, bl_min, op_eqSf, op_eqSt, op_eqIf, op_eqIt, op_eqTf, op_eqTt, op_eqRf, op_eqRt, op_eqNf, op_eqNt, eqD_int, eqD_nil, pl_int, pl_nil, pl_non, pl_rnil, pl_bl, sl_tupE, sl_rolE, keep_ref, keep_tup, keep_rol, tp_int, tp_tup, tp_rol, tp_str, tp_bl, tp_non, tp_ref, oFd, oMd, oPw, oShl, oLt, oLe, oGt, oGe, op_in, op_cp, wipe_nil, wipe_cons, mset_same, true_and, and_true, isN_int, ex_lstF, ex_repF, ex_lgF1, ex_lgF2, ex_tupRg1, ex_tupRg2, ex_frz, ex_slF, ex_slM, sl_tupF, sl_rolF, op_iiF, op_ssF, op_ttF, op_rrF, op_rrM, op_mmF, op_repF, li_rol, li_ref, bl_listF, bl_allF, bl_anyF, asT_some, asJ_some, op_eqBf, op_eqBt, isN_non, Bool.not_true, Bool.not_false, rep2, isi_S kb_si]; exact q _
  | tup ds => simp only [ex_c, ex_var, ex_op, ex_un, ex_b, ex_and, ex_or, ex_not, ex_andV, ex_orV, ex_notV, ex_if, ex_chain, ex_nil, ex_cons, ex_tup, ex_lst, ex_call, ex_callP, ex_cb, ex_bm, ex_rep, ex_sl, ex_noPart, ex_part, ex_yes, it_items, it_rng1, it_rng2, tg_name, tg_sub, tg_tup, tg_cons, tg_nil, gs_0, gs_s, ss_0, ss_s, op_ii, op_ss, op_tt, op_mm, op_sb, op_ng, op_iNf, op_iNt, op_lle, op_ixT, op_ixR, op_ixL, op_putE, op_appE, it_tupE, it_rolE, it_refE, lstOf_l, exL, asS_some, asI_int, asB_bl, asL_some, asN_some, ite3_t, ite3_f, bl_1, bl_lenT, bl_lenR, bl_lenL, bl_lenS, bl_tuple, bl_list, bl_abs, bl_intI, bl_intB, bl_max, bl_min, op_eqSf, op_eqSt, op_eqIf, op_eqIt, op_eqTf, op_eqTt, op_eqRf, op_eqRt, op_eqNf, op_eqNt, eqD_int, eqD_nil, pl_int, pl_nil, pl_non, pl_rnil, pl_bl, sl_tupE, sl_rolE, keep_ref, keep_tup, keep_rol, tp_int, tp_tup, tp_rol, tp_str, tp_bl, tp_non, tp_ref, oFd, oMd, oPw, oShl, oLt, oLe, oGt, oGe, op_in, op_cp, wipe_nil, wipe_cons, mset_same, true_and, and_true, isN_int, ex_lstF, ex_repF, ex_lgF1, ex_lgF2, ex_tupRg1, ex_tupRg2, ex_frz, ex_slF, ex_slM, sl_tupF, sl_rolF, op_iiF, op_ssF, op_ttF, op_rrF, op_rrM, op_mmF, op_repF, li_rol, li_ref, bl_listF, bl_allF, bl_anyF, asT_some, asJ_some, op_eqBf, op_eqBt, isN_non, Bool.not_true, Bool.not_false, rep2, isi_T kb_ti]; exact q _
  | rol ds => simp only [ex_c, ex_var, ex_op, ex_un, ex_b, ex_and, ex_or, ex_not, ex_andV, ex_orV, ex_notV, ex_if, ex_chain, ex_nil, ex_cons, ex_tup, ex_lst, ex_call, ex_callP, ex_cb, ex_bm, ex_rep, ex_sl, ex_noPart, ex_part, ex_yes, it_items, it_rng1, it_rng2, tg_name, tg_sub, tg_tup, tg_cons, tg_nil, gs_0, gs_s, ss_0, ss_s, op_ii, op_ss, op_tt, op_mm, op_sb, op_ng, op_iNf, op_iNt, op_lle, op_ixT, op_ixR, op_ixL, op_putE, op_appE, it_tupE, it_rolE, it_refE, lstOf_l, exL, asS_some, asI_int, asB_bl, asL_some, asN_some, ite3_t, ite3_f, bl_1, bl_lenT, bl_lenR, bl_lenL, bl_lenS, bl_tuple, bl_list, bl_abs, bl_intI, bl_intB, bl_max, bl_min, op_eqSf, op_eqSt, op_eqIf, op_eqIt, op_eqTf, op_eqTt, op_eqRf, op_eqRt, op_eqNf, op_eqNt, eqD_int, eqD_nil, pl_int, pl_nil, pl_non, pl_rnil, pl_bl, sl_tupE, sl_rolE, keep_ref, keep_tup, keep_rol, tp_int, tp_tup, tp_rol, tp_str, tp_bl, tp_non, tp_ref, oFd, oMd, oPw, oShl, oLt, oLe, oGt, oGe, op_in, op_cp, wipe_nil, wipe_cons, mset_same, true_and, and_true, isN_int, ex_lstF, ex_repF, ex_lgF1, ex_lgF2, ex_tupRg1, ex_tupRg2, ex_frz, ex_slF, ex_slM, sl_tupF, sl_rolF, op_iiF, op_ssF, op_ttF, op_rrF, op_rrM, op_mmF, op_repF, li_rol, li_ref, bl_listF, bl_allF, bl_anyF, asT_some, asJ_some, op_eqBf, op_eqBt, isN_non, Bool.not_true, Bool.not_false, rep2, isi_L kb_li]; exact q _
  | ref a => cases hp
  | ty n => cases hp
theorem plain_mem {d : D} : ∀ {ds : List D}, plains ds = true → d ∈ ds → plain d = true
  | [], _, h => nomatch h
  | e :: ds, h, hm => by
    have h' : plain e = true ∧ plains ds = true := by simpa [plains] using h
    rcases List.mem_cons.mp hm with rfl | hm
    · exact h'.1
    · exact plain_mem h'.2 hm
instance {T G : Tab} : Decidable (Alike T G) := inferInstanceAs (Decidable (_ = _))
end L3
set_option Elab.async false
set_option linter.all false
set_option maxRecDepth 100000
set_option maxHeartbeats 4000000
namespace L3
open PySem PySem.Spec PyProof.Rows L2
end L3
set_option Elab.async false
set_option linter.all false
set_option maxRecDepth 100000
set_option maxHeartbeats 4000000
namespace L3
open PySem PySem.Spec PyProof.Rows L2
end L3
set_option Elab.async false
set_option linter.all false
set_option maxRecDepth 100000
set_option maxHeartbeats 4000000
namespace L3
open PySem PySem.Spec PyProof.Rows L2
end L3
set_option Elab.async false
set_option linter.all false
set_option maxRecDepth 100000
set_option maxHeartbeats 4000000
namespace L3
open PySem PySem.Spec PyProof.Rows L2
end L3
set_option Elab.async false
set_option linter.all false
set_option maxRecDepth 100000
set_option maxHeartbeats 4000000
namespace L3
open PySem PySem.Spec PyProof.Rows L2
end L3
set_option Elab.async false
set_option linter.all false
set_option maxRecDepth 100000
set_option maxHeartbeats 4000000
namespace L3
open PySem PySem.Spec PyProof.Rows L2
def setF {α : Type} (f : Nat → α) (q : Nat) (x : α) : Nat → α := fun v => if v = q then x else f v
theorem setF_same {α : Type} {f : Nat → α} {q : Nat} {x : α} : setF f q x q = x := if_pos rfl
theorem setF_ne {α : Type} {f : Nat → α} {q v : Nat} {x : α} (h : v ≠ q) : setF f q x v = f v := if_neg h
/-- k: the round; Pr: the pairs that were looked at in it; R: the last round in which a point fell; T: when it did -/
structure RingI (n k : Nat) (F : Fn) (Pr : Nat → Nat → Prop) (s : Nat → Int) (f R T : Nat → Nat) (c : Nat) : Prop where
  fl : ∀ v, v < n → f v < n
  up : ∀ v, v < n → 0 < R v → ∃ e, F (f v) v = some e ∧ (s (f v) + e < s v ∨ (s (f v) + e = s v ∧ T (f v) < T v))
  rk : ∀ v, v < n → R v ≤ k
  ln : ∀ v, v < n → R v ≤ R (f v) + 1
  tc : ∀ v, v < n → T v < c
  dn : ∀ p q e, p < n → q < n → F p q = some e → (R p + 1 < k ∨ (Pr p q ∧ R p < k)) → s q ≤ s p + e
theorem RingI.upd {n k c p q : Nat} {F : Fn} {Pr Pr' : Nat → Nat → Prop} {s : Nat → Int} {f R T : Nat → Nat} {e : Int} (h : RingI n k F Pr s f R T c) (hk : 0 < k) (hp : p < n) (hq : q < n) (hF : F p q = some e) (lt : s p + e < s q)
    (hPr : ∀ x y, Pr' x y → Pr x y ∨ (x = p ∧ y = q)) : RingI n k F Pr' (setF s q (s p + e)) (setF f q p) (setF R q k) (setF T q c) (c + 1) := by
  have rp : k ≤ R p + 1 := by
    rcases Nat.lt_or_ge (R p + 1) k with z | z
    · have := h.dn p q e hp hq hF (.inl z); omega
    · exact z
  refine ⟨fun v hv => ?_, fun v hv hR => ?_, fun v hv => ?_, fun v hv => ?_, fun v hv => ?_, fun x y g hx hy hg hd => ?_⟩
  · by_cases e1 : v = q
    · rw [e1, setF_same]; exact hp
    · rw [setF_ne e1]; exact h.fl v hv
  · by_cases e1 : v = q
    · subst e1
      rw [setF_same (f := f), setF_same (f := s)]
      refine ⟨e, hF, ?_⟩
      by_cases e2 : p = v
      · subst e2
        rw [setF_same]
        left; omega
      · rw [setF_ne (f := s) e2, setF_ne (f := T) e2, setF_same]
        exact .inr ⟨rfl, h.tc p hp⟩
    · rw [setF_ne e1] at hR
      rw [setF_ne (f := f) e1, setF_ne (f := s) e1]
      obtain ⟨g, hg, h2⟩ := h.up v hv hR
      refine ⟨g, hg, ?_⟩
      by_cases e2 : f v = q
      · left
        rw [e2, setF_same]
        rw [e2] at h2
        omega
      · rw [setF_ne (f := s) e2, setF_ne (f := T) e2, setF_ne (f := T) e1]
        exact h2
  · by_cases e1 : v = q
    · rw [e1, setF_same]; omega
    · rw [setF_ne e1]; exact h.rk v hv
  · by_cases e1 : v = q
    · subst e1
      rw [setF_same (f := f), setF_same]
      by_cases e2 : p = v
      · subst e2; rw [setF_same]; omega
      · rw [setF_ne e2]; exact rp
    · rw [setF_ne (f := f) e1, setF_ne (f := R) e1]
      by_cases e2 : f v = q
      · rw [e2, setF_same]
        have := h.rk v hv
        omega
      · rw [setF_ne e2]; exact h.ln v hv
  · by_cases e1 : v = q
    · rw [e1, setF_same]; omega
    · rw [setF_ne e1]
      have := h.tc v hv
      omega
  · by_cases e1 : x = q
    · subst e1
      rw [setF_same] at hd
      omega
    · rw [setF_ne e1] at hd
      have hs : setF s q (s p + e) x = s x := setF_ne e1
      rw [hs]
      by_cases e2 : y = q
      · subst e2
        rw [setF_same]
        rcases hd with hd | ⟨hd, hr⟩
        · have := h.dn x y g hx hy hg (.inl hd); omega
        · rcases hPr x y hd with z | ⟨z, _⟩
          · have := h.dn x y g hx hy hg (.inr ⟨z, hr⟩); omega
          · subst z
            rw [hF] at hg; cases hg; omega
      · rw [setF_ne e2]
        rcases hd with hd | ⟨hd, hr⟩
        · exact h.dn x y g hx hy hg (.inl hd)
        · rcases hPr x y hd with z | ⟨_, z⟩
          · exact h.dn x y g hx hy hg (.inr ⟨z, hr⟩)
          · exact absurd z e2
theorem RingI.skip {n k c p q : Nat} {F : Fn} {Pr Pr' : Nat → Nat → Prop} {s : Nat → Int} {f R T : Nat → Nat} (h : RingI n k F Pr s f R T c) (no : ∀ e, F p q = some e → s q ≤ s p + e)
    (hPr : ∀ x y, Pr' x y → Pr x y ∨ (x = p ∧ y = q)) : RingI n k F Pr' s f R T c :=
  ⟨h.fl, h.up, h.rk, h.ln, h.tc, fun x y g hx hy hg hd => by
    rcases hd with hd | ⟨hd, hr⟩
    · exact h.dn x y g hx hy hg (.inl hd)
    · rcases hPr x y hd with z | ⟨z1, z2⟩
      · exact h.dn x y g hx hy hg (.inr ⟨z, hr⟩)
      · subst z1; subst z2; exact no g hg⟩
def PrAt (i j : Nat) : Nat → Nat → Prop := fun p q => p < i ∨ (p = i ∧ q < j)
theorem RingI.next {n k c : Nat} {F : Fn} {s : Nat → Int} {f R T : Nat → Nat} (h : RingI n k F (PrAt n 0) s f R T c) : RingI n (k + 1) F (PrAt 0 0) s f R T c :=
  ⟨h.fl, h.up, fun v hv => Nat.le_succ_of_le (h.rk v hv), h.ln, h.tc, fun x y g hx hy hg hd => by
    rcases hd with hd | ⟨hd, hr⟩
    · exact h.dn x y g hx hy hg (.inr ⟨.inl hx, by omega⟩)
    · rcases hd with z | ⟨_, z⟩ <;> exact absurd z (Nat.not_lt_zero _)⟩
theorem RingI.start {n : Nat} {F : Fn} : RingI n 1 F (PrAt 0 0) (fun _ => 0) (fun v => v) (fun _ => 0) (fun _ => 0) 1 :=
  ⟨fun v h => h, fun v _ h => absurd h (Nat.lt_irrefl _), fun _ _ => Nat.zero_le _, fun _ _ => Nat.zero_le _, fun _ _ => Nat.zero_lt_one, fun p q e _ _ _ hd => by
    rcases hd with hd | ⟨hd, _⟩
    · omega
    · rcases hd with z | ⟨_, z⟩ <;> exact absurd z (Nat.not_lt_zero _)⟩
/-- who fell last in this round -/
def FellI (n k : Nat) (R : Nat → Nat) : Option Nat → Prop
  | none => ∀ v, v < n → R v < k
  | some x => x < n ∧ R x = k
/-- in round k, rows ahead of i done, of row i columns ahead of j -/
def RI (n k : Nat) (F : Fn) (i j : Nat) (s : Nat → Int) (f : Nat → Nat) (r : Option Nat) : Prop := ∃ R T c, RingI n k F (PrAt i j) s f R T c ∧ FellI n k R r
theorem pr_step {i j x y : Nat} (h : PrAt i (j + 1) x y) : PrAt i j x y ∨ (x = i ∧ y = j) := by
  rcases h with h | ⟨h, h2⟩
  · exact .inl (.inl h)
  · rcases Nat.lt_or_ge y j with z | z
    · exact .inl (.inr ⟨h, z⟩)
    · exact .inr ⟨h, by omega⟩
theorem RI.upd {n k i j : Nat} {F : Fn} {s : Nat → Int} {f : Nat → Nat} {r : Option Nat} {e : Int} (h : RI n k F i j s f r) (hk : 0 < k) (hi : i < n) (hj : j < n) (hF : F i j = some e) (lt : s i + e < s j) : RI n k F i (j + 1) (setF s j (s i + e)) (setF f j i) (some j) := by
  obtain ⟨R, T, c, h, _⟩ := h
  exact ⟨_, _, _, h.upd hk hi hj hF lt fun _ _ => pr_step, hj, setF_same⟩
theorem RI.skip {n k i j : Nat} {F : Fn} {s : Nat → Int} {f : Nat → Nat} {r : Option Nat} (h : RI n k F i j s f r) (no : ∀ e, F i j = some e → s j ≤ s i + e) : RI n k F i (j + 1) s f r := by
  obtain ⟨R, T, c, h, fe⟩ := h
  exact ⟨_, _, _, h.skip no fun _ _ => pr_step, fe⟩
theorem RI.row {n k i : Nat} {F : Fn} {s : Nat → Int} {f : Nat → Nat} {r : Option Nat} (h : RI n k F i n s f r) : RI n k F (i + 1) 0 s f r := by
  obtain ⟨R, T, c, h, fe⟩ := h
  refine ⟨R, T, c, ⟨h.fl, h.up, h.rk, h.ln, h.tc, fun x y g hx hy hg hd => h.dn x y g hx hy hg (hd.imp id fun ⟨z, hr⟩ => ⟨?_, hr⟩)⟩, fe⟩
  rcases z with z | ⟨_, z⟩
  · rcases Nat.lt_or_ge x i with w | w
    · exact .inl w
    · exact .inr ⟨by omega, hy⟩
  · exact absurd z (Nat.not_lt_zero _)
theorem RI.next {n k : Nat} {F : Fn} {s : Nat → Int} {f : Nat → Nat} {r : Option Nat} (h : RI n k F n 0 s f r) : RI n (k + 1) F 0 0 s f none := by
  obtain ⟨R, T, c, h, _⟩ := h
  exact ⟨R, T, c, h.next, fun v hv => Nat.lt_succ_of_le (h.rk v hv)⟩
theorem RI.start {n : Nat} {F : Fn} : RI n 1 F 0 0 (fun _ => 0) (fun v => v) none := ⟨_, _, _, .start, fun _ _ => Nat.zero_lt_one⟩
/-- nobody fell in the last round: values -/
theorem RI.still {n k : Nat} {F : Fn} {s : Nat → Int} {f : Nat → Nat} (h : RI n k F n 0 s f none) : Meets n F fun v => - s v := by
  obtain ⟨R, T, c, h, fe⟩ := h
  intro p q hp hq e he
  have := h.dn p q e hp hq he (.inr ⟨.inl hp, fe p hp⟩)
  show - s p - - s q ≤ e
  omega
def goB (f : Nat → Nat) : Nat → Nat → Nat
  | 0, v => v
  | k + 1, v => f (goB f k v)
theorem goB_add {f : Nat → Nat} {v : Nat} (a : Nat) : ∀ b, goB f (a + b) v = goB f b (goB f a v)
  | 0 => rfl
  | b + 1 => congrArg f (goB_add a b)
/-- a point that fell in round n, n points: n steps back stands a ring of points that fell -/
theorem RI.ring {n : Nat} {F : Fn} {s : Nat → Int} {f : Nat → Nat} {x : Nat} (h : RI n n F n 0 s f (some x)) : ∃ R T c, RingI n n F (PrAt n 0) s f R T c ∧ (∀ k, goB f k x < n) ∧
    ∃ d, 0 < d ∧ d ≤ n ∧ goB f d (goB f n x) = goB f n x ∧ ∀ k, 0 < R (goB f k (goB f n x)) := by
  obtain ⟨R, T, c, h, hx, hR⟩ := h
  have lt : ∀ k, goB f k x < n := fun k => by
    induction k with
    | zero => exact hx
    | succ k ih => exact h.fl _ ih
  have rr : ∀ k, n ≤ R (goB f k x) + k := fun k => by
    induction k with
    | zero => show n ≤ R x + 0; omega
    | succ k ih =>
      have := h.ln _ (lt k)
      show n ≤ R (f (goB f k x)) + (k + 1)
      omega
  refine ⟨R, T, c, h, lt, ?_⟩
  obtain ⟨i, j, hij, hj, e⟩ : ∃ i j, i < j ∧ j ≤ n ∧ goB f i x = goB f j x := by
    refine Classical.byContradiction fun no => ?_
    have nd : ((List.range (n + 1)).map fun k => ((goB f k x : Nat) : Int)).Nodup := by
      refine List.pairwise_iff_getElem.mpr fun i j hi hj hij => ?_
      rw [List.length_map, List.length_range] at hi hj
      rw [List.getElem_map, List.getElem_map, List.getElem_range, List.getElem_range]
      exact fun e => no ⟨i, j, hij, by omega, by omega⟩
    have := nodup_sub_len (ns := (List.range n).map fun k : Nat => (k : Int)) nd fun k hk => by
      obtain ⟨a, _, rfl⟩ := List.mem_map.mp hk
      exact List.mem_map.mpr ⟨_, List.mem_range.mpr (lt a), rfl⟩
    rw [List.length_map, List.length_map, List.length_range, List.length_range] at this
    omega
  have per : ∀ k, i ≤ k → goB f (k + (j - i)) x = goB f k x := fun k hk => by
    have e1 : k = i + (k - i) := by omega
    have e2 : k + (j - i) = j + (k - i) := by omega
    rw [e2, goB_add, ← e, ← goB_add, ← e1]
  have pos : ∀ k, i ≤ k → 0 < R (goB f k x) := fun k => by
    induction k using Nat.strongRecOn with
    | ind k ih =>
      intro hk
      rcases Nat.lt_or_ge k n with z | z
      · have := rr k; omega
      · have e1 := per (k - (j - i)) (by omega)
        rw [show k - (j - i) + (j - i) = k by omega] at e1
        rw [e1]
        exact ih _ (by omega) (by omega)
  refine ⟨j - i, by omega, by omega, ?_, fun k => ?_⟩
  · rw [← goB_add]; exact per n (by omega)
  · rw [← goB_add]; exact pos _ (by omega)
def endS (F : Fn) (f : Nat → Nat) (v : Nat) : Int := (F (f v) v).getD 0
def sumS (F : Fn) (f : Nat → Nat) (v : Nat) : Nat → Int
  | 0 => 0
  | k + 1 => sumS F f v k + endS F f (goB f k v)
theorem sum_goB {n k c : Nat} {F : Fn} {Pr : Nat → Nat → Prop} {s : Nat → Int} {f R T : Nat → Nat} (h : RingI n k F Pr s f R T c) {v : Nat} (hv : ∀ k, goB f k v < n) (hR : ∀ k, 0 < R (goB f k v)) : ∀ m, 0 < m →
    s (goB f m v) + sumS F f v m < s v ∨ (s (goB f m v) + sumS F f v m = s v ∧ T (goB f m v) < T v)
  | 0, h0 => absurd h0 (Nat.lt_irrefl _)
  | m + 1, _ => by
    obtain ⟨e, he, h2⟩ := h.up _ (hv m) (hR m)
    have es : endS F f (goB f m v) = e := by unfold endS; rw [he]; rfl
    show s (f (goB f m v)) + (sumS F f v m + endS F f (goB f m v)) < s v ∨ (s (f (goB f m v)) + (sumS F f v m + endS F f (goB f m v)) = s v ∧ T (f (goB f m v)) < T v)
    rw [es]
    cases m with
    | zero =>
      have e0 : sumS F f v 0 = 0 := rfl
      have e1 : goB f 0 v = v := rfl
      rw [e0, Int.zero_add]
      rw [e1] at h2 ⊢
      exact h2
    | succ m =>
      have ih := sum_goB h hv hR (m + 1) (Nat.succ_pos _)
      omega
theorem sum_neg {n k c : Nat} {F : Fn} {Pr : Nat → Nat → Prop} {s : Nat → Int} {f R T : Nat → Nat} (h : RingI n k F Pr s f R T c) {v d : Nat} (hv : ∀ k, goB f k v < n) (hR : ∀ k, 0 < R (goB f k v)) (hd : 0 < d) (e : goB f d v = v) : sumS F f v d < 0 := by
  have := sum_goB h hv hR d hd
  rw [e] at this
  omega
/-- points, all unlike, the ends from each to the next one -/
structure RingOf (n : Nat) (F : Fn) (rs : List Nat) (es : List Int) : Prop where
  ne : rs ≠ []
  nd : rs.Nodup
  lt : ∀ r ∈ rs, r < n
  ln : es.length = rs.length
  at' : ∀ k, k < rs.length → F (rs.getD k 0) (rs.getD ((k + 1) % rs.length) 0) = some (es.getD k 0)
def goL (f : Nat → Nat) (v l : Nat) : List Nat := (List.range l).map fun k => goB f k v
theorem goL_len {f : Nat → Nat} {v l : Nat} : (goL f v l).length = l := by unfold goL; rw [List.length_map, List.length_range]
theorem goL_get {f : Nat → Nat} {v l k : Nat} (h : k < l) : (goL f v l)[k]? = some (goB f k v) := by
  unfold goL; rw [List.getElem?_map, List.getElem?_range h]; rfl
theorem goL_nodup {f : Nat → Nat} {v l : Nat} (e : goB f l v = v) (h : ∀ k, 0 < k → k < l → goB f k v ≠ v) : (goL f v l).Nodup := by
  refine List.pairwise_iff_getElem.mpr fun i j hi hj hij => ?_
  have hi' : i < l := by rw [goL_len] at hi; exact hi
  have hj' : j < l := by rw [goL_len] at hj; exact hj
  have a := goL_get (f := f) (v := v) hi'
  have b := goL_get (f := f) (v := v) hj'
  rw [List.getElem?_eq_getElem hi] at a
  rw [List.getElem?_eq_getElem hj] at b
  rw [Option.some.inj a, Option.some.inj b]
  intro z
  refine h (i + (l - j)) (by omega) (by omega) ?_
  rw [goB_add, z, ← goB_add, show j + (l - j) = l by omega, e]
theorem revGetD {α : Type} {xs : List α} {k : Nat} {x : α} (h : k < xs.length) : xs.reverse.getD k x = xs.getD (xs.length - 1 - k) x := by
  rw [List.getD_eq_getElem?_getD, List.getD_eq_getElem?_getD, List.getElem?_reverse h]
theorem sumS_eq {F : Fn} {f : Nat → Nat} {v : Nat} : ∀ l, sumS F f v l = ((List.range l).map fun k => endS F f (goB f k v)).sum
  | 0 => rfl
  | l + 1 => by
    rw [List.range_succ, List.map_append, List.sum_append]
    show sumS F f v l + _ = _
    rw [sumS_eq l]; simp
/-- the ends of a ring goB from a point: that of the last one first -/
theorem ring_goB {n k c : Nat} {F : Fn} {Pr : Nat → Nat → Prop} {s : Nat → Int} {f R T : Nat → Nat} (h : RingI n k F Pr s f R T c) {v l : Nat} (hv : ∀ k, goB f k v < n) (hR : ∀ k, 0 < R (goB f k v)) (hl : 0 < l) (e : goB f l v = v)
    (hm : ∀ k, 0 < k → k < l → goB f k v ≠ v) : ∃ es, RingOf n F (goL f v l).reverse es ∧ es.sum < 0 := by
  have neg := sum_neg h hv hR hl e
  rw [sumS_eq] at neg
  have len : (goL f v l).reverse.length = l := by rw [List.length_reverse, goL_len]
  have gd : ∀ k, k < l → (goL f v l).reverse.getD k 0 = goB f (l - 1 - k) v := fun k hk => by
    rw [revGetD (by rw [goL_len]; exact hk), goL_len, List.getD_eq_getElem?_getD, goL_get (by omega)]; rfl
  refine ⟨(((List.range (l - 1)).map fun k => endS F f (goB f k v)).reverse) ++ [endS F f (goB f (l - 1) v)], ⟨fun z => ?_, ?_, fun r hr => ?_, ?_, fun k hk => ?_⟩, ?_⟩
  · have := congrArg List.length z
    rw [len] at this
    exact absurd this (by show ¬ (l = 0); omega)
  · exact List.pairwise_reverse.mpr (List.Pairwise.imp (fun h => Ne.symm h) (goL_nodup e hm))
  · rw [List.mem_reverse] at hr
    obtain ⟨k, _, rfl⟩ := List.mem_map.mp hr
    exact hv k
  · rw [len, List.length_append, List.length_reverse, List.length_map, List.length_range]; show l - 1 + 1 = l; omega
  · rw [len] at hk ⊢
    rw [gd k hk, gd _ (Nat.mod_lt _ hl)]
    have fin : ∀ j, F (f (goB f j v)) (goB f j v) = some (endS F f (goB f j v)) := fun j => by
      obtain ⟨x, hx, _⟩ := h.up _ (hv j) (hR j)
      unfold endS; rw [hx]; rfl
    rcases Nat.lt_or_ge k (l - 1) with z | z
    · rw [Nat.mod_eq_of_lt (by omega)]
      have e1 : goB f (l - 1 - k) v = f (goB f (l - 1 - (k + 1)) v) := by
        rw [show l - 1 - k = (l - 1 - (k + 1)) + 1 by omega]; rfl
      rw [e1, fin, List.getD_eq_getElem?_getD, List.getElem?_append_left (by rw [List.length_reverse, List.length_map, List.length_range]; exact z),
        List.getElem?_reverse (by rw [List.length_map, List.length_range]; exact z), List.length_map, List.length_range, List.getElem?_map, List.getElem?_range (by omega), show l - 1 - 1 - k = l - 1 - (k + 1) by omega]
      rfl
    · have ek : k = l - 1 := by omega
      subst ek
      rw [show l - 1 + 1 = l by omega, Nat.mod_self, Nat.sub_self, Nat.sub_zero]
      show F v _ = _
      have e1 : F v (goB f (l - 1) v) = F (f (goB f (l - 1) v)) (goB f (l - 1) v) := by
        have : f (goB f (l - 1) v) = v := by
          show goB f (l - 1 + 1) v = v
          rw [show l - 1 + 1 = l by omega, e]
        rw [this]
      rw [e1, fin, List.getD_eq_getElem?_getD, List.getElem?_append_right (by rw [List.length_reverse, List.length_map, List.length_range]; exact Nat.le_refl _), List.length_reverse, List.length_map, List.length_range, Nat.sub_self]
      rfl
  · rw [List.sum_append, List.sum_reverse]
    have : ((List.range l).map fun k => endS F f (goB f k v)).sum = ((List.range (l - 1)).map fun k => endS F f (goB f k v)).sum + endS F f (goB f (l - 1) v) := by
      rw [show l = (l - 1) + 1 by omega, List.range_succ, List.map_append, List.sum_append]
      simp
    rw [this] at neg
    simpa using neg
/-- a ring below nought: no values -/
theorem range_sum_rot {g : Nat → Int} {l : Nat} (hl : 0 < l) : ((List.range l).map fun k => g ((k + 1) % l)).sum = ((List.range l).map g).sum := by
  obtain ⟨m, rfl⟩ : ∃ m, l = m + 1 := ⟨l - 1, by omega⟩
  rw [List.range_succ, List.map_append, List.sum_append]
  have e1 : ((List.range m).map fun k => g ((k + 1) % (m + 1))) = (List.range m).map fun k => g (k + 1) := List.map_congr_left fun k hk => by
    have := List.mem_range.mp hk
    rw [Nat.mod_eq_of_lt (by omega)]
  rw [e1]
  show _ + ([g ((m + 1) % (m + 1))]).sum = ((List.range m ++ [m]).map g).sum
  rw [Nat.mod_self, ← List.range_succ, List.range_succ_eq_map, List.map_cons, List.sum_cons, List.map_map]
  simp only [List.sum_cons, List.sum_nil, Int.add_zero]
  rw [Int.add_comm]
  rfl
theorem sum_le_of {l : Nat} {a b : Nat → Int} (h : ∀ k, k < l → a k ≤ b k) : ((List.range l).map a).sum ≤ ((List.range l).map b).sum := by
  induction l with
  | zero => exact Int.le_refl _
  | succ l ih =>
    rw [List.range_succ, List.map_append, List.map_append, List.sum_append, List.sum_append]
    have := ih fun k hk => h k (by omega)
    have := h l (Nat.lt_succ_self _)
    simp only [List.map_cons, List.map_nil, List.sum_cons, List.sum_nil, Int.add_zero]
    omega
theorem sum_sub_of {l : Nat} {a b : Nat → Int} : ((List.range l).map fun k => a k - b k).sum = ((List.range l).map a).sum - ((List.range l).map b).sum := by
  induction l with
  | zero => rfl
  | succ l ih =>
    rw [List.range_succ, List.map_append, List.map_append, List.map_append, List.sum_append, List.sum_append, List.sum_append, ih]
    simp only [List.map_cons, List.map_nil, List.sum_cons, List.sum_nil, Int.add_zero]
    omega
theorem sum_getD : ∀ (es : List Int), ((List.range es.length).map fun k => es.getD k 0).sum = es.sum := fun es => by
  congr 1
  refine List.ext_getElem (by simp) fun i h1 h2 => ?_
  rw [List.getElem_map, List.getElem_range, List.getD_eq_getElem?_getD, List.getElem?_eq_getElem h2]; rfl
theorem RingOf.least {n : Nat} {F : Fn} {rs : List Nat} {es : List Int} (h : RingOf n F rs es) {v : Nat → Int} (m : Meets n F v) : 0 ≤ es.sum := by
  have hl : 0 < rs.length := List.length_pos_iff.mpr h.ne
  have inn : ∀ k, k < rs.length → rs.getD k 0 < n := fun k hk => by
    rw [List.getD_eq_getElem?_getD, List.getElem?_eq_getElem hk]
    exact h.lt _ (List.getElem_mem hk)
  have a : ((List.range rs.length).map fun k => v (rs.getD k 0) - v (rs.getD ((k + 1) % rs.length) 0)).sum ≤ ((List.range rs.length).map fun k => es.getD k 0).sum :=
    sum_le_of fun k hk => m _ _ (inn k hk) (inn _ (Nat.mod_lt _ hl)) _ (h.at' k hk)
  rw [sum_sub_of, range_sum_rot (g := fun k => v (rs.getD k 0)) hl, Int.sub_self, ← h.ln, sum_getD] at a
  exact a
end L3
set_option Elab.async false
set_option linter.all false
set_option maxRecDepth 100000
set_option maxHeartbeats 4000000
namespace L3
open PySem PySem.Spec PyProof.Rows L2
def natL (f : List Nat) : List D := f.map fun x : Nat => D.int (x : Int)
def fnI (s : List Int) : Nat → Int := fun i => s.getD i 0
def fnN (f : List Nat) : Nat → Nat := fun i => f.getD i 0
theorem fnI_set {s : List Int} {q : Nat} {x : Int} (h : q < s.length) : fnI (s.set q x) = setF (fnI s) q x := by
  funext v
  show (s.set q x).getD v 0 = if v = q then x else s.getD v 0
  rw [List.getD_eq_getElem?_getD, List.getD_eq_getElem?_getD]
  by_cases e : v = q
  · subst e; rw [if_pos rfl, List.getElem?_set_self h]; rfl
  · rw [if_neg e, List.getElem?_set_ne (Ne.symm e)]
theorem fnN_set {s : List Nat} {q x : Nat} (h : q < s.length) : fnN (s.set q x) = setF (fnN s) q x := by
  funext v
  show (s.set q x).getD v 0 = if v = q then x else s.getD v 0
  rw [List.getD_eq_getElem?_getD, List.getD_eq_getElem?_getD]
  by_cases e : v = q
  · subst e; rw [if_pos rfl, List.getElem?_set_self h]; rfl
  · rw [if_neg e, List.getElem?_set_ne (Ne.symm e)]
theorem fnI_at {s : List Int} {i : Nat} (h : i < s.length) : atI (s.map D.int) (i : Int) = some (.int (fnI s i)) :=
  atI_nat (by rw [List.getElem?_map, List.getElem?_eq_getElem h]; unfold fnI; rw [List.getD_eq_getElem?_getD, List.getElem?_eq_getElem h]; rfl)
theorem natL_len {f : List Nat} : (natL f).length = f.length := List.length_map _
theorem fnN_at {f : List Nat} {i : Nat} (h : i < f.length) : atI (natL f) (i : Int) = some (.int (fnN f i : Nat)) :=
  atI_nat (by unfold natL; rw [List.getElem?_map, List.getElem?_eq_getElem h]; unfold fnN; rw [List.getD_eq_getElem?_getD, List.getElem?_eq_getElem h]; rfl)
theorem natL_set {f : List Nat} {i x : Nat} : (natL f).set i (.int (x : Int)) = natL (f.set i x) := by unfold natL; rw [List.map_set]
theorem ixN_lt {n i : Nat} (h : i < n) : ixN n (i : Int) = some i := by rw [ixN_nat (by omega) (by omega)]; simp
def fellD : Option Nat → D
  | none => .non
  | some x => .int (x : Nat)
def loosenR (sp_joined : Sp3) : XK3 → TS3 := fun E =>
  (wSeq (wSet 3 (wC .non))
  (wSeq (wFor (wEnum (wCons (wVar 0) wNil)) (wgTupN 2 (wgCons (wgName 4) (wgCons (wgName 5) wgNil))) (wFor (wEnum (wCons (wVar 5) wNil)) (wgTupN 2 (wgCons (wgName 6) (wgCons (wgName 7) wgNil))) (wSeq (wSet 8 (wCallP sp_joined E (wCons (wOp oIx (wVar 1) (wVar 4)) (wCons (wVar 7) wNil))))
  (wIfS (wAnd (wB (wOp (oIsN true) (wVar 8) (wC .non))) (wB (wOp oLt (wVar 8) (wOp oIx (wVar 1) (wVar 6))))) (wSeq (wAsg (wVar 8) (wgSub (wVar 1) (wVar 6) oPut))
  (wSeq (wAsg (wVar 4) (wgSub (wVar 2) (wVar 6) oPut))
  (wSet 3 (wVar 6)))) wNext))))
  (wRet (wVar 3))))
/-- what stands at the two lists, in round k, at a place -/
structure LsSt (n k i j : Nat) (F : Fn) (a b : Addr) (Ma M : Mp) (s : List Int) (f : List Nat) (r : Option Nat) : Prop where
  sl : s.length = n
  fl : f.length = n
  ma : M a = some (.lst (s.map D.int))
  mb : M b = some (.lst (natL f))
  ot : ∀ c, c ≠ a → c ≠ b → M c = Ma c
  ri : RI n k F i j (fnI s) (fnN f) r
def SLoosen (sp : Sp3) : Prop := ∀ (n B k : Nat) (T : Tab) (a b : Addr) (s : List Int) (f : List Nat) (M : Mp) (Q : VK3) (E : XK3), n ≤ 1000 → 0 < k → TabB B n T → a ≠ b → LsSt n k 0 0 (at2 T) a b M M s f none →
  (∀ s' f' r M', LsSt n k n 0 (at2 T) a b M M' s' f' r → Q (fellD r) M') → sp [tabD T, .ref a, .ref b] M Q E
theorem s_loosen {sj : Sp3} (kj : SJoined sj) : SLoosen (spOf 3 9 (loosenR sj)) := by
  refine fun n B k T a b s f Ma Q E hn hk tT hab h0 q => ⟨rfl, ?_⟩
  show loosenR sj E _ [some (tabD T), some (.ref a), some (.ref b), none, none, none, none, none, none] Ma
  unfold loosenR
  rw [st_seq, st_set]
  simp only [ex_c, ex_var, ex_op, ex_un, ex_b, ex_and, ex_or, ex_not, ex_andV, ex_orV, ex_notV, ex_if, ex_chain, ex_nil, ex_cons, ex_tup, ex_lst, ex_call, ex_callP, ex_cb, ex_bm, ex_rep, ex_sl, ex_noPart, ex_part, ex_yes, it_items, it_rng1, it_rng2, tg_name, tg_sub, tg_tup, tg_cons, tg_nil, gs_0, gs_s, ss_0, ss_s, op_ii, op_ss, op_tt, op_mm, op_sb, op_ng, op_iNf, op_iNt, op_lle, op_ixT, op_ixR, op_ixL, op_putE, op_appE, it_tupE, it_rolE, it_refE, lstOf_l, exL, asS_some, asI_int, asB_bl, asL_some, asN_some, ite3_t, ite3_f, bl_1, bl_lenT, bl_lenR, bl_lenL, bl_lenS, bl_tuple, bl_list, bl_abs, bl_intI, bl_intB, bl_max, bl_min, op_eqSf, op_eqSt, op_eqIf, op_eqIt, op_eqTf, op_eqTt, op_eqRf, op_eqRt, op_eqNf, op_eqNt, eqD_int, eqD_nil, pl_int, pl_nil, pl_non, pl_rnil, pl_bl, sl_tupE, sl_rolE, keep_ref, keep_tup, keep_rol, tp_int, tp_tup, tp_rol, tp_str, tp_bl, tp_non, tp_ref, oFd, oMd, oPw, oShl, oLt, oLe, oGt, oGe, op_in, op_cp, wipe_nil, wipe_cons, mset_same, true_and, and_true, isN_int, ex_lstF, ex_repF, ex_lgF1, ex_lgF2, ex_tupRg1, ex_tupRg2, ex_frz, ex_slF, ex_slM, sl_tupF, sl_rolF, op_iiF, op_ssF, op_ttF, op_rrF, op_rrM, op_mmF, op_repF, li_rol, li_ref, bl_listF, bl_allF, bl_anyF, asT_some, asJ_some, op_eqBf, op_eqBt, isN_non, Bool.not_true, Bool.not_false, rep2]
  try dsimp only
  rw [st_seq, st_for, it_enumF]
  simp only [ex_c, ex_var, ex_op, ex_un, ex_b, ex_and, ex_or, ex_not, ex_andV, ex_orV, ex_notV, ex_if, ex_chain, ex_nil, ex_cons, ex_tup, ex_lst, ex_call, ex_callP, ex_cb, ex_bm, ex_rep, ex_sl, ex_noPart, ex_part, ex_yes, it_items, it_rng1, it_rng2, tg_name, tg_sub, tg_tup, tg_cons, tg_nil, gs_0, gs_s, ss_0, ss_s, op_ii, op_ss, op_tt, op_mm, op_sb, op_ng, op_iNf, op_iNt, op_lle, op_ixT, op_ixR, op_ixL, op_putE, op_appE, it_tupE, it_rolE, it_refE, lstOf_l, exL, asS_some, asI_int, asB_bl, asL_some, asN_some, ite3_t, ite3_f, bl_1, bl_lenT, bl_lenR, bl_lenL, bl_lenS, bl_tuple, bl_list, bl_abs, bl_intI, bl_intB, bl_max, bl_min, op_eqSf, op_eqSt, op_eqIf, op_eqIt, op_eqTf, op_eqTt, op_eqRf, op_eqRt, op_eqNf, op_eqNt, eqD_int, eqD_nil, pl_int, pl_nil, pl_non, pl_rnil, pl_bl, sl_tupE, sl_rolE, keep_ref, keep_tup, keep_rol, tp_int, tp_tup, tp_rol, tp_str, tp_bl, tp_non, tp_ref, oFd, oMd, oPw, oShl, oLt, oLe, oGt, oGe, op_in, op_cp, wipe_nil, wipe_cons, mset_same, true_and, and_true, isN_int, ex_lstF, ex_repF, ex_lgF1, ex_lgF2, ex_tupRg1, ex_tupRg2, ex_frz, ex_slF, ex_slM, sl_tupF, sl_rolF, op_iiF, op_ssF, op_ttF, op_rrF, op_rrM, op_mmF, op_repF, li_rol, li_ref, bl_listF, bl_allF, bl_anyF, asT_some, asJ_some, op_eqBf, op_eqBt, isN_non, Bool.not_true, Bool.not_false, rep2, it_tabE, tabD]
  refine for_en (fun p τ M => p ≤ n ∧ (∃ s f r, LsSt n k p 0 (at2 T) a b Ma M s f r ∧ ∃ x4 x5 x6 x7 x8, τ = [some (tabD T), some (.ref a), some (.ref b), some (fellD r), x4, x5, x6, x7, x8])) (fun _ => True.intro) ?_ ?_ ⟨Nat.zero_le _, s, f, none, h0, _, _, _, _, _, rfl⟩
  · rintro p rd τ M hrd ⟨_, s, f, r, ls, x4, x5, x6, x7, x8, rfl⟩ Y hY
    rw [List.getElem?_map] at hrd
    obtain ⟨row, hr, rfl⟩ := Option.map_eq_some_iff.mp hrd
    have hpl : p < n := by rw [← tT.rows]; exact (List.getElem?_eq_some_iff.mp hr).1
    have hrl : row.length = n := tT.cols row (List.mem_of_getElem? hr)
    have hat : ∀ j, at2 T p j = row.getD j none := fun j => by unfold at2; rw [List.getD_eq_getElem?_getD (l := T), hr]; rfl
    simp only [ex_c, ex_var, ex_op, ex_un, ex_b, ex_and, ex_or, ex_not, ex_andV, ex_orV, ex_notV, ex_if, ex_chain, ex_nil, ex_cons, ex_tup, ex_lst, ex_call, ex_callP, ex_cb, ex_bm, ex_rep, ex_sl, ex_noPart, ex_part, ex_yes, it_items, it_rng1, it_rng2, tg_name, tg_sub, tg_tup, tg_cons, tg_nil, gs_0, gs_s, ss_0, ss_s, op_ii, op_ss, op_tt, op_mm, op_sb, op_ng, op_iNf, op_iNt, op_lle, op_ixT, op_ixR, op_ixL, op_putE, op_appE, it_tupE, it_rolE, it_refE, lstOf_l, exL, asS_some, asI_int, asB_bl, asL_some, asN_some, ite3_t, ite3_f, bl_1, bl_lenT, bl_lenR, bl_lenL, bl_lenS, bl_tuple, bl_list, bl_abs, bl_intI, bl_intB, bl_max, bl_min, op_eqSf, op_eqSt, op_eqIf, op_eqIt, op_eqTf, op_eqTt, op_eqRf, op_eqRt, op_eqNf, op_eqNt, eqD_int, eqD_nil, pl_int, pl_nil, pl_non, pl_rnil, pl_bl, sl_tupE, sl_rolE, keep_ref, keep_tup, keep_rol, tp_int, tp_tup, tp_rol, tp_str, tp_bl, tp_non, tp_ref, oFd, oMd, oPw, oShl, oLt, oLe, oGt, oGe, op_in, op_cp, wipe_nil, wipe_cons, mset_same, true_and, and_true, isN_int, ex_lstF, ex_repF, ex_lgF1, ex_lgF2, ex_tupRg1, ex_tupRg2, ex_frz, ex_slF, ex_slM, sl_tupF, sl_rolF, op_iiF, op_ssF, op_ttF, op_rrF, op_rrM, op_mmF, op_repF, li_rol, li_ref, bl_listF, bl_allF, bl_anyF, asT_some, asJ_some, op_eqBf, op_eqBt, isN_non, Bool.not_true, Bool.not_false, rep2, List.length_cons, List.length_nil]
    rw [st_for, it_enumF]
    simp only [ex_c, ex_var, ex_op, ex_un, ex_b, ex_and, ex_or, ex_not, ex_andV, ex_orV, ex_notV, ex_if, ex_chain, ex_nil, ex_cons, ex_tup, ex_lst, ex_call, ex_callP, ex_cb, ex_bm, ex_rep, ex_sl, ex_noPart, ex_part, ex_yes, it_items, it_rng1, it_rng2, tg_name, tg_sub, tg_tup, tg_cons, tg_nil, gs_0, gs_s, ss_0, ss_s, op_ii, op_ss, op_tt, op_mm, op_sb, op_ng, op_iNf, op_iNt, op_lle, op_ixT, op_ixR, op_ixL, op_putE, op_appE, it_tupE, it_rolE, it_refE, lstOf_l, exL, asS_some, asI_int, asB_bl, asL_some, asN_some, ite3_t, ite3_f, bl_1, bl_lenT, bl_lenR, bl_lenL, bl_lenS, bl_tuple, bl_list, bl_abs, bl_intI, bl_intB, bl_max, bl_min, op_eqSf, op_eqSt, op_eqIf, op_eqIt, op_eqTf, op_eqTt, op_eqRf, op_eqRt, op_eqNf, op_eqNt, eqD_int, eqD_nil, pl_int, pl_nil, pl_non, pl_rnil, pl_bl, sl_tupE, sl_rolE, keep_ref, keep_tup, keep_rol, tp_int, tp_tup, tp_rol, tp_str, tp_bl, tp_non, tp_ref, oFd, oMd, oPw, oShl, oLt, oLe, oGt, oGe, op_in, op_cp, wipe_nil, wipe_cons, mset_same, true_and, and_true, isN_int, ex_lstF, ex_repF, ex_lgF1, ex_lgF2, ex_tupRg1, ex_tupRg2, ex_frz, ex_slF, ex_slM, sl_tupF, sl_rolF, op_iiF, op_ssF, op_ttF, op_rrF, op_rrM, op_mmF, op_repF, li_rol, li_ref, bl_listF, bl_allF, bl_anyF, asT_some, asJ_some, op_eqBf, op_eqBt, isN_non, Bool.not_true, Bool.not_false, rep2, it_rowE, rowD]
    refine for_en (fun j τ M => j ≤ n ∧ (∃ s f r, LsSt n k p j (at2 T) a b Ma M s f r ∧ ∃ x6 x7 x8, τ = [some (tabD T), some (.ref a), some (.ref b), some (fellD r), some (.int (p : Nat)), some (rowD row), x6, x7, x8])) (fun _ => True.intro) ?_ ?_ ⟨Nat.zero_le _, s, f, r, ls, _, _, _, rfl⟩
    · rintro j ed τ M hed ⟨_, s, f, r, ls, x6, x7, x8, rfl⟩ Z hZ
      rw [List.getElem?_map] at hed
      obtain ⟨e, he, rfl⟩ := Option.map_eq_some_iff.mp hed
      have hj : j < n := by rw [← hrl]; exact (List.getElem?_eq_some_iff.mp he).1
      have ha2 : at2 T p j = e := by rw [hat, List.getD_eq_getElem?_getD, he]; rfl
      have hps : p < s.length := by rw [ls.sl]; exact hpl
      have hjs : j < s.length := by rw [ls.sl]; exact hj
      simp only [ex_c, ex_var, ex_op, ex_un, ex_b, ex_and, ex_or, ex_not, ex_andV, ex_orV, ex_notV, ex_if, ex_chain, ex_nil, ex_cons, ex_tup, ex_lst, ex_call, ex_callP, ex_cb, ex_bm, ex_rep, ex_sl, ex_noPart, ex_part, ex_yes, it_items, it_rng1, it_rng2, tg_name, tg_sub, tg_tup, tg_cons, tg_nil, gs_0, gs_s, ss_0, ss_s, op_ii, op_ss, op_tt, op_mm, op_sb, op_ng, op_iNf, op_iNt, op_lle, op_ixT, op_ixR, op_ixL, op_putE, op_appE, it_tupE, it_rolE, it_refE, lstOf_l, exL, asS_some, asI_int, asB_bl, asL_some, asN_some, ite3_t, ite3_f, bl_1, bl_lenT, bl_lenR, bl_lenL, bl_lenS, bl_tuple, bl_list, bl_abs, bl_intI, bl_intB, bl_max, bl_min, op_eqSf, op_eqSt, op_eqIf, op_eqIt, op_eqTf, op_eqTt, op_eqRf, op_eqRt, op_eqNf, op_eqNt, eqD_int, eqD_nil, pl_int, pl_nil, pl_non, pl_rnil, pl_bl, sl_tupE, sl_rolE, keep_ref, keep_tup, keep_rol, tp_int, tp_tup, tp_rol, tp_str, tp_bl, tp_non, tp_ref, oFd, oMd, oPw, oShl, oLt, oLe, oGt, oGe, op_in, op_cp, wipe_nil, wipe_cons, mset_same, true_and, and_true, isN_int, ex_lstF, ex_repF, ex_lgF1, ex_lgF2, ex_tupRg1, ex_tupRg2, ex_frz, ex_slF, ex_slM, sl_tupF, sl_rolF, op_iiF, op_ssF, op_ttF, op_rrF, op_rrM, op_mmF, op_repF, li_rol, li_ref, bl_listF, bl_allF, bl_anyF, asT_some, asJ_some, op_eqBf, op_eqBt, isN_non, Bool.not_true, Bool.not_false, rep2, List.length_cons, List.length_nil]
      rw [st_seq, st_set]
      simp only [ex_c, ex_var, ex_op, ex_un, ex_b, ex_and, ex_or, ex_not, ex_andV, ex_orV, ex_notV, ex_if, ex_chain, ex_nil, ex_cons, ex_tup, ex_lst, ex_call, ex_callP, ex_cb, ex_bm, ex_rep, ex_sl, ex_noPart, ex_part, ex_yes, it_items, it_rng1, it_rng2, tg_name, tg_sub, tg_tup, tg_cons, tg_nil, gs_0, gs_s, ss_0, ss_s, op_ii, op_ss, op_tt, op_mm, op_sb, op_ng, op_iNf, op_iNt, op_lle, op_ixT, op_ixR, op_ixL, op_putE, op_appE, it_tupE, it_rolE, it_refE, lstOf_l, exL, asS_some, asI_int, asB_bl, asL_some, asN_some, ite3_t, ite3_f, bl_1, bl_lenT, bl_lenR, bl_lenL, bl_lenS, bl_tuple, bl_list, bl_abs, bl_intI, bl_intB, bl_max, bl_min, op_eqSf, op_eqSt, op_eqIf, op_eqIt, op_eqTf, op_eqTt, op_eqRf, op_eqRt, op_eqNf, op_eqNt, eqD_int, eqD_nil, pl_int, pl_nil, pl_non, pl_rnil, pl_bl, sl_tupE, sl_rolE, keep_ref, keep_tup, keep_rol, tp_int, tp_tup, tp_rol, tp_str, tp_bl, tp_non, tp_ref, oFd, oMd, oPw, oShl, oLt, oLe, oGt, oGe, op_in, op_cp, wipe_nil, wipe_cons, mset_same, true_and, and_true, isN_int, ex_lstF, ex_repF, ex_lgF1, ex_lgF2, ex_tupRg1, ex_tupRg2, ex_frz, ex_slF, ex_slM, sl_tupF, sl_rolF, op_iiF, op_ssF, op_ttF, op_rrF, op_rrM, op_mmF, op_repF, li_rol, li_ref, bl_listF, bl_allF, bl_anyF, asT_some, asJ_some, op_eqBf, op_eqBt, isN_non, Bool.not_true, Bool.not_false, rep2, ls.ma, fnI_at hps]
      refine kj (some (fnI s p)) e _ _ fun _ => ?_
      try dsimp only
      rw [st_if]
      cases e with
      | none =>
        simp only [ex_c, ex_var, ex_op, ex_un, ex_b, ex_and, ex_or, ex_not, ex_andV, ex_orV, ex_notV, ex_if, ex_chain, ex_nil, ex_cons, ex_tup, ex_lst, ex_call, ex_callP, ex_cb, ex_bm, ex_rep, ex_sl, ex_noPart, ex_part, ex_yes, it_items, it_rng1, it_rng2, tg_name, tg_sub, tg_tup, tg_cons, tg_nil, gs_0, gs_s, ss_0, ss_s, op_ii, op_ss, op_tt, op_mm, op_sb, op_ng, op_iNf, op_iNt, op_lle, op_ixT, op_ixR, op_ixL, op_putE, op_appE, it_tupE, it_rolE, it_refE, lstOf_l, exL, asS_some, asI_int, asB_bl, asL_some, asN_some, ite3_t, ite3_f, bl_1, bl_lenT, bl_lenR, bl_lenL, bl_lenS, bl_tuple, bl_list, bl_abs, bl_intI, bl_intB, bl_max, bl_min, op_eqSf, op_eqSt, op_eqIf, op_eqIt, op_eqTf, op_eqTt, op_eqRf, op_eqRt, op_eqNf, op_eqNt, eqD_int, eqD_nil, pl_int, pl_nil, pl_non, pl_rnil, pl_bl, sl_tupE, sl_rolE, keep_ref, keep_tup, keep_rol, tp_int, tp_tup, tp_rol, tp_str, tp_bl, tp_non, tp_ref, oFd, oMd, oPw, oShl, oLt, oLe, oGt, oGe, op_in, op_cp, wipe_nil, wipe_cons, mset_same, true_and, and_true, isN_int, ex_lstF, ex_repF, ex_lgF1, ex_lgF2, ex_tupRg1, ex_tupRg2, ex_frz, ex_slF, ex_slM, sl_tupF, sl_rolF, op_iiF, op_ssF, op_ttF, op_rrF, op_rrM, op_mmF, op_repF, li_rol, li_ref, bl_listF, bl_allF, bl_anyF, asT_some, asJ_some, op_eqBf, op_eqBt, isN_non, Bool.not_true, Bool.not_false, rep2, eAdd, oD, isN_non]
        rw [st_next]
        exact hZ _ _ ⟨hj, s, f, r, ⟨ls.sl, ls.fl, ls.ma, ls.mb, ls.ot, ls.ri.skip fun x hx => by rw [ha2] at hx; cases hx⟩, _, _, _, rfl⟩
      | some e =>
        simp only [ex_c, ex_var, ex_op, ex_un, ex_b, ex_and, ex_or, ex_not, ex_andV, ex_orV, ex_notV, ex_if, ex_chain, ex_nil, ex_cons, ex_tup, ex_lst, ex_call, ex_callP, ex_cb, ex_bm, ex_rep, ex_sl, ex_noPart, ex_part, ex_yes, it_items, it_rng1, it_rng2, tg_name, tg_sub, tg_tup, tg_cons, tg_nil, gs_0, gs_s, ss_0, ss_s, op_ii, op_ss, op_tt, op_mm, op_sb, op_ng, op_iNf, op_iNt, op_lle, op_ixT, op_ixR, op_ixL, op_putE, op_appE, it_tupE, it_rolE, it_refE, lstOf_l, exL, asS_some, asI_int, asB_bl, asL_some, asN_some, ite3_t, ite3_f, bl_1, bl_lenT, bl_lenR, bl_lenL, bl_lenS, bl_tuple, bl_list, bl_abs, bl_intI, bl_intB, bl_max, bl_min, op_eqSf, op_eqSt, op_eqIf, op_eqIt, op_eqTf, op_eqTt, op_eqRf, op_eqRt, op_eqNf, op_eqNt, eqD_int, eqD_nil, pl_int, pl_nil, pl_non, pl_rnil, pl_bl, sl_tupE, sl_rolE, keep_ref, keep_tup, keep_rol, tp_int, tp_tup, tp_rol, tp_str, tp_bl, tp_non, tp_ref, oFd, oMd, oPw, oShl, oLt, oLe, oGt, oGe, op_in, op_cp, wipe_nil, wipe_cons, mset_same, true_and, and_true, isN_int, ex_lstF, ex_repF, ex_lgF1, ex_lgF2, ex_tupRg1, ex_tupRg2, ex_frz, ex_slF, ex_slM, sl_tupF, sl_rolF, op_iiF, op_ssF, op_ttF, op_rrF, op_rrM, op_mmF, op_repF, li_rol, li_ref, bl_listF, bl_allF, bl_anyF, asT_some, asJ_some, op_eqBf, op_eqBt, isN_non, Bool.not_true, Bool.not_false, rep2, eAdd, oD, isN_int, Bool.not_false, ls.ma, fnI_at hjs]
        refine ite3_by (fun h => ?_) (fun h => ?_)
        · have h := of_decide_eq_true h
          have hlS : (s.map D.int).length = n := by rw [List.length_map, ls.sl]
          rw [st_seq, st_asg]
          simp only [ex_c, ex_var, ex_op, ex_un, ex_b, ex_and, ex_or, ex_not, ex_andV, ex_orV, ex_notV, ex_if, ex_chain, ex_nil, ex_cons, ex_tup, ex_lst, ex_call, ex_callP, ex_cb, ex_bm, ex_rep, ex_sl, ex_noPart, ex_part, ex_yes, it_items, it_rng1, it_rng2, tg_name, tg_sub, tg_tup, tg_cons, tg_nil, gs_0, gs_s, ss_0, ss_s, op_ii, op_ss, op_tt, op_mm, op_sb, op_ng, op_iNf, op_iNt, op_lle, op_ixT, op_ixR, op_ixL, op_putE, op_appE, it_tupE, it_rolE, it_refE, lstOf_l, exL, asS_some, asI_int, asB_bl, asL_some, asN_some, ite3_t, ite3_f, bl_1, bl_lenT, bl_lenR, bl_lenL, bl_lenS, bl_tuple, bl_list, bl_abs, bl_intI, bl_intB, bl_max, bl_min, op_eqSf, op_eqSt, op_eqIf, op_eqIt, op_eqTf, op_eqTt, op_eqRf, op_eqRt, op_eqNf, op_eqNt, eqD_int, eqD_nil, pl_int, pl_nil, pl_non, pl_rnil, pl_bl, sl_tupE, sl_rolE, keep_ref, keep_tup, keep_rol, tp_int, tp_tup, tp_rol, tp_str, tp_bl, tp_non, tp_ref, oFd, oMd, oPw, oShl, oLt, oLe, oGt, oGe, op_in, op_cp, wipe_nil, wipe_cons, mset_same, true_and, and_true, isN_int, ex_lstF, ex_repF, ex_lgF1, ex_lgF2, ex_tupRg1, ex_tupRg2, ex_frz, ex_slF, ex_slM, sl_tupF, sl_rolF, op_iiF, op_ssF, op_ttF, op_rrF, op_rrM, op_mmF, op_repF, li_rol, li_ref, bl_listF, bl_allF, bl_anyF, asT_some, asJ_some, op_eqBf, op_eqBt, isN_non, Bool.not_true, Bool.not_false, rep2, ls.ma, hlS, ixN_lt hj]
          try dsimp only
          rw [st_seq, st_asg]
          have hb : (mset M a (.lst ((s.map D.int).set j (.int (fnI s p + e))))) b = some (.lst (natL f)) := (mset_ne (Ne.symm hab)).trans ls.mb
          simp only [ex_c, ex_var, ex_op, ex_un, ex_b, ex_and, ex_or, ex_not, ex_andV, ex_orV, ex_notV, ex_if, ex_chain, ex_nil, ex_cons, ex_tup, ex_lst, ex_call, ex_callP, ex_cb, ex_bm, ex_rep, ex_sl, ex_noPart, ex_part, ex_yes, it_items, it_rng1, it_rng2, tg_name, tg_sub, tg_tup, tg_cons, tg_nil, gs_0, gs_s, ss_0, ss_s, op_ii, op_ss, op_tt, op_mm, op_sb, op_ng, op_iNf, op_iNt, op_lle, op_ixT, op_ixR, op_ixL, op_putE, op_appE, it_tupE, it_rolE, it_refE, lstOf_l, exL, asS_some, asI_int, asB_bl, asL_some, asN_some, ite3_t, ite3_f, bl_1, bl_lenT, bl_lenR, bl_lenL, bl_lenS, bl_tuple, bl_list, bl_abs, bl_intI, bl_intB, bl_max, bl_min, op_eqSf, op_eqSt, op_eqIf, op_eqIt, op_eqTf, op_eqTt, op_eqRf, op_eqRt, op_eqNf, op_eqNt, eqD_int, eqD_nil, pl_int, pl_nil, pl_non, pl_rnil, pl_bl, sl_tupE, sl_rolE, keep_ref, keep_tup, keep_rol, tp_int, tp_tup, tp_rol, tp_str, tp_bl, tp_non, tp_ref, oFd, oMd, oPw, oShl, oLt, oLe, oGt, oGe, op_in, op_cp, wipe_nil, wipe_cons, mset_same, true_and, and_true, isN_int, ex_lstF, ex_repF, ex_lgF1, ex_lgF2, ex_tupRg1, ex_tupRg2, ex_frz, ex_slF, ex_slM, sl_tupF, sl_rolF, op_iiF, op_ssF, op_ttF, op_rrF, op_rrM, op_mmF, op_repF, li_rol, li_ref, bl_listF, bl_allF, bl_anyF, asT_some, asJ_some, op_eqBf, op_eqBt, isN_non, Bool.not_true, Bool.not_false, rep2, hb, natL_len, ls.fl, ixN_lt hj]
          try dsimp only
          rw [st_set]
          simp only [ex_c, ex_var, ex_op, ex_un, ex_b, ex_and, ex_or, ex_not, ex_andV, ex_orV, ex_notV, ex_if, ex_chain, ex_nil, ex_cons, ex_tup, ex_lst, ex_call, ex_callP, ex_cb, ex_bm, ex_rep, ex_sl, ex_noPart, ex_part, ex_yes, it_items, it_rng1, it_rng2, tg_name, tg_sub, tg_tup, tg_cons, tg_nil, gs_0, gs_s, ss_0, ss_s, op_ii, op_ss, op_tt, op_mm, op_sb, op_ng, op_iNf, op_iNt, op_lle, op_ixT, op_ixR, op_ixL, op_putE, op_appE, it_tupE, it_rolE, it_refE, lstOf_l, exL, asS_some, asI_int, asB_bl, asL_some, asN_some, ite3_t, ite3_f, bl_1, bl_lenT, bl_lenR, bl_lenL, bl_lenS, bl_tuple, bl_list, bl_abs, bl_intI, bl_intB, bl_max, bl_min, op_eqSf, op_eqSt, op_eqIf, op_eqIt, op_eqTf, op_eqTt, op_eqRf, op_eqRt, op_eqNf, op_eqNt, eqD_int, eqD_nil, pl_int, pl_nil, pl_non, pl_rnil, pl_bl, sl_tupE, sl_rolE, keep_ref, keep_tup, keep_rol, tp_int, tp_tup, tp_rol, tp_str, tp_bl, tp_non, tp_ref, oFd, oMd, oPw, oShl, oLt, oLe, oGt, oGe, op_in, op_cp, wipe_nil, wipe_cons, mset_same, true_and, and_true, isN_int, ex_lstF, ex_repF, ex_lgF1, ex_lgF2, ex_tupRg1, ex_tupRg2, ex_frz, ex_slF, ex_slM, sl_tupF, sl_rolF, op_iiF, op_ssF, op_ttF, op_rrF, op_rrM, op_mmF, op_repF, li_rol, li_ref, bl_listF, bl_allF, bl_anyF, asT_some, asJ_some, op_eqBf, op_eqBt, isN_non, Bool.not_true, Bool.not_false, rep2]
          refine hZ _ _ ⟨hj, s.set j (fnI s p + e), f.set j p, some j, ⟨by rw [List.length_set]; exact ls.sl, by rw [List.length_set]; exact ls.fl, ?_, ?_, fun c hc hd => ?_, ?_⟩, _, _, _, rfl⟩
          · rw [mset_ne hab, mset_same, List.map_set]
          · rw [mset_same, natL_set]
          · rw [mset_ne hd, mset_ne hc]; exact ls.ot c hc hd
          · rw [fnI_set hjs, fnN_set (by rw [ls.fl]; exact hj)]
            exact ls.ri.upd hk hpl hj ha2 h
        · have h := of_decide_eq_false h
          rw [st_next]
          exact hZ _ _ ⟨hj, s, f, r, ⟨ls.sl, ls.fl, ls.ma, ls.mb, ls.ot, ls.ri.skip fun x hx => by rw [ha2] at hx; cases hx; omega⟩, _, _, _, rfl⟩
    · rintro τ M ⟨_, s, f, r, ls, x6, x7, x8, rfl⟩
      rw [List.length_map, hrl] at ls
      exact hY _ _ ⟨hpl, s, f, r, ⟨ls.sl, ls.fl, ls.ma, ls.mb, ls.ot, ls.ri.row⟩, _, _, _, _, _, rfl⟩
  · rintro τ M ⟨_, s, f, r, ls, x4, x5, x6, x7, x8, rfl⟩
    rw [List.length_map, tT.rows] at ls
    try dsimp only
    rw [st_ret]
    simp only [ex_c, ex_var, ex_op, ex_un, ex_b, ex_and, ex_or, ex_not, ex_andV, ex_orV, ex_notV, ex_if, ex_chain, ex_nil, ex_cons, ex_tup, ex_lst, ex_call, ex_callP, ex_cb, ex_bm, ex_rep, ex_sl, ex_noPart, ex_part, ex_yes, it_items, it_rng1, it_rng2, tg_name, tg_sub, tg_tup, tg_cons, tg_nil, gs_0, gs_s, ss_0, ss_s, op_ii, op_ss, op_tt, op_mm, op_sb, op_ng, op_iNf, op_iNt, op_lle, op_ixT, op_ixR, op_ixL, op_putE, op_appE, it_tupE, it_rolE, it_refE, lstOf_l, exL, asS_some, asI_int, asB_bl, asL_some, asN_some, ite3_t, ite3_f, bl_1, bl_lenT, bl_lenR, bl_lenL, bl_lenS, bl_tuple, bl_list, bl_abs, bl_intI, bl_intB, bl_max, bl_min, op_eqSf, op_eqSt, op_eqIf, op_eqIt, op_eqTf, op_eqTt, op_eqRf, op_eqRt, op_eqNf, op_eqNt, eqD_int, eqD_nil, pl_int, pl_nil, pl_non, pl_rnil, pl_bl, sl_tupE, sl_rolE, keep_ref, keep_tup, keep_rol, tp_int, tp_tup, tp_rol, tp_str, tp_bl, tp_non, tp_ref, oFd, oMd, oPw, oShl, oLt, oLe, oGt, oGe, op_in, op_cp, wipe_nil, wipe_cons, mset_same, true_and, and_true, isN_int, ex_lstF, ex_repF, ex_lgF1, ex_lgF2, ex_tupRg1, ex_tupRg2, ex_frz, ex_slF, ex_slM, sl_tupF, sl_rolF, op_iiF, op_ssF, op_ttF, op_rrF, op_rrM, op_mmF, op_repF, li_rol, li_ref, bl_listF, bl_allF, bl_anyF, asT_some, asJ_some, op_eqBf, op_eqBt, isN_non, Bool.not_true, Bool.not_false, rep2]
    exact q s f r M ls
end L3
set_option Elab.async false
set_option linter.all false
set_option maxRecDepth 100000
set_option maxHeartbeats 4000000
namespace L3
open PySem PySem.Spec PyProof.Rows L2
theorem atI_end {α : Type} {xs : List α} {y : α} : atI (xs ++ [y]) (-1) = some y := by
  unfold atI ixN
  have a : ¬ (0 : Int) ≤ -1 := by decide
  have b : -(((xs ++ [y]).length : Nat) : Int) ≤ -1 := by rw [List.length_append, List.length_singleton]; omega
  rw [if_neg a, if_pos b]
  have e : (-1 + (((xs ++ [y]).length : Nat) : Int)).toNat = xs.length := by rw [List.length_append, List.length_singleton]; omega
  show (xs ++ [y])[(-1 + (((xs ++ [y]).length : Nat) : Int)).toNat]? = some y
  rw [e, List.getElem?_append_right (Nat.le_refl _), Nat.sub_self]; rfl
def ringR (sp_loosen : Sp3) : XK3 → TS3 := fun E =>
  (wSeq (wIfS (wB (wOp (oEq false) (wVar 0) (wTup wNil))) (wRet (wTup wNil)) wNext)
  (wSeq (wSet 1 (wRep (wC (.int 0)) (wCB bLen (wCons (wVar 0) wNil))))
  (wSeq (wSet 2 (wLstRg1 (wCB bLen (wCons (wVar 0) wNil))))
  (wSeq (wSet 3 (wC .non))
  (wSeq (wFor (wItems (wVar 0)) (wgName 4) (wSet 3 (wCall sp_loosen E (wCons (wVar 0) (wCons (wVar 1) (wCons (wVar 2) wNil))))))
  (wSeq (wIfS (wB (wOp (oIsN false) (wVar 3) (wC .non))) (wRet (wC .non)) wNext)
  (wSeq (wFor (wItems (wVar 0)) (wgName 4) (wSet 3 (wOp oIx (wVar 2) (wVar 3))))
  (wSeq (wSet 5 (wLst (wCons (wVar 3) wNil)))
  (wSeq (wWhile (wB (wOp (oEq true) (wOp oIx (wVar 2) (wOp oIx (wVar 5) (wUn oNeg (wC (.int 1))))) (wVar 3))) (wDrop (wBM oApp (wVar 5) (wCons (wOp oIx (wVar 2) (wOp oIx (wVar 5) (wUn oNeg (wC (.int 1))))) wNil))))
  (wRet (wCB bTuple (wCons (wRevF (wVar 5)) wNil))))))))))))
def SRing (sp : Sp3) : Prop := ∀ (n B : Nat) (T : Tab) (Q : VK3) (E : XK3), 0 < n → n ≤ 1000 → TabB B n T → (∀ M v, Meets n (at2 T) v → Q .non M) → (∀ rs es M, RingOf n (at2 T) rs es → es.sum < 0 → Q (.tup (natL rs)) M) → sp [tabD T] M0 Q E
def SRing0 (sp : Sp3) : Prop := ∀ (Q : VK3) (E : XK3), (∀ M, Q (.tup []) M) → sp [.tup []] M0 Q E
theorem s_ring0 {sl : Sp3} : SRing0 (spOf 1 6 (ringR sl)) := by
  refine fun Q E q => ⟨rfl, ?_⟩
  show ringR sl E _ [some (.tup []), none, none, none, none, none] M0
  unfold ringR
  rw [st_seq, st_if]
  simp only [ex_c, ex_var, ex_op, ex_un, ex_b, ex_and, ex_or, ex_not, ex_andV, ex_orV, ex_notV, ex_if, ex_chain, ex_nil, ex_cons, ex_tup, ex_lst, ex_call, ex_callP, ex_cb, ex_bm, ex_rep, ex_sl, ex_noPart, ex_part, ex_yes, it_items, it_rng1, it_rng2, tg_name, tg_sub, tg_tup, tg_cons, tg_nil, gs_0, gs_s, ss_0, ss_s, op_ii, op_ss, op_tt, op_mm, op_sb, op_ng, op_iNf, op_iNt, op_lle, op_ixT, op_ixR, op_ixL, op_putE, op_appE, it_tupE, it_rolE, it_refE, lstOf_l, exL, asS_some, asI_int, asB_bl, asL_some, asN_some, ite3_t, ite3_f, bl_1, bl_lenT, bl_lenR, bl_lenL, bl_lenS, bl_tuple, bl_list, bl_abs, bl_intI, bl_intB, bl_max, bl_min, op_eqSf, op_eqSt, op_eqIf, op_eqIt, op_eqTf, op_eqTt, op_eqRf, op_eqRt, op_eqNf, op_eqNt, eqD_int, eqD_nil, pl_int, pl_nil, pl_non, pl_rnil, pl_bl, sl_tupE, sl_rolE, keep_ref, keep_tup, keep_rol, tp_int, tp_tup, tp_rol, tp_str, tp_bl, tp_non, tp_ref, oFd, oMd, oPw, oShl, oLt, oLe, oGt, oGe, op_in, op_cp, wipe_nil, wipe_cons, mset_same, true_and, and_true, isN_int, ex_lstF, ex_repF, ex_lgF1, ex_lgF2, ex_tupRg1, ex_tupRg2, ex_frz, ex_slF, ex_slM, sl_tupF, sl_rolF, op_iiF, op_ssF, op_ttF, op_rrF, op_rrM, op_mmF, op_repF, li_rol, li_ref, bl_listF, bl_allF, bl_anyF, asT_some, asJ_some, op_eqBf, op_eqBt, isN_non, Bool.not_true, Bool.not_false, rep2, eq_nil]
  refine ⟨Nat.zero_le _, ?_⟩
  rw [st_ret]
  simp only [ex_c, ex_var, ex_op, ex_un, ex_b, ex_and, ex_or, ex_not, ex_andV, ex_orV, ex_notV, ex_if, ex_chain, ex_nil, ex_cons, ex_tup, ex_lst, ex_call, ex_callP, ex_cb, ex_bm, ex_rep, ex_sl, ex_noPart, ex_part, ex_yes, it_items, it_rng1, it_rng2, tg_name, tg_sub, tg_tup, tg_cons, tg_nil, gs_0, gs_s, ss_0, ss_s, op_ii, op_ss, op_tt, op_mm, op_sb, op_ng, op_iNf, op_iNt, op_lle, op_ixT, op_ixR, op_ixL, op_putE, op_appE, it_tupE, it_rolE, it_refE, lstOf_l, exL, asS_some, asI_int, asB_bl, asL_some, asN_some, ite3_t, ite3_f, bl_1, bl_lenT, bl_lenR, bl_lenL, bl_lenS, bl_tuple, bl_list, bl_abs, bl_intI, bl_intB, bl_max, bl_min, op_eqSf, op_eqSt, op_eqIf, op_eqIt, op_eqTf, op_eqTt, op_eqRf, op_eqRt, op_eqNf, op_eqNt, eqD_int, eqD_nil, pl_int, pl_nil, pl_non, pl_rnil, pl_bl, sl_tupE, sl_rolE, keep_ref, keep_tup, keep_rol, tp_int, tp_tup, tp_rol, tp_str, tp_bl, tp_non, tp_ref, oFd, oMd, oPw, oShl, oLt, oLe, oGt, oGe, op_in, op_cp, wipe_nil, wipe_cons, mset_same, true_and, and_true, isN_int, ex_lstF, ex_repF, ex_lgF1, ex_lgF2, ex_tupRg1, ex_tupRg2, ex_frz, ex_slF, ex_slM, sl_tupF, sl_rolF, op_iiF, op_ssF, op_ttF, op_rrF, op_rrM, op_mmF, op_repF, li_rol, li_ref, bl_listF, bl_allF, bl_anyF, asT_some, asJ_some, op_eqBf, op_eqBt, isN_non, Bool.not_true, Bool.not_false, rep2]
  exact ⟨Nat.zero_le _, q _⟩
theorem rg_nat (n : Nat) : rgD 0 n = natL (List.range n) := by
  unfold rgD natL
  refine List.map_congr_left fun k _ => ?_
  rw [Int.zero_add]
theorem rep_int (n : Nat) : List.replicate n (D.int 0) = (List.replicate n (0 : Int)).map D.int := by rw [List.map_replicate]
theorem natL_rev {f : List Nat} : (natL f).reverse = natL f.reverse := by unfold natL; rw [List.map_reverse]
theorem goL_snoc {f : Nat → Nat} {v l : Nat} : goL f v (l + 1) = goL f v l ++ [goB f l v] := by unfold goL; rw [List.range_succ, List.map_append]; rfl
theorem s_ring {sl : Sp3} (kl : SLoosen sl) : SRing (spOf 1 6 (ringR sl)) := by
  refine fun n B T Q E h0 hn tT q1 q2 => ⟨rfl, ?_⟩
  have big : (1000000 : Nat) ≤ sizeLine := by decide
  show ringR sl E _ [some (tabD T), none, none, none, none, none] M0
  unfold ringR
  have hTl : ((T.map rowD).length : Int) = (n : Int) := by rw [List.length_map, tT.rows]
  rw [st_seq, st_if]
  simp only [ex_c, ex_var, ex_op, ex_un, ex_b, ex_and, ex_or, ex_not, ex_andV, ex_orV, ex_notV, ex_if, ex_chain, ex_nil, ex_cons, ex_tup, ex_lst, ex_call, ex_callP, ex_cb, ex_bm, ex_rep, ex_sl, ex_noPart, ex_part, ex_yes, it_items, it_rng1, it_rng2, tg_name, tg_sub, tg_tup, tg_cons, tg_nil, gs_0, gs_s, ss_0, ss_s, op_ii, op_ss, op_tt, op_mm, op_sb, op_ng, op_iNf, op_iNt, op_lle, op_ixT, op_ixR, op_ixL, op_putE, op_appE, it_tupE, it_rolE, it_refE, lstOf_l, exL, asS_some, asI_int, asB_bl, asL_some, asN_some, ite3_t, ite3_f, bl_1, bl_lenT, bl_lenR, bl_lenL, bl_lenS, bl_tuple, bl_list, bl_abs, bl_intI, bl_intB, bl_max, bl_min, op_eqSf, op_eqSt, op_eqIf, op_eqIt, op_eqTf, op_eqTt, op_eqRf, op_eqRt, op_eqNf, op_eqNt, eqD_int, eqD_nil, pl_int, pl_nil, pl_non, pl_rnil, pl_bl, sl_tupE, sl_rolE, keep_ref, keep_tup, keep_rol, tp_int, tp_tup, tp_rol, tp_str, tp_bl, tp_non, tp_ref, oFd, oMd, oPw, oShl, oLt, oLe, oGt, oGe, op_in, op_cp, wipe_nil, wipe_cons, mset_same, true_and, and_true, isN_int, ex_lstF, ex_repF, ex_lgF1, ex_lgF2, ex_tupRg1, ex_tupRg2, ex_frz, ex_slF, ex_slM, sl_tupF, sl_rolF, op_iiF, op_ssF, op_ttF, op_rrF, op_rrM, op_mmF, op_repF, li_rol, li_ref, bl_listF, bl_allF, bl_anyF, asT_some, asJ_some, op_eqBf, op_eqBt, isN_non, Bool.not_true, Bool.not_false, rep2, eq_tab tT.sq h0]
  refine ⟨Nat.zero_le _, ?_⟩
  rw [st_next]
  try dsimp only
  rw [st_seq, st_set]
  simp only [ex_c, ex_var, ex_op, ex_un, ex_b, ex_and, ex_or, ex_not, ex_andV, ex_orV, ex_notV, ex_if, ex_chain, ex_nil, ex_cons, ex_tup, ex_lst, ex_call, ex_callP, ex_cb, ex_bm, ex_rep, ex_sl, ex_noPart, ex_part, ex_yes, it_items, it_rng1, it_rng2, tg_name, tg_sub, tg_tup, tg_cons, tg_nil, gs_0, gs_s, ss_0, ss_s, op_ii, op_ss, op_tt, op_mm, op_sb, op_ng, op_iNf, op_iNt, op_lle, op_ixT, op_ixR, op_ixL, op_putE, op_appE, it_tupE, it_rolE, it_refE, lstOf_l, exL, asS_some, asI_int, asB_bl, asL_some, asN_some, ite3_t, ite3_f, bl_1, bl_lenT, bl_lenR, bl_lenL, bl_lenS, bl_tuple, bl_list, bl_abs, bl_intI, bl_intB, bl_max, bl_min, op_eqSf, op_eqSt, op_eqIf, op_eqIt, op_eqTf, op_eqTt, op_eqRf, op_eqRt, op_eqNf, op_eqNt, eqD_int, eqD_nil, pl_int, pl_nil, pl_non, pl_rnil, pl_bl, sl_tupE, sl_rolE, keep_ref, keep_tup, keep_rol, tp_int, tp_tup, tp_rol, tp_str, tp_bl, tp_non, tp_ref, oFd, oMd, oPw, oShl, oLt, oLe, oGt, oGe, op_in, op_cp, wipe_nil, wipe_cons, mset_same, true_and, and_true, isN_int, ex_lstF, ex_repF, ex_lgF1, ex_lgF2, ex_tupRg1, ex_tupRg2, ex_frz, ex_slF, ex_slM, sl_tupF, sl_rolF, op_iiF, op_ssF, op_ttF, op_rrF, op_rrM, op_mmF, op_repF, li_rol, li_ref, bl_listF, bl_allF, bl_anyF, asT_some, asJ_some, op_eqBf, op_eqBt, isN_non, Bool.not_true, Bool.not_false, rep2, tabD, hTl, Int.toNat_natCast]
  refine ⟨by omega, by omega, by omega, fun a ha => ?_⟩
  try dsimp only
  rw [st_seq, st_set]
  simp only [ex_c, ex_var, ex_op, ex_un, ex_b, ex_and, ex_or, ex_not, ex_andV, ex_orV, ex_notV, ex_if, ex_chain, ex_nil, ex_cons, ex_tup, ex_lst, ex_call, ex_callP, ex_cb, ex_bm, ex_rep, ex_sl, ex_noPart, ex_part, ex_yes, it_items, it_rng1, it_rng2, tg_name, tg_sub, tg_tup, tg_cons, tg_nil, gs_0, gs_s, ss_0, ss_s, op_ii, op_ss, op_tt, op_mm, op_sb, op_ng, op_iNf, op_iNt, op_lle, op_ixT, op_ixR, op_ixL, op_putE, op_appE, it_tupE, it_rolE, it_refE, lstOf_l, exL, asS_some, asI_int, asB_bl, asL_some, asN_some, ite3_t, ite3_f, bl_1, bl_lenT, bl_lenR, bl_lenL, bl_lenS, bl_tuple, bl_list, bl_abs, bl_intI, bl_intB, bl_max, bl_min, op_eqSf, op_eqSt, op_eqIf, op_eqIt, op_eqTf, op_eqTt, op_eqRf, op_eqRt, op_eqNf, op_eqNt, eqD_int, eqD_nil, pl_int, pl_nil, pl_non, pl_rnil, pl_bl, sl_tupE, sl_rolE, keep_ref, keep_tup, keep_rol, tp_int, tp_tup, tp_rol, tp_str, tp_bl, tp_non, tp_ref, oFd, oMd, oPw, oShl, oLt, oLe, oGt, oGe, op_in, op_cp, wipe_nil, wipe_cons, mset_same, true_and, and_true, isN_int, ex_lstF, ex_repF, ex_lgF1, ex_lgF2, ex_tupRg1, ex_tupRg2, ex_frz, ex_slF, ex_slM, sl_tupF, sl_rolF, op_iiF, op_ssF, op_ttF, op_rrF, op_rrM, op_mmF, op_repF, li_rol, li_ref, bl_listF, bl_allF, bl_anyF, asT_some, asJ_some, op_eqBf, op_eqBt, isN_non, Bool.not_true, Bool.not_false, rep2, tabD, hTl]
  refine ⟨⟨by omega, by omega⟩, fun b hb => ?_⟩
  have hab : a ≠ b := fun e => by subst e; rw [mset_same] at hb; cases hb
  have hTn : (T.map rowD).length = n := by rw [List.length_map, tT.rows]
  rw [Int.toNat_natCast, rg_nat, rep_int]
  rw [hTn]
  have hA : mset (mset M0 a (.lst ((List.replicate n (0 : Int)).map D.int))) b (.lst (natL (List.range n))) a = some (.lst ((List.replicate n (0 : Int)).map D.int)) := by rw [mset_ne hab, mset_same]
  have hB : mset (mset M0 a (.lst ((List.replicate n (0 : Int)).map D.int))) b (.lst (natL (List.range n))) b = some (.lst (natL (List.range n))) := mset_same
  generalize mset (mset M0 a (.lst ((List.replicate n (0 : Int)).map D.int))) b (.lst (natL (List.range n))) = M1 at hA hB
  try dsimp only
  rw [st_seq, st_set]
  simp only [ex_c, ex_var, ex_op, ex_un, ex_b, ex_and, ex_or, ex_not, ex_andV, ex_orV, ex_notV, ex_if, ex_chain, ex_nil, ex_cons, ex_tup, ex_lst, ex_call, ex_callP, ex_cb, ex_bm, ex_rep, ex_sl, ex_noPart, ex_part, ex_yes, it_items, it_rng1, it_rng2, tg_name, tg_sub, tg_tup, tg_cons, tg_nil, gs_0, gs_s, ss_0, ss_s, op_ii, op_ss, op_tt, op_mm, op_sb, op_ng, op_iNf, op_iNt, op_lle, op_ixT, op_ixR, op_ixL, op_putE, op_appE, it_tupE, it_rolE, it_refE, lstOf_l, exL, asS_some, asI_int, asB_bl, asL_some, asN_some, ite3_t, ite3_f, bl_1, bl_lenT, bl_lenR, bl_lenL, bl_lenS, bl_tuple, bl_list, bl_abs, bl_intI, bl_intB, bl_max, bl_min, op_eqSf, op_eqSt, op_eqIf, op_eqIt, op_eqTf, op_eqTt, op_eqRf, op_eqRt, op_eqNf, op_eqNt, eqD_int, eqD_nil, pl_int, pl_nil, pl_non, pl_rnil, pl_bl, sl_tupE, sl_rolE, keep_ref, keep_tup, keep_rol, tp_int, tp_tup, tp_rol, tp_str, tp_bl, tp_non, tp_ref, oFd, oMd, oPw, oShl, oLt, oLe, oGt, oGe, op_in, op_cp, wipe_nil, wipe_cons, mset_same, true_and, and_true, isN_int, ex_lstF, ex_repF, ex_lgF1, ex_lgF2, ex_tupRg1, ex_tupRg2, ex_frz, ex_slF, ex_slM, sl_tupF, sl_rolF, op_iiF, op_ssF, op_ttF, op_rrF, op_rrM, op_mmF, op_repF, li_rol, li_ref, bl_listF, bl_allF, bl_anyF, asT_some, asJ_some, op_eqBf, op_eqBt, isN_non, Bool.not_true, Bool.not_false, rep2]
  try dsimp only
  rw [st_seq, st_for]
  have e0 : fnI (List.replicate n 0) = fun _ => 0 := by
    funext v
    unfold fnI
    rw [List.getD_eq_getElem?_getD, List.getElem?_replicate]
    split <;> rfl
  have r0 : RI n 1 (at2 T) 0 0 (fnI (List.replicate n 0)) (fnN (List.range n)) none := by
    rw [e0]
    obtain ⟨R, Tm, c, h, fe⟩ := RI.start (n := n) (F := at2 T)
    have ev : ∀ v, v < n → fnN (List.range n) v = v := fun v hv => by
      unfold fnN
      rw [List.getD_eq_getElem?_getD, List.getElem?_range hv]; rfl
    exact ⟨_, _, _, ⟨fun v hv => by rw [ev v hv]; exact hv, fun v _ h => absurd h (Nat.lt_irrefl _), fun _ _ => Nat.zero_le _, fun _ _ => Nat.zero_le _, fun _ _ => Nat.zero_lt_one, RingI.start.dn⟩, fun _ _ => Nat.zero_lt_one⟩
  have hts : L3.top M1 (tabD T) = tabD T := rfl
  simp only [ex_c, ex_var, ex_op, ex_un, ex_b, ex_and, ex_or, ex_not, ex_andV, ex_orV, ex_notV, ex_if, ex_chain, ex_nil, ex_cons, ex_tup, ex_lst, ex_call, ex_callP, ex_cb, ex_bm, ex_rep, ex_sl, ex_noPart, ex_part, ex_yes, it_items, it_rng1, it_rng2, tg_name, tg_sub, tg_tup, tg_cons, tg_nil, gs_0, gs_s, ss_0, ss_s, op_ii, op_ss, op_tt, op_mm, op_sb, op_ng, op_iNf, op_iNt, op_lle, op_ixT, op_ixR, op_ixL, op_putE, op_appE, it_tupE, it_rolE, it_refE, lstOf_l, exL, asS_some, asI_int, asB_bl, asL_some, asN_some, ite3_t, ite3_f, bl_1, bl_lenT, bl_lenR, bl_lenL, bl_lenS, bl_tuple, bl_list, bl_abs, bl_intI, bl_intB, bl_max, bl_min, op_eqSf, op_eqSt, op_eqIf, op_eqIt, op_eqTf, op_eqTt, op_eqRf, op_eqRt, op_eqNf, op_eqNt, eqD_int, eqD_nil, pl_int, pl_nil, pl_non, pl_rnil, pl_bl, sl_tupE, sl_rolE, keep_ref, keep_tup, keep_rol, tp_int, tp_tup, tp_rol, tp_str, tp_bl, tp_non, tp_ref, oFd, oMd, oPw, oShl, oLt, oLe, oGt, oGe, op_in, op_cp, wipe_nil, wipe_cons, mset_same, true_and, and_true, isN_int, ex_lstF, ex_repF, ex_lgF1, ex_lgF2, ex_tupRg1, ex_tupRg2, ex_frz, ex_slF, ex_slM, sl_tupF, sl_rolF, op_iiF, op_ssF, op_ttF, op_rrF, op_rrM, op_mmF, op_repF, li_rol, li_ref, bl_listF, bl_allF, bl_anyF, asT_some, asJ_some, op_eqBf, op_eqBt, isN_non, Bool.not_true, Bool.not_false, rep2, it_tabE, tabD]
  refine for_pv (fun t τ M => t ≤ n ∧ ∃ s f r x4, s.length = n ∧ f.length = n ∧ M a = some (.lst (s.map D.int)) ∧ M b = some (.lst (natL f)) ∧ RI n (t + 1) (at2 T) 0 0 (fnI s) (fnN f) none ∧ (0 < t → RI n t (at2 T) n 0 (fnI s) (fnN f) r) ∧ τ = [some (tabD T), some (.ref a), some (.ref b), some (fellD r), x4, none]) ?_ ?_
    ⟨Nat.zero_le _, _, _, none, _, List.length_replicate, List.length_range, hA, hB, r0, fun h => absurd h (Nat.lt_irrefl _), rfl⟩
  · rintro t d τ M hd ⟨_, s, f, r, x4, hs, hf, hMa, hMb, ri, _, rfl⟩ Y hY
    have ht : t < n := by have := (List.getElem?_eq_some_iff.mp hd).1; rw [List.length_map, tT.rows] at this; exact this
    refine ⟨True.intro, ?_⟩
    rw [tg_name, st_set]
    simp only [ex_c, ex_var, ex_op, ex_un, ex_b, ex_and, ex_or, ex_not, ex_andV, ex_orV, ex_notV, ex_if, ex_chain, ex_nil, ex_cons, ex_tup, ex_lst, ex_call, ex_callP, ex_cb, ex_bm, ex_rep, ex_sl, ex_noPart, ex_part, ex_yes, it_items, it_rng1, it_rng2, tg_name, tg_sub, tg_tup, tg_cons, tg_nil, gs_0, gs_s, ss_0, ss_s, op_ii, op_ss, op_tt, op_mm, op_sb, op_ng, op_iNf, op_iNt, op_lle, op_ixT, op_ixR, op_ixL, op_putE, op_appE, it_tupE, it_rolE, it_refE, lstOf_l, exL, asS_some, asI_int, asB_bl, asL_some, asN_some, ite3_t, ite3_f, bl_1, bl_lenT, bl_lenR, bl_lenL, bl_lenS, bl_tuple, bl_list, bl_abs, bl_intI, bl_intB, bl_max, bl_min, op_eqSf, op_eqSt, op_eqIf, op_eqIt, op_eqTf, op_eqTt, op_eqRf, op_eqRt, op_eqNf, op_eqNt, eqD_int, eqD_nil, pl_int, pl_nil, pl_non, pl_rnil, pl_bl, sl_tupE, sl_rolE, keep_ref, keep_tup, keep_rol, tp_int, tp_tup, tp_rol, tp_str, tp_bl, tp_non, tp_ref, oFd, oMd, oPw, oShl, oLt, oLe, oGt, oGe, op_in, op_cp, wipe_nil, wipe_cons, mset_same, true_and, and_true, isN_int, ex_lstF, ex_repF, ex_lgF1, ex_lgF2, ex_tupRg1, ex_tupRg2, ex_frz, ex_slF, ex_slM, sl_tupF, sl_rolF, op_iiF, op_ssF, op_ttF, op_rrF, op_rrM, op_mmF, op_repF, li_rol, li_ref, bl_listF, bl_allF, bl_anyF, asT_some, asJ_some, op_eqBf, op_eqBt, isN_non, Bool.not_true, Bool.not_false, rep2]
    refine kl n B (t + 1) T a b s f _ _ _ hn (Nat.succ_pos _) tT hab ⟨hs, hf, hMa, hMb, fun _ _ _ => rfl, ri⟩ fun s' f' r' M' ls => ?_
    exact hY _ _ ⟨ht, s', f', r', _, ls.sl, ls.fl, ls.ma, ls.mb, ls.ri.next, fun _ => ls.ri, rfl⟩
  rintro τ M ⟨_, s, f, r, x4, hs, hf, hMa, hMb, _, ri, rfl⟩
  rw [List.length_map, tT.rows] at ri
  have ri := ri h0
  refine ⟨True.intro, ?_⟩
  try dsimp only
  rw [st_seq, st_if]
  cases r with
  | none =>
    simp only [ex_c, ex_var, ex_op, ex_un, ex_b, ex_and, ex_or, ex_not, ex_andV, ex_orV, ex_notV, ex_if, ex_chain, ex_nil, ex_cons, ex_tup, ex_lst, ex_call, ex_callP, ex_cb, ex_bm, ex_rep, ex_sl, ex_noPart, ex_part, ex_yes, it_items, it_rng1, it_rng2, tg_name, tg_sub, tg_tup, tg_cons, tg_nil, gs_0, gs_s, ss_0, ss_s, op_ii, op_ss, op_tt, op_mm, op_sb, op_ng, op_iNf, op_iNt, op_lle, op_ixT, op_ixR, op_ixL, op_putE, op_appE, it_tupE, it_rolE, it_refE, lstOf_l, exL, asS_some, asI_int, asB_bl, asL_some, asN_some, ite3_t, ite3_f, bl_1, bl_lenT, bl_lenR, bl_lenL, bl_lenS, bl_tuple, bl_list, bl_abs, bl_intI, bl_intB, bl_max, bl_min, op_eqSf, op_eqSt, op_eqIf, op_eqIt, op_eqTf, op_eqTt, op_eqRf, op_eqRt, op_eqNf, op_eqNt, eqD_int, eqD_nil, pl_int, pl_nil, pl_non, pl_rnil, pl_bl, sl_tupE, sl_rolE, keep_ref, keep_tup, keep_rol, tp_int, tp_tup, tp_rol, tp_str, tp_bl, tp_non, tp_ref, oFd, oMd, oPw, oShl, oLt, oLe, oGt, oGe, op_in, op_cp, wipe_nil, wipe_cons, mset_same, true_and, and_true, isN_int, ex_lstF, ex_repF, ex_lgF1, ex_lgF2, ex_tupRg1, ex_tupRg2, ex_frz, ex_slF, ex_slM, sl_tupF, sl_rolF, op_iiF, op_ssF, op_ttF, op_rrF, op_rrM, op_mmF, op_repF, li_rol, li_ref, bl_listF, bl_allF, bl_anyF, asT_some, asJ_some, op_eqBf, op_eqBt, isN_non, Bool.not_true, Bool.not_false, rep2, fellD, isN_non]
    rw [st_ret]
    simp only [ex_c, ex_var, ex_op, ex_un, ex_b, ex_and, ex_or, ex_not, ex_andV, ex_orV, ex_notV, ex_if, ex_chain, ex_nil, ex_cons, ex_tup, ex_lst, ex_call, ex_callP, ex_cb, ex_bm, ex_rep, ex_sl, ex_noPart, ex_part, ex_yes, it_items, it_rng1, it_rng2, tg_name, tg_sub, tg_tup, tg_cons, tg_nil, gs_0, gs_s, ss_0, ss_s, op_ii, op_ss, op_tt, op_mm, op_sb, op_ng, op_iNf, op_iNt, op_lle, op_ixT, op_ixR, op_ixL, op_putE, op_appE, it_tupE, it_rolE, it_refE, lstOf_l, exL, asS_some, asI_int, asB_bl, asL_some, asN_some, ite3_t, ite3_f, bl_1, bl_lenT, bl_lenR, bl_lenL, bl_lenS, bl_tuple, bl_list, bl_abs, bl_intI, bl_intB, bl_max, bl_min, op_eqSf, op_eqSt, op_eqIf, op_eqIt, op_eqTf, op_eqTt, op_eqRf, op_eqRt, op_eqNf, op_eqNt, eqD_int, eqD_nil, pl_int, pl_nil, pl_non, pl_rnil, pl_bl, sl_tupE, sl_rolE, keep_ref, keep_tup, keep_rol, tp_int, tp_tup, tp_rol, tp_str, tp_bl, tp_non, tp_ref, oFd, oMd, oPw, oShl, oLt, oLe, oGt, oGe, op_in, op_cp, wipe_nil, wipe_cons, mset_same, true_and, and_true, isN_int, ex_lstF, ex_repF, ex_lgF1, ex_lgF2, ex_tupRg1, ex_tupRg2, ex_frz, ex_slF, ex_slM, sl_tupF, sl_rolF, op_iiF, op_ssF, op_ttF, op_rrF, op_rrM, op_mmF, op_repF, li_rol, li_ref, bl_listF, bl_allF, bl_anyF, asT_some, asJ_some, op_eqBf, op_eqBt, isN_non, Bool.not_true, Bool.not_false, rep2]
    exact q1 _ _ ri.still
  | some x =>
    simp only [ex_c, ex_var, ex_op, ex_un, ex_b, ex_and, ex_or, ex_not, ex_andV, ex_orV, ex_notV, ex_if, ex_chain, ex_nil, ex_cons, ex_tup, ex_lst, ex_call, ex_callP, ex_cb, ex_bm, ex_rep, ex_sl, ex_noPart, ex_part, ex_yes, it_items, it_rng1, it_rng2, tg_name, tg_sub, tg_tup, tg_cons, tg_nil, gs_0, gs_s, ss_0, ss_s, op_ii, op_ss, op_tt, op_mm, op_sb, op_ng, op_iNf, op_iNt, op_lle, op_ixT, op_ixR, op_ixL, op_putE, op_appE, it_tupE, it_rolE, it_refE, lstOf_l, exL, asS_some, asI_int, asB_bl, asL_some, asN_some, ite3_t, ite3_f, bl_1, bl_lenT, bl_lenR, bl_lenL, bl_lenS, bl_tuple, bl_list, bl_abs, bl_intI, bl_intB, bl_max, bl_min, op_eqSf, op_eqSt, op_eqIf, op_eqIt, op_eqTf, op_eqTt, op_eqRf, op_eqRt, op_eqNf, op_eqNt, eqD_int, eqD_nil, pl_int, pl_nil, pl_non, pl_rnil, pl_bl, sl_tupE, sl_rolE, keep_ref, keep_tup, keep_rol, tp_int, tp_tup, tp_rol, tp_str, tp_bl, tp_non, tp_ref, oFd, oMd, oPw, oShl, oLt, oLe, oGt, oGe, op_in, op_cp, wipe_nil, wipe_cons, mset_same, true_and, and_true, isN_int, ex_lstF, ex_repF, ex_lgF1, ex_lgF2, ex_tupRg1, ex_tupRg2, ex_frz, ex_slF, ex_slM, sl_tupF, sl_rolF, op_iiF, op_ssF, op_ttF, op_rrF, op_rrM, op_mmF, op_repF, li_rol, li_ref, bl_listF, bl_allF, bl_anyF, asT_some, asJ_some, op_eqBf, op_eqBt, isN_non, Bool.not_true, Bool.not_false, rep2, fellD, isN_int]
    rw [st_next]
    try dsimp only
    obtain ⟨R, Tm, c, hI, lt, d, d0, dn, hd, hR⟩ := ri.ring
    have hx : x < n := lt 0
    rw [st_seq, st_for]
    simp only [ex_c, ex_var, ex_op, ex_un, ex_b, ex_and, ex_or, ex_not, ex_andV, ex_orV, ex_notV, ex_if, ex_chain, ex_nil, ex_cons, ex_tup, ex_lst, ex_call, ex_callP, ex_cb, ex_bm, ex_rep, ex_sl, ex_noPart, ex_part, ex_yes, it_items, it_rng1, it_rng2, tg_name, tg_sub, tg_tup, tg_cons, tg_nil, gs_0, gs_s, ss_0, ss_s, op_ii, op_ss, op_tt, op_mm, op_sb, op_ng, op_iNf, op_iNt, op_lle, op_ixT, op_ixR, op_ixL, op_putE, op_appE, it_tupE, it_rolE, it_refE, lstOf_l, exL, asS_some, asI_int, asB_bl, asL_some, asN_some, ite3_t, ite3_f, bl_1, bl_lenT, bl_lenR, bl_lenL, bl_lenS, bl_tuple, bl_list, bl_abs, bl_intI, bl_intB, bl_max, bl_min, op_eqSf, op_eqSt, op_eqIf, op_eqIt, op_eqTf, op_eqTt, op_eqRf, op_eqRt, op_eqNf, op_eqNt, eqD_int, eqD_nil, pl_int, pl_nil, pl_non, pl_rnil, pl_bl, sl_tupE, sl_rolE, keep_ref, keep_tup, keep_rol, tp_int, tp_tup, tp_rol, tp_str, tp_bl, tp_non, tp_ref, oFd, oMd, oPw, oShl, oLt, oLe, oGt, oGe, op_in, op_cp, wipe_nil, wipe_cons, mset_same, true_and, and_true, isN_int, ex_lstF, ex_repF, ex_lgF1, ex_lgF2, ex_tupRg1, ex_tupRg2, ex_frz, ex_slF, ex_slM, sl_tupF, sl_rolF, op_iiF, op_ssF, op_ttF, op_rrF, op_rrM, op_mmF, op_repF, li_rol, li_ref, bl_listF, bl_allF, bl_anyF, asT_some, asJ_some, op_eqBf, op_eqBt, isN_non, Bool.not_true, Bool.not_false, rep2, it_tabE, tabD]
    refine for_pv (fun t τ M' => M' = M ∧ ∃ x4, τ = [some (tabD T), some (.ref a), some (.ref b), some (.int (goB (fnN f) t x : Nat)), x4, none]) ?_ ?_ ⟨rfl, _, rfl⟩
    · rintro t dd τ M' _ ⟨rfl, x4, rfl⟩ Y hY
      refine ⟨True.intro, ?_⟩
      rw [tg_name, st_set]
      simp only [ex_c, ex_var, ex_op, ex_un, ex_b, ex_and, ex_or, ex_not, ex_andV, ex_orV, ex_notV, ex_if, ex_chain, ex_nil, ex_cons, ex_tup, ex_lst, ex_call, ex_callP, ex_cb, ex_bm, ex_rep, ex_sl, ex_noPart, ex_part, ex_yes, it_items, it_rng1, it_rng2, tg_name, tg_sub, tg_tup, tg_cons, tg_nil, gs_0, gs_s, ss_0, ss_s, op_ii, op_ss, op_tt, op_mm, op_sb, op_ng, op_iNf, op_iNt, op_lle, op_ixT, op_ixR, op_ixL, op_putE, op_appE, it_tupE, it_rolE, it_refE, lstOf_l, exL, asS_some, asI_int, asB_bl, asL_some, asN_some, ite3_t, ite3_f, bl_1, bl_lenT, bl_lenR, bl_lenL, bl_lenS, bl_tuple, bl_list, bl_abs, bl_intI, bl_intB, bl_max, bl_min, op_eqSf, op_eqSt, op_eqIf, op_eqIt, op_eqTf, op_eqTt, op_eqRf, op_eqRt, op_eqNf, op_eqNt, eqD_int, eqD_nil, pl_int, pl_nil, pl_non, pl_rnil, pl_bl, sl_tupE, sl_rolE, keep_ref, keep_tup, keep_rol, tp_int, tp_tup, tp_rol, tp_str, tp_bl, tp_non, tp_ref, oFd, oMd, oPw, oShl, oLt, oLe, oGt, oGe, op_in, op_cp, wipe_nil, wipe_cons, mset_same, true_and, and_true, isN_int, ex_lstF, ex_repF, ex_lgF1, ex_lgF2, ex_tupRg1, ex_tupRg2, ex_frz, ex_slF, ex_slM, sl_tupF, sl_rolF, op_iiF, op_ssF, op_ttF, op_rrF, op_rrM, op_mmF, op_repF, li_rol, li_ref, bl_listF, bl_allF, bl_anyF, asT_some, asJ_some, op_eqBf, op_eqBt, isN_non, Bool.not_true, Bool.not_false, rep2, hMb, fnN_at (show goB (fnN f) t x < f.length by rw [hf]; exact lt t)]
      exact hY _ _ ⟨rfl, _, rfl⟩
    rintro τ M' ⟨rfl, x4, rfl⟩
    rw [List.length_map, tT.rows]
    refine ⟨True.intro, ?_⟩
    obtain ⟨v, hv⟩ : ∃ v, goB (fnN f) n x = v := ⟨_, rfl⟩
    have ltv : ∀ k, goB (fnN f) k v < n := fun k => by rw [← hv, ← goB_add]; exact lt _
    rw [hv] at hd hR ⊢
    try dsimp only
    rw [st_seq, st_set]
    simp only [ex_c, ex_var, ex_op, ex_un, ex_b, ex_and, ex_or, ex_not, ex_andV, ex_orV, ex_notV, ex_if, ex_chain, ex_nil, ex_cons, ex_tup, ex_lst, ex_call, ex_callP, ex_cb, ex_bm, ex_rep, ex_sl, ex_noPart, ex_part, ex_yes, it_items, it_rng1, it_rng2, tg_name, tg_sub, tg_tup, tg_cons, tg_nil, gs_0, gs_s, ss_0, ss_s, op_ii, op_ss, op_tt, op_mm, op_sb, op_ng, op_iNf, op_iNt, op_lle, op_ixT, op_ixR, op_ixL, op_putE, op_appE, it_tupE, it_rolE, it_refE, lstOf_l, exL, asS_some, asI_int, asB_bl, asL_some, asN_some, ite3_t, ite3_f, bl_1, bl_lenT, bl_lenR, bl_lenL, bl_lenS, bl_tuple, bl_list, bl_abs, bl_intI, bl_intB, bl_max, bl_min, op_eqSf, op_eqSt, op_eqIf, op_eqIt, op_eqTf, op_eqTt, op_eqRf, op_eqRt, op_eqNf, op_eqNt, eqD_int, eqD_nil, pl_int, pl_nil, pl_non, pl_rnil, pl_bl, sl_tupE, sl_rolE, keep_ref, keep_tup, keep_rol, tp_int, tp_tup, tp_rol, tp_str, tp_bl, tp_non, tp_ref, oFd, oMd, oPw, oShl, oLt, oLe, oGt, oGe, op_in, op_cp, wipe_nil, wipe_cons, mset_same, true_and, and_true, isN_int, ex_lstF, ex_repF, ex_lgF1, ex_lgF2, ex_tupRg1, ex_tupRg2, ex_frz, ex_slF, ex_slM, sl_tupF, sl_rolF, op_iiF, op_ssF, op_ttF, op_rrF, op_rrM, op_mmF, op_repF, li_rol, li_ref, bl_listF, bl_allF, bl_anyF, asT_some, asJ_some, op_eqBf, op_eqBt, isN_non, Bool.not_true, Bool.not_false, rep2]
    refine ⟨by show 1 ≤ sizeLine; omega, fun l hl => ?_⟩
    have hlb : l ≠ b := fun e => by rw [e, hMb] at hl; cases hl
    have hM2 : mset M' l (.lst [.int (v : Nat)]) b = some (.lst (natL f)) := (mset_ne (Ne.symm hlb)).trans hMb
    have hM3 : mset M' l (.lst [.int (v : Nat)]) l = some (.lst [.int (v : Nat)]) := mset_same
    generalize mset M' l (.lst [.int (v : Nat)]) = M2 at hM2 hM3
    try dsimp only
    rw [st_seq]
    have hneg : ∀ {M : Mp} {Q : VK3}, oNeg (.int 1) M Q = Q (.int (-1)) M := rfl
    refine while_pv (fun m τ M => ∃ l', m = d - (l' + 1) ∧ l' + 1 ≤ d ∧ M b = some (.lst (natL f)) ∧ M l = some (.lst (natL (goL (fnN f) v (l' + 1)))) ∧ (∀ k, 0 < k → k < l' + 1 → goB (fnN f) k v ≠ v) ∧ τ = [some (tabD T), some (.ref a), some (.ref b), some (.int (v : Nat)), x4, some (.ref l)]) ?_ (n := d - 1)
      ⟨0, rfl, d0, hM2, hM3, fun k h1 h2 => by omega, rfl⟩
    rintro m τ M3 ⟨l', rfl, hld, hMb3, hMl, hm, rfl⟩ X hX
    have hat : atI (natL (goL (fnN f) v (l' + 1))) (-1) = some (.int (goB (fnN f) l' v : Nat)) := by
      rw [goL_snoc]; unfold natL; rw [List.map_append]; exact atI_end
    have hat2 : atI (natL f) ((goB (fnN f) l' v : Nat) : Int) = some (.int (goB (fnN f) (l' + 1) v : Nat)) := fnN_at (show goB (fnN f) l' v < f.length by rw [hf]; exact ltv l')
    simp only [ex_c, ex_var, ex_op, ex_un, ex_b, ex_and, ex_or, ex_not, ex_andV, ex_orV, ex_notV, ex_if, ex_chain, ex_nil, ex_cons, ex_tup, ex_lst, ex_call, ex_callP, ex_cb, ex_bm, ex_rep, ex_sl, ex_noPart, ex_part, ex_yes, it_items, it_rng1, it_rng2, tg_name, tg_sub, tg_tup, tg_cons, tg_nil, gs_0, gs_s, ss_0, ss_s, op_ii, op_ss, op_tt, op_mm, op_sb, op_ng, op_iNf, op_iNt, op_lle, op_ixT, op_ixR, op_ixL, op_putE, op_appE, it_tupE, it_rolE, it_refE, lstOf_l, exL, asS_some, asI_int, asB_bl, asL_some, asN_some, ite3_t, ite3_f, bl_1, bl_lenT, bl_lenR, bl_lenL, bl_lenS, bl_tuple, bl_list, bl_abs, bl_intI, bl_intB, bl_max, bl_min, op_eqSf, op_eqSt, op_eqIf, op_eqIt, op_eqTf, op_eqTt, op_eqRf, op_eqRt, op_eqNf, op_eqNt, eqD_int, eqD_nil, pl_int, pl_nil, pl_non, pl_rnil, pl_bl, sl_tupE, sl_rolE, keep_ref, keep_tup, keep_rol, tp_int, tp_tup, tp_rol, tp_str, tp_bl, tp_non, tp_ref, oFd, oMd, oPw, oShl, oLt, oLe, oGt, oGe, op_in, op_cp, wipe_nil, wipe_cons, mset_same, true_and, and_true, isN_int, ex_lstF, ex_repF, ex_lgF1, ex_lgF2, ex_tupRg1, ex_tupRg2, ex_frz, ex_slF, ex_slM, sl_tupF, sl_rolF, op_iiF, op_ssF, op_ttF, op_rrF, op_rrM, op_mmF, op_repF, li_rol, li_ref, bl_listF, bl_allF, bl_anyF, asT_some, asJ_some, op_eqBf, op_eqBt, isN_non, Bool.not_true, Bool.not_false, rep2, hMl, hneg, hat, hMb3, hat2]
    refine ite3_by (fun h => ?_) (fun h => ?_)
    · have hne : goB (fnN f) (l' + 1) v ≠ v := fun e => by rw [e] at h; simp at h
      have hld2 : l' + 1 < d := by
        rcases Nat.lt_or_ge (l' + 1) d with z | z
        · exact z
        · have : l' + 1 = d := by omega
          rw [this] at hne
          exact absurd hd hne
      rw [st_drop]
      simp only [ex_c, ex_var, ex_op, ex_un, ex_b, ex_and, ex_or, ex_not, ex_andV, ex_orV, ex_notV, ex_if, ex_chain, ex_nil, ex_cons, ex_tup, ex_lst, ex_call, ex_callP, ex_cb, ex_bm, ex_rep, ex_sl, ex_noPart, ex_part, ex_yes, it_items, it_rng1, it_rng2, tg_name, tg_sub, tg_tup, tg_cons, tg_nil, gs_0, gs_s, ss_0, ss_s, op_ii, op_ss, op_tt, op_mm, op_sb, op_ng, op_iNf, op_iNt, op_lle, op_ixT, op_ixR, op_ixL, op_putE, op_appE, it_tupE, it_rolE, it_refE, lstOf_l, exL, asS_some, asI_int, asB_bl, asL_some, asN_some, ite3_t, ite3_f, bl_1, bl_lenT, bl_lenR, bl_lenL, bl_lenS, bl_tuple, bl_list, bl_abs, bl_intI, bl_intB, bl_max, bl_min, op_eqSf, op_eqSt, op_eqIf, op_eqIt, op_eqTf, op_eqTt, op_eqRf, op_eqRt, op_eqNf, op_eqNt, eqD_int, eqD_nil, pl_int, pl_nil, pl_non, pl_rnil, pl_bl, sl_tupE, sl_rolE, keep_ref, keep_tup, keep_rol, tp_int, tp_tup, tp_rol, tp_str, tp_bl, tp_non, tp_ref, oFd, oMd, oPw, oShl, oLt, oLe, oGt, oGe, op_in, op_cp, wipe_nil, wipe_cons, mset_same, true_and, and_true, isN_int, ex_lstF, ex_repF, ex_lgF1, ex_lgF2, ex_tupRg1, ex_tupRg2, ex_frz, ex_slF, ex_slM, sl_tupF, sl_rolF, op_iiF, op_ssF, op_ttF, op_rrF, op_rrM, op_mmF, op_repF, li_rol, li_ref, bl_listF, bl_allF, bl_anyF, asT_some, asJ_some, op_eqBf, op_eqBt, isN_non, Bool.not_true, Bool.not_false, rep2, hMl, hneg, hat, hMb3, hat2]
      refine ⟨by rw [natL_len, goL_len]; omega, hX (d - (l' + 2)) _ _ (by omega) ⟨l' + 1, rfl, hld2, ?_, ?_, fun k h1 h2 => ?_, rfl⟩⟩
      · rw [mset_ne (Ne.symm hlb)]; exact hMb3
      · rw [mset_same, goL_snoc (l := l' + 1)]; unfold natL; rw [List.map_append]; rfl
      · rcases Nat.lt_or_ge k (l' + 1) with z | z
        · exact hm k h1 z
        · have : k = l' + 1 := by omega
          rw [this]; exact hne
    · have he : goB (fnN f) (l' + 1) v = v := by
        refine Classical.byContradiction fun e => ?_
        have : ((goB (fnN f) (l' + 1) v : Nat) : Int) ≠ (v : Nat) := fun z => e (by omega)
        rw [decide_eq_false this] at h
        exact absurd h (by decide)
      obtain ⟨es, ring, neg⟩ := ring_goB hI (l := l' + 1) ltv hR (Nat.succ_pos _) he hm
      try dsimp only
      rw [st_ret]
      simp only [ex_c, ex_var, ex_op, ex_un, ex_b, ex_and, ex_or, ex_not, ex_andV, ex_orV, ex_notV, ex_if, ex_chain, ex_nil, ex_cons, ex_tup, ex_lst, ex_call, ex_callP, ex_cb, ex_bm, ex_rep, ex_sl, ex_noPart, ex_part, ex_yes, it_items, it_rng1, it_rng2, tg_name, tg_sub, tg_tup, tg_cons, tg_nil, gs_0, gs_s, ss_0, ss_s, op_ii, op_ss, op_tt, op_mm, op_sb, op_ng, op_iNf, op_iNt, op_lle, op_ixT, op_ixR, op_ixL, op_putE, op_appE, it_tupE, it_rolE, it_refE, lstOf_l, exL, asS_some, asI_int, asB_bl, asL_some, asN_some, ite3_t, ite3_f, bl_1, bl_lenT, bl_lenR, bl_lenL, bl_lenS, bl_tuple, bl_list, bl_abs, bl_intI, bl_intB, bl_max, bl_min, op_eqSf, op_eqSt, op_eqIf, op_eqIt, op_eqTf, op_eqTt, op_eqRf, op_eqRt, op_eqNf, op_eqNt, eqD_int, eqD_nil, pl_int, pl_nil, pl_non, pl_rnil, pl_bl, sl_tupE, sl_rolE, keep_ref, keep_tup, keep_rol, tp_int, tp_tup, tp_rol, tp_str, tp_bl, tp_non, tp_ref, oFd, oMd, oPw, oShl, oLt, oLe, oGt, oGe, op_in, op_cp, wipe_nil, wipe_cons, mset_same, true_and, and_true, isN_int, ex_lstF, ex_repF, ex_lgF1, ex_lgF2, ex_tupRg1, ex_tupRg2, ex_frz, ex_slF, ex_slM, sl_tupF, sl_rolF, op_iiF, op_ssF, op_ttF, op_rrF, op_rrM, op_mmF, op_repF, li_rol, li_ref, bl_listF, bl_allF, bl_anyF, asT_some, asJ_some, op_eqBf, op_eqBt, isN_non, Bool.not_true, Bool.not_false, rep2, ex_revF, rv_ref, hMl]
      rw [natL_rev]
      exact q2 _ _ _ ring neg
end L3
set_option Elab.async false
set_option linter.all false
set_option maxRecDepth 100000
set_option maxHeartbeats 4000000
namespace L3
open PySem PySem.Spec PyProof.Rows L2
theorem ex_raise {n : Str} {fs : List Str} {W3 : St3 → XK3} {t : TA3} {D : Ends3} {τ : St3} {M : Mp} : wRaise n fs W3 t D τ M = t τ M fun ds M1 => ds.length = fs.length ∧ ds.length ≤ 1000 ∧ W3 τ n (fs.zip ds).reverse M1 := rfl
def inN (n : Int) : D → Bool
  | .int i => decide (0 ≤ i) && decide (i < n)
  | _ => false
/-- the points of a ring, if it is one -/
def ringV (n : Int) : D → Option (List Int)
  | .tup ds => match ils ds with
    | some l => if (!l.isEmpty && l.all (fun i => decide (0 ≤ i) && decide (i < n)) && decide l.Nodup) = true then some l else none
    | none => none
  | _ => none
theorem ils_all : ∀ {n : Int} {ds : List D}, (ds.map (inN n)).all id = true → ∃ l, ils ds = some l ∧ ds = l.map D.int ∧ l.all (fun i => decide (0 ≤ i) && decide (i < n)) = true
  | _, [], _ => ⟨[], rfl, rfl, rfl⟩
  | n, d :: ds, h => by
    rw [List.map_cons, List.all_cons, Bool.and_eq_true] at h
    obtain ⟨l, e1, e2, e3⟩ := ils_all h.2
    cases d with
    | int i =>
      refine ⟨i :: l, ?_, by rw [e2]; rfl, ?_⟩
      · show (ils ds).map (i :: ·) = _
        rw [e1]; rfl
      · rw [List.all_cons, e3, Bool.and_true]; exact h.1
    | _ => exact absurd h.1 (by simp [inN])
theorem ils_inv : ∀ {ds : List D} {l : List Int}, ils ds = some l → ds = l.map D.int
  | [], l, h => by cases h; rfl
  | d :: ds, l, h => by
    cases d with
    | int i =>
      simp only [ils] at h
      obtain ⟨k, hk, rfl⟩ := Option.map_eq_some_iff.mp h
      rw [ils_inv hk]; rfl
    | _ => cases h
theorem ringV_no {n : Int} {ds : List D} (h : (ds.map (inN n)).all id = false) : ringV n (.tup ds) = none := by
  unfold ringV
  dsimp only
  cases e : ils ds with
  | none => rfl
  | some l =>
    have e2 := ils_inv e
    have : l.all (fun i => decide (0 ≤ i) && decide (i < n)) = false := by
      rw [e2, List.map_map] at h
      rw [← h]
      clear h e e2
      induction l with
      | nil => rfl
      | cons i r ih => rw [List.all_cons, List.map_cons, List.all_cons, ih]; rfl
    simp [this]
def isRingR (sp_is_integer : Sp3) : XK3 → TS3 := fun E =>
  (wSeq (wIfS (wOr (wNot (wB (wCB bIsi (wCons (wVar 0) (wCons (wC (.ty "tuple")) wNil))))) (wB (wOp (oEq false) (wVar 0) (wTup wNil)))) (wRet (wC (.bl false))) wNext)
  (wSeq (wIfS (wNot (wB (wCB bAllF (wCons (wLcF (wItems (wVar 0)) (wgName 2) wYes (wAndV (wCallP sp_is_integer X0 (wCons (wVar 2) wNil)) (wChain oLe oLt (wC (.int 0)) (wVar 2) (wVar 1))) [2]) wNil)))) (wRet (wC (.bl false))) wNext)
  (wRet (wOp (oEq false) (wLenSet (wVar 0)) (wCB bLen (wCons (wVar 0) wNil))))))
/-- a plain value with few parts -/
def PlS (d : D) : Prop := Pl d ∧ ∀ ds, d = .tup ds → ds.length ≤ 1000
def SIsRingP (sp : Sp3) : Prop := ∀ (d : D) (n : Int) (Q : VK3) (E : XK3), PlS d → (∀ M, Q (.bl (ringV n d).isSome) M) → sp [d, .int n] M0 Q E
theorem ne_tyE {d : D} {M : Mp} (hp : plain d = true) : ∃ t, tyN M d = some t ∧ ((∃ ds, d = .tup ds) ∨ kitB t "tuple" = some false) := by
  cases d with
  | non => exact ⟨_, rfl, .inr kb_nt⟩
  | bl b => exact ⟨_, rfl, .inr kb_bt⟩
  | int i => exact ⟨_, rfl, .inr kb_it⟩
  | str x => exact ⟨_, rfl, .inr kb_st⟩
  | tup ds => exact ⟨_, rfl, .inl ⟨ds, rfl⟩⟩
  | rol ds => exact ⟨_, rfl, .inr kb_lt⟩
  | ref a => cases hp
  | ty n => cases hp
theorem not_tupV {n : Int} {d : D} (h : ¬ ∃ ds, d = .tup ds) : ringV n d = none := by
  cases d with
  | tup ds => exact absurd ⟨ds, rfl⟩ h
  | _ => rfl
theorem eq_tn {ds : List D} {M : Mp} {Q : VK3} (hp : Pl (.tup ds)) : oEq false (.tup ds) (.tup []) M Q = Q (.bl ds.isEmpty) M := by
  rw [op_eqTf, tp_tup, eqD_nil]
  exact propext ⟨fun x => x.2.2, fun x => ⟨hp, by rw [pl_nil]; trivial, x⟩⟩
theorem s_isRingP {si : Sp3} (ki : SIsInt si) : SIsRingP (spOf 2 3 (isRingR si)) := by
  refine fun d n Q E hd q => ⟨rfl, ?_⟩
  have big : (1000000 : Nat) ≤ sizeLine := by decide
  show isRingR si E _ [some d, some (.int n), none] M0
  unfold isRingR
  rw [st_seq, st_if]
  obtain ⟨t, ht, h⟩ := ne_tyE (M := M0) hd.1.p
  rcases h with ⟨ds, rfl⟩ | h
  · have hl := hd.2 ds rfl
    have hpl := hd.1
    simp only [ex_c, ex_var, ex_op, ex_un, ex_b, ex_and, ex_or, ex_not, ex_andV, ex_orV, ex_notV, ex_if, ex_chain, ex_nil, ex_cons, ex_tup, ex_lst, ex_call, ex_callP, ex_cb, ex_bm, ex_rep, ex_sl, ex_noPart, ex_part, ex_yes, it_items, it_rng1, it_rng2, tg_name, tg_sub, tg_tup, tg_cons, tg_nil, gs_0, gs_s, ss_0, ss_s, op_ii, op_ss, op_tt, op_mm, op_sb, op_ng, op_iNf, op_iNt, op_lle, op_ixT, op_ixR, op_ixL, op_putE, op_appE, it_tupE, it_rolE, it_refE, lstOf_l, exL, asS_some, asI_int, asB_bl, asL_some, asN_some, ite3_t, ite3_f, bl_1, bl_lenT, bl_lenR, bl_lenL, bl_lenS, bl_tuple, bl_list, bl_abs, bl_intI, bl_intB, bl_max, bl_min, op_eqSf, op_eqSt, op_eqIf, op_eqIt, op_eqTf, op_eqTt, op_eqRf, op_eqRt, op_eqNf, op_eqNt, eqD_int, eqD_nil, pl_int, pl_nil, pl_non, pl_rnil, pl_bl, sl_tupE, sl_rolE, keep_ref, keep_tup, keep_rol, tp_int, tp_tup, tp_rol, tp_str, tp_bl, tp_non, tp_ref, oFd, oMd, oPw, oShl, oLt, oLe, oGt, oGe, op_in, op_cp, wipe_nil, wipe_cons, mset_same, true_and, and_true, isN_int, ex_lstF, ex_repF, ex_lgF1, ex_lgF2, ex_tupRg1, ex_tupRg2, ex_frz, ex_slF, ex_slM, sl_tupF, sl_rolF, op_iiF, op_ssF, op_ttF, op_rrF, op_rrM, op_mmF, op_repF, li_rol, li_ref, bl_listF, bl_allF, bl_anyF, asT_some, asJ_some, op_eqBf, op_eqBt, isN_non, Bool.not_true, Bool.not_false, rep2, isi_T kb_tt, Bool.not_true, eqD_nil]
    refine ⟨Nat.zero_le _, hpl, ite3_by (fun h => ?_) (fun h => ?_)⟩
    · rw [st_ret]
      simp only [ex_c, ex_var, ex_op, ex_un, ex_b, ex_and, ex_or, ex_not, ex_andV, ex_orV, ex_notV, ex_if, ex_chain, ex_nil, ex_cons, ex_tup, ex_lst, ex_call, ex_callP, ex_cb, ex_bm, ex_rep, ex_sl, ex_noPart, ex_part, ex_yes, it_items, it_rng1, it_rng2, tg_name, tg_sub, tg_tup, tg_cons, tg_nil, gs_0, gs_s, ss_0, ss_s, op_ii, op_ss, op_tt, op_mm, op_sb, op_ng, op_iNf, op_iNt, op_lle, op_ixT, op_ixR, op_ixL, op_putE, op_appE, it_tupE, it_rolE, it_refE, lstOf_l, exL, asS_some, asI_int, asB_bl, asL_some, asN_some, ite3_t, ite3_f, bl_1, bl_lenT, bl_lenR, bl_lenL, bl_lenS, bl_tuple, bl_list, bl_abs, bl_intI, bl_intB, bl_max, bl_min, op_eqSf, op_eqSt, op_eqIf, op_eqIt, op_eqTf, op_eqTt, op_eqRf, op_eqRt, op_eqNf, op_eqNt, eqD_int, eqD_nil, pl_int, pl_nil, pl_non, pl_rnil, pl_bl, sl_tupE, sl_rolE, keep_ref, keep_tup, keep_rol, tp_int, tp_tup, tp_rol, tp_str, tp_bl, tp_non, tp_ref, oFd, oMd, oPw, oShl, oLt, oLe, oGt, oGe, op_in, op_cp, wipe_nil, wipe_cons, mset_same, true_and, and_true, isN_int, ex_lstF, ex_repF, ex_lgF1, ex_lgF2, ex_tupRg1, ex_tupRg2, ex_frz, ex_slF, ex_slM, sl_tupF, sl_rolF, op_iiF, op_ssF, op_ttF, op_rrF, op_rrM, op_mmF, op_repF, li_rol, li_ref, bl_listF, bl_allF, bl_anyF, asT_some, asJ_some, op_eqBf, op_eqBt, isN_non, Bool.not_true, Bool.not_false, rep2]
      have : ds = [] := List.isEmpty_iff.mp h
      subst this
      have e : ringV n (.tup []) = none := rfl
      rw [e] at q
      exact q _
    rw [st_next]
    try dsimp only
    rw [st_seq, st_if]
    simp only [ex_c, ex_var, ex_op, ex_un, ex_b, ex_and, ex_or, ex_not, ex_andV, ex_orV, ex_notV, ex_if, ex_chain, ex_nil, ex_cons, ex_tup, ex_lst, ex_call, ex_callP, ex_cb, ex_bm, ex_rep, ex_sl, ex_noPart, ex_part, ex_yes, it_items, it_rng1, it_rng2, tg_name, tg_sub, tg_tup, tg_cons, tg_nil, gs_0, gs_s, ss_0, ss_s, op_ii, op_ss, op_tt, op_mm, op_sb, op_ng, op_iNf, op_iNt, op_lle, op_ixT, op_ixR, op_ixL, op_putE, op_appE, it_tupE, it_rolE, it_refE, lstOf_l, exL, asS_some, asI_int, asB_bl, asL_some, asN_some, ite3_t, ite3_f, bl_1, bl_lenT, bl_lenR, bl_lenL, bl_lenS, bl_tuple, bl_list, bl_abs, bl_intI, bl_intB, bl_max, bl_min, op_eqSf, op_eqSt, op_eqIf, op_eqIt, op_eqTf, op_eqTt, op_eqRf, op_eqRt, op_eqNf, op_eqNt, eqD_int, eqD_nil, pl_int, pl_nil, pl_non, pl_rnil, pl_bl, sl_tupE, sl_rolE, keep_ref, keep_tup, keep_rol, tp_int, tp_tup, tp_rol, tp_str, tp_bl, tp_non, tp_ref, oFd, oMd, oPw, oShl, oLt, oLe, oGt, oGe, op_in, op_cp, wipe_nil, wipe_cons, mset_same, true_and, and_true, isN_int, ex_lstF, ex_repF, ex_lgF1, ex_lgF2, ex_tupRg1, ex_tupRg2, ex_frz, ex_slF, ex_slM, sl_tupF, sl_rolF, op_iiF, op_ssF, op_ttF, op_rrF, op_rrM, op_mmF, op_repF, li_rol, li_ref, bl_listF, bl_allF, bl_anyF, asT_some, asJ_some, op_eqBf, op_eqBt, isN_non, Bool.not_true, Bool.not_false, rep2, ex_lcF]
    have hz : ds.map (fun d => d) = ds := List.map_id' _
    rw [← hz]
    refine lc_of (fun d : D => d) (fun d => D.bl (inN n d)) True.intro ds (by omega) (fun p hp K qK => ?_) ?_
    · have hpp := plain_mem (by have := hpl.p; simpa [plain] using this) hp
      rw [tg_name]
      simp only [ex_c, ex_var, ex_op, ex_un, ex_b, ex_and, ex_or, ex_not, ex_andV, ex_orV, ex_notV, ex_if, ex_chain, ex_nil, ex_cons, ex_tup, ex_lst, ex_call, ex_callP, ex_cb, ex_bm, ex_rep, ex_sl, ex_noPart, ex_part, ex_yes, it_items, it_rng1, it_rng2, tg_name, tg_sub, tg_tup, tg_cons, tg_nil, gs_0, gs_s, ss_0, ss_s, op_ii, op_ss, op_tt, op_mm, op_sb, op_ng, op_iNf, op_iNt, op_lle, op_ixT, op_ixR, op_ixL, op_putE, op_appE, it_tupE, it_rolE, it_refE, lstOf_l, exL, asS_some, asI_int, asB_bl, asL_some, asN_some, ite3_t, ite3_f, bl_1, bl_lenT, bl_lenR, bl_lenL, bl_lenS, bl_tuple, bl_list, bl_abs, bl_intI, bl_intB, bl_max, bl_min, op_eqSf, op_eqSt, op_eqIf, op_eqIt, op_eqTf, op_eqTt, op_eqRf, op_eqRt, op_eqNf, op_eqNt, eqD_int, eqD_nil, pl_int, pl_nil, pl_non, pl_rnil, pl_bl, sl_tupE, sl_rolE, keep_ref, keep_tup, keep_rol, tp_int, tp_tup, tp_rol, tp_str, tp_bl, tp_non, tp_ref, oFd, oMd, oPw, oShl, oLt, oLe, oGt, oGe, op_in, op_cp, wipe_nil, wipe_cons, mset_same, true_and, and_true, isN_int, ex_lstF, ex_repF, ex_lgF1, ex_lgF2, ex_tupRg1, ex_tupRg2, ex_frz, ex_slF, ex_slM, sl_tupF, sl_rolF, op_iiF, op_ssF, op_ttF, op_rrF, op_rrM, op_mmF, op_repF, li_rol, li_ref, bl_listF, bl_allF, bl_anyF, asT_some, asJ_some, op_eqBf, op_eqBt, isN_non, Bool.not_true, Bool.not_false, rep2]
      refine ki p _ _ hpp fun _ => ?_
      cases p with
      | int i =>
        simp only [ex_c, ex_var, ex_op, ex_un, ex_b, ex_and, ex_or, ex_not, ex_andV, ex_orV, ex_notV, ex_if, ex_chain, ex_nil, ex_cons, ex_tup, ex_lst, ex_call, ex_callP, ex_cb, ex_bm, ex_rep, ex_sl, ex_noPart, ex_part, ex_yes, it_items, it_rng1, it_rng2, tg_name, tg_sub, tg_tup, tg_cons, tg_nil, gs_0, gs_s, ss_0, ss_s, op_ii, op_ss, op_tt, op_mm, op_sb, op_ng, op_iNf, op_iNt, op_lle, op_ixT, op_ixR, op_ixL, op_putE, op_appE, it_tupE, it_rolE, it_refE, lstOf_l, exL, asS_some, asI_int, asB_bl, asL_some, asN_some, ite3_t, ite3_f, bl_1, bl_lenT, bl_lenR, bl_lenL, bl_lenS, bl_tuple, bl_list, bl_abs, bl_intI, bl_intB, bl_max, bl_min, op_eqSf, op_eqSt, op_eqIf, op_eqIt, op_eqTf, op_eqTt, op_eqRf, op_eqRt, op_eqNf, op_eqNt, eqD_int, eqD_nil, pl_int, pl_nil, pl_non, pl_rnil, pl_bl, sl_tupE, sl_rolE, keep_ref, keep_tup, keep_rol, tp_int, tp_tup, tp_rol, tp_str, tp_bl, tp_non, tp_ref, oFd, oMd, oPw, oShl, oLt, oLe, oGt, oGe, op_in, op_cp, wipe_nil, wipe_cons, mset_same, true_and, and_true, isN_int, ex_lstF, ex_repF, ex_lgF1, ex_lgF2, ex_tupRg1, ex_tupRg2, ex_frz, ex_slF, ex_slM, sl_tupF, sl_rolF, op_iiF, op_ssF, op_ttF, op_rrF, op_rrM, op_mmF, op_repF, li_rol, li_ref, bl_listF, bl_allF, bl_anyF, asT_some, asJ_some, op_eqBf, op_eqBt, isN_non, Bool.not_true, Bool.not_false, rep2, isI]
        have e : inN n (.int i) = (decide (0 ≤ i) && decide (i < n)) := rfl
        rw [e] at qK
        refine ite3_by (fun h => ?_) (fun h => ?_)
        · rw [h, Bool.true_and] at qK; exact qK
        · rw [h, Bool.false_and] at qK; exact qK
      | _ => simp only [ex_c, ex_var, ex_op, ex_un, ex_b, ex_and, ex_or, ex_not, ex_andV, ex_orV, ex_notV, ex_if, ex_chain, ex_nil, ex_cons, ex_tup, ex_lst, ex_call, ex_callP, ex_cb, ex_bm, ex_rep, ex_sl, ex_noPart, ex_part, ex_yes, it_items, it_rng1, it_rng2, tg_name, tg_sub, tg_tup, tg_cons, tg_nil, gs_0, gs_s, ss_0, ss_s, op_ii, op_ss, op_tt, op_mm, op_sb, op_ng, op_iNf, op_iNt, op_lle, op_ixT, op_ixR, op_ixL, op_putE, op_appE, it_tupE, it_rolE, it_refE, lstOf_l, exL, asS_some, asI_int, asB_bl, asL_some, asN_some, ite3_t, ite3_f, bl_1, bl_lenT, bl_lenR, bl_lenL, bl_lenS, bl_tuple, bl_list, bl_abs, bl_intI, bl_intB, bl_max, bl_min, op_eqSf, op_eqSt, op_eqIf, op_eqIt, op_eqTf, op_eqTt, op_eqRf, op_eqRt, op_eqNf, op_eqNt, eqD_int, eqD_nil, pl_int, pl_nil, pl_non, pl_rnil, pl_bl, sl_tupE, sl_rolE, keep_ref, keep_tup, keep_rol, tp_int, tp_tup, tp_rol, tp_str, tp_bl, tp_non, tp_ref, oFd, oMd, oPw, oShl, oLt, oLe, oGt, oGe, op_in, op_cp, wipe_nil, wipe_cons, mset_same, true_and, and_true, isN_int, ex_lstF, ex_repF, ex_lgF1, ex_lgF2, ex_tupRg1, ex_tupRg2, ex_frz, ex_slF, ex_slM, sl_tupF, sl_rolF, op_iiF, op_ssF, op_ttF, op_rrF, op_rrM, op_mmF, op_repF, li_rol, li_ref, bl_listF, bl_allF, bl_anyF, asT_some, asJ_some, op_eqBf, op_eqBt, isN_non, Bool.not_true, Bool.not_false, rep2, isI]; exact qK
    · rw [hz]
      (try simp only [ex_c, ex_var, ex_op, ex_un, ex_b, ex_and, ex_or, ex_not, ex_andV, ex_orV, ex_notV, ex_if, ex_chain, ex_nil, ex_cons, ex_tup, ex_lst, ex_call, ex_callP, ex_cb, ex_bm, ex_rep, ex_sl, ex_noPart, ex_part, ex_yes, it_items, it_rng1, it_rng2, tg_name, tg_sub, tg_tup, tg_cons, tg_nil, gs_0, gs_s, ss_0, ss_s, op_ii, op_ss, op_tt, op_mm, op_sb, op_ng, op_iNf, op_iNt, op_lle, op_ixT, op_ixR, op_ixL, op_putE, op_appE, it_tupE, it_rolE, it_refE, lstOf_l, exL, asS_some, asI_int, asB_bl, asL_some, asN_some, ite3_t, ite3_f, bl_1, bl_lenT, bl_lenR, bl_lenL, bl_lenS, bl_tuple, bl_list, bl_abs, bl_intI, bl_intB, bl_max, bl_min, op_eqSf, op_eqSt, op_eqIf, op_eqIt, op_eqTf, op_eqTt, op_eqRf, op_eqRt, op_eqNf, op_eqNt, eqD_int, eqD_nil, pl_int, pl_nil, pl_non, pl_rnil, pl_bl, sl_tupE, sl_rolE, keep_ref, keep_tup, keep_rol, tp_int, tp_tup, tp_rol, tp_str, tp_bl, tp_non, tp_ref, oFd, oMd, oPw, oShl, oLt, oLe, oGt, oGe, op_in, op_cp, wipe_nil, wipe_cons, mset_same, true_and, and_true, isN_int, ex_lstF, ex_repF, ex_lgF1, ex_lgF2, ex_tupRg1, ex_tupRg2, ex_frz, ex_slF, ex_slM, sl_tupF, sl_rolF, op_iiF, op_ssF, op_ttF, op_rrF, op_rrM, op_mmF, op_repF, li_rol, li_ref, bl_listF, bl_allF, bl_anyF, asT_some, asJ_some, op_eqBf, op_eqBt, isN_non, Bool.not_true, Bool.not_false, rep2, bl_allF, bls_map])
      have em : (ds.map fun x => inN n x) = ds.map (inN n) := rfl
      rw [em]
      refine ite3_by (fun h2 => ?_) (fun h2 => ?_)
      · rw [st_ret]
        simp only [ex_c, ex_var, ex_op, ex_un, ex_b, ex_and, ex_or, ex_not, ex_andV, ex_orV, ex_notV, ex_if, ex_chain, ex_nil, ex_cons, ex_tup, ex_lst, ex_call, ex_callP, ex_cb, ex_bm, ex_rep, ex_sl, ex_noPart, ex_part, ex_yes, it_items, it_rng1, it_rng2, tg_name, tg_sub, tg_tup, tg_cons, tg_nil, gs_0, gs_s, ss_0, ss_s, op_ii, op_ss, op_tt, op_mm, op_sb, op_ng, op_iNf, op_iNt, op_lle, op_ixT, op_ixR, op_ixL, op_putE, op_appE, it_tupE, it_rolE, it_refE, lstOf_l, exL, asS_some, asI_int, asB_bl, asL_some, asN_some, ite3_t, ite3_f, bl_1, bl_lenT, bl_lenR, bl_lenL, bl_lenS, bl_tuple, bl_list, bl_abs, bl_intI, bl_intB, bl_max, bl_min, op_eqSf, op_eqSt, op_eqIf, op_eqIt, op_eqTf, op_eqTt, op_eqRf, op_eqRt, op_eqNf, op_eqNt, eqD_int, eqD_nil, pl_int, pl_nil, pl_non, pl_rnil, pl_bl, sl_tupE, sl_rolE, keep_ref, keep_tup, keep_rol, tp_int, tp_tup, tp_rol, tp_str, tp_bl, tp_non, tp_ref, oFd, oMd, oPw, oShl, oLt, oLe, oGt, oGe, op_in, op_cp, wipe_nil, wipe_cons, mset_same, true_and, and_true, isN_int, ex_lstF, ex_repF, ex_lgF1, ex_lgF2, ex_tupRg1, ex_tupRg2, ex_frz, ex_slF, ex_slM, sl_tupF, sl_rolF, op_iiF, op_ssF, op_ttF, op_rrF, op_rrM, op_mmF, op_repF, li_rol, li_ref, bl_listF, bl_allF, bl_anyF, asT_some, asJ_some, op_eqBf, op_eqBt, isN_non, Bool.not_true, Bool.not_false, rep2]
        rw [ringV_no (by simpa using h2)] at q
        exact q _
      rw [st_next]
      obtain ⟨l, e1, e2, e3⟩ := ils_all (show (ds.map (inN n)).all id = true by simpa using h2)
      subst e2
      try dsimp only
      rw [st_ret]
      simp only [ex_c, ex_var, ex_op, ex_un, ex_b, ex_and, ex_or, ex_not, ex_andV, ex_orV, ex_notV, ex_if, ex_chain, ex_nil, ex_cons, ex_tup, ex_lst, ex_call, ex_callP, ex_cb, ex_bm, ex_rep, ex_sl, ex_noPart, ex_part, ex_yes, it_items, it_rng1, it_rng2, tg_name, tg_sub, tg_tup, tg_cons, tg_nil, gs_0, gs_s, ss_0, ss_s, op_ii, op_ss, op_tt, op_mm, op_sb, op_ng, op_iNf, op_iNt, op_lle, op_ixT, op_ixR, op_ixL, op_putE, op_appE, it_tupE, it_rolE, it_refE, lstOf_l, exL, asS_some, asI_int, asB_bl, asL_some, asN_some, ite3_t, ite3_f, bl_1, bl_lenT, bl_lenR, bl_lenL, bl_lenS, bl_tuple, bl_list, bl_abs, bl_intI, bl_intB, bl_max, bl_min, op_eqSf, op_eqSt, op_eqIf, op_eqIt, op_eqTf, op_eqTt, op_eqRf, op_eqRt, op_eqNf, op_eqNt, eqD_int, eqD_nil, pl_int, pl_nil, pl_non, pl_rnil, pl_bl, sl_tupE, sl_rolE, keep_ref, keep_tup, keep_rol, tp_int, tp_tup, tp_rol, tp_str, tp_bl, tp_non, tp_ref, oFd, oMd, oPw, oShl, oLt, oLe, oGt, oGe, op_in, op_cp, wipe_nil, wipe_cons, mset_same, true_and, and_true, isN_int, ex_lstF, ex_repF, ex_lgF1, ex_lgF2, ex_tupRg1, ex_tupRg2, ex_frz, ex_slF, ex_slM, sl_tupF, sl_rolF, op_iiF, op_ssF, op_ttF, op_rrF, op_rrM, op_mmF, op_repF, li_rol, li_ref, bl_listF, bl_allF, bl_anyF, asT_some, asJ_some, op_eqBf, op_eqBt, isN_non, Bool.not_true, Bool.not_false, rep2, ex_lenSet]
      rw [tupI_ints]
      rw [List.length_map] at hl
      refine ⟨by omega, fun c hc => ?_⟩
      have hne : l.isEmpty = false := by rw [List.isEmpty_map] at h; exact h
      have e : (ringV n (.tup (l.map D.int))).isSome = decide ((c : Int) = ((l.map D.int).length : Nat)) := by
        unfold ringV
        simp only [e1, e3, hne]
        have := hc.iff
        rw [List.length_map]
        by_cases nd : l.Nodup
        · have e := this.mpr nd
          subst e
          simp [nd]
        · have e : ¬ c = l.length := fun e => nd (this.mp e)
          have e' : ¬ (c : Int) = (l.length : Nat) := by omega
          simp [nd, e, e']
      rw [e] at q
      (try simp only [ex_c, ex_var, ex_op, ex_un, ex_b, ex_and, ex_or, ex_not, ex_andV, ex_orV, ex_notV, ex_if, ex_chain, ex_nil, ex_cons, ex_tup, ex_lst, ex_call, ex_callP, ex_cb, ex_bm, ex_rep, ex_sl, ex_noPart, ex_part, ex_yes, it_items, it_rng1, it_rng2, tg_name, tg_sub, tg_tup, tg_cons, tg_nil, gs_0, gs_s, ss_0, ss_s, op_ii, op_ss, op_tt, op_mm, op_sb, op_ng, op_iNf, op_iNt, op_lle, op_ixT, op_ixR, op_ixL, op_putE, op_appE, it_tupE, it_rolE, it_refE, lstOf_l, exL, asS_some, asI_int, asB_bl, asL_some, asN_some, ite3_t, ite3_f, bl_1, bl_lenT, bl_lenR, bl_lenL, bl_lenS, bl_tuple, bl_list, bl_abs, bl_intI, bl_intB, bl_max, bl_min, op_eqSf, op_eqSt, op_eqIf, op_eqIt, op_eqTf, op_eqTt, op_eqRf, op_eqRt, op_eqNf, op_eqNt, eqD_int, eqD_nil, pl_int, pl_nil, pl_non, pl_rnil, pl_bl, sl_tupE, sl_rolE, keep_ref, keep_tup, keep_rol, tp_int, tp_tup, tp_rol, tp_str, tp_bl, tp_non, tp_ref, oFd, oMd, oPw, oShl, oLt, oLe, oGt, oGe, op_in, op_cp, wipe_nil, wipe_cons, mset_same, true_and, and_true, isN_int, ex_lstF, ex_repF, ex_lgF1, ex_lgF2, ex_tupRg1, ex_tupRg2, ex_frz, ex_slF, ex_slM, sl_tupF, sl_rolF, op_iiF, op_ssF, op_ttF, op_rrF, op_rrM, op_mmF, op_repF, li_rol, li_ref, bl_listF, bl_allF, bl_anyF, asT_some, asJ_some, op_eqBf, op_eqBt, isN_non, Bool.not_true, Bool.not_false, rep2])
      exact q _
  · have hnt : ¬ ∃ ds, d = .tup ds := fun ⟨ds, e⟩ => by
      subst e
      have : t = "tuple" := by
        have := ht; simp [tyN] at this; exact this.symm
      subst this
      rw [kb_tt] at h
      cases h
    have hisi : bIsi [d, .ty "tuple"] = fun (M : Mp) (Q : VK3) => Q (.bl false) M := by
      funext M Q
      obtain ⟨t', ht', h'⟩ := ne_tyE (M := M) hd.1.p
      rcases h' with h' | h'
      · exact absurd h' hnt
      · exact isi_is ht' h'
    simp only [ex_c, ex_var, ex_op, ex_un, ex_b, ex_and, ex_or, ex_not, ex_andV, ex_orV, ex_notV, ex_if, ex_chain, ex_nil, ex_cons, ex_tup, ex_lst, ex_call, ex_callP, ex_cb, ex_bm, ex_rep, ex_sl, ex_noPart, ex_part, ex_yes, it_items, it_rng1, it_rng2, tg_name, tg_sub, tg_tup, tg_cons, tg_nil, gs_0, gs_s, ss_0, ss_s, op_ii, op_ss, op_tt, op_mm, op_sb, op_ng, op_iNf, op_iNt, op_lle, op_ixT, op_ixR, op_ixL, op_putE, op_appE, it_tupE, it_rolE, it_refE, lstOf_l, exL, asS_some, asI_int, asB_bl, asL_some, asN_some, ite3_t, ite3_f, bl_1, bl_lenT, bl_lenR, bl_lenL, bl_lenS, bl_tuple, bl_list, bl_abs, bl_intI, bl_intB, bl_max, bl_min, op_eqSf, op_eqSt, op_eqIf, op_eqIt, op_eqTf, op_eqTt, op_eqRf, op_eqRt, op_eqNf, op_eqNt, eqD_int, eqD_nil, pl_int, pl_nil, pl_non, pl_rnil, pl_bl, sl_tupE, sl_rolE, keep_ref, keep_tup, keep_rol, tp_int, tp_tup, tp_rol, tp_str, tp_bl, tp_non, tp_ref, oFd, oMd, oPw, oShl, oLt, oLe, oGt, oGe, op_in, op_cp, wipe_nil, wipe_cons, mset_same, true_and, and_true, isN_int, ex_lstF, ex_repF, ex_lgF1, ex_lgF2, ex_tupRg1, ex_tupRg2, ex_frz, ex_slF, ex_slM, sl_tupF, sl_rolF, op_iiF, op_ssF, op_ttF, op_rrF, op_rrM, op_mmF, op_repF, li_rol, li_ref, bl_listF, bl_allF, bl_anyF, asT_some, asJ_some, op_eqBf, op_eqBt, isN_non, Bool.not_true, Bool.not_false, rep2, hisi, Bool.not_false]
    rw [st_ret]
    simp only [ex_c, ex_var, ex_op, ex_un, ex_b, ex_and, ex_or, ex_not, ex_andV, ex_orV, ex_notV, ex_if, ex_chain, ex_nil, ex_cons, ex_tup, ex_lst, ex_call, ex_callP, ex_cb, ex_bm, ex_rep, ex_sl, ex_noPart, ex_part, ex_yes, it_items, it_rng1, it_rng2, tg_name, tg_sub, tg_tup, tg_cons, tg_nil, gs_0, gs_s, ss_0, ss_s, op_ii, op_ss, op_tt, op_mm, op_sb, op_ng, op_iNf, op_iNt, op_lle, op_ixT, op_ixR, op_ixL, op_putE, op_appE, it_tupE, it_rolE, it_refE, lstOf_l, exL, asS_some, asI_int, asB_bl, asL_some, asN_some, ite3_t, ite3_f, bl_1, bl_lenT, bl_lenR, bl_lenL, bl_lenS, bl_tuple, bl_list, bl_abs, bl_intI, bl_intB, bl_max, bl_min, op_eqSf, op_eqSt, op_eqIf, op_eqIt, op_eqTf, op_eqTt, op_eqRf, op_eqRt, op_eqNf, op_eqNt, eqD_int, eqD_nil, pl_int, pl_nil, pl_non, pl_rnil, pl_bl, sl_tupE, sl_rolE, keep_ref, keep_tup, keep_rol, tp_int, tp_tup, tp_rol, tp_str, tp_bl, tp_non, tp_ref, oFd, oMd, oPw, oShl, oLt, oLe, oGt, oGe, op_in, op_cp, wipe_nil, wipe_cons, mset_same, true_and, and_true, isN_int, ex_lstF, ex_repF, ex_lgF1, ex_lgF2, ex_tupRg1, ex_tupRg2, ex_frz, ex_slF, ex_slM, sl_tupF, sl_rolF, op_iiF, op_ssF, op_ttF, op_rrF, op_rrM, op_mmF, op_repF, li_rol, li_ref, bl_listF, bl_allF, bl_anyF, asT_some, asJ_some, op_eqBf, op_eqBt, isN_non, Bool.not_true, Bool.not_false, rep2]
    rw [not_tupV hnt] at q
    exact q _
def natsOf (l : List Int) : List Nat := l.map Int.toNat
theorem natsOf_back {n : Int} : ∀ {l : List Int}, l.all (fun i => decide (0 ≤ i) && decide (i < n)) = true → (natsOf l).map (fun x : Nat => (x : Int)) = l
  | [], _ => rfl
  | i :: r, h => by
    rw [List.all_cons, Bool.and_eq_true, Bool.and_eq_true] at h
    have h0 := of_decide_eq_true h.1.1
    show ((i.toNat : Nat) : Int) :: (natsOf r).map _ = _
    rw [natsOf_back h.2, Int.toNat_of_nonneg h0]
/-- the end from the k-th point to the next one -/
def endK (F : Fn) (rs : List Nat) (k : Nat) : Ed := F (rs.getD k 0) (rs.getD ((k + 1) % rs.length) 0)
def sumK (F : Fn) (rs : List Nat) : Nat → Int
  | 0 => 0
  | k + 1 => sumK F rs k + (endK F rs k).getD 0
/-- what is told: nothing against it, or the word and the place -/
inductive Told (F : Fn) (rs : List Nat) : Option (Str × Nat) → Prop
  | gap (k : Nat) : k < rs.length → (∀ j, j < k → endK F rs j ≠ none) → endK F rs k = none → Told F rs (some (("end" : Str), k))
  | sum : (∀ j, j < rs.length → endK F rs j ≠ none) → 0 ≤ sumK F rs rs.length → Told F rs (some (("sum" : Str), 0))
  | ok : (∀ j, j < rs.length → endK F rs j ≠ none) → sumK F rs rs.length < 0 → Told F rs none
theorem Told.uniq {F : Fn} {rs : List Nat} {v v' : Option (Str × Nat)} (h : Told F rs v) (h' : Told F rs v') : v = v' := by
  cases h with
  | gap k h1 h2 h3 =>
    cases h' with
    | gap j g1 g2 g3 =>
      have : k = j := by
        rcases Nat.lt_trichotomy k j with z | z | z
        · exact absurd h3 (g2 k z)
        · exact z
        · exact absurd g3 (h2 j z)
      rw [this]
    | sum g1 g2 => exact absurd h3 (g1 k h1)
    | ok g1 g2 => exact absurd h3 (g1 k h1)
  | sum h1 h2 =>
    cases h' with
    | gap j g1 g2 g3 => exact absurd g3 (h1 j g1)
    | sum g1 g2 => rfl
    | ok g1 g2 => omega
  | ok h1 h2 =>
    cases h' with
    | gap j g1 g2 g3 => exact absurd g3 (h1 j g1)
    | sum g1 g2 => omega
    | ok g1 g2 => rfl
/-- .. of any value -/
inductive ToldV (n : Nat) (T : Tab) (d : D) : Option (Str × Nat) → Prop
  | nilT : T = [] → d = .tup [] → ToldV n T d none
  | nilF : T = [] → d ≠ .tup [] → ToldV n T d (some (("shape" : Str), 0))
  | shape : T ≠ [] → ringV n d = none → ToldV n T d (some (("shape" : Str), 0))
  | ring (l : List Int) (v : Option (Str × Nat)) : T ≠ [] → ringV n d = some l → Told (at2 T) (natsOf l) v → ToldV n T d v
theorem ToldV.uniq {n : Nat} {T : Tab} {d : D} {v v' : Option (Str × Nat)} (h : ToldV n T d v) (h' : ToldV n T d v') : v = v' := by
  cases h with
  | nilT h1 h2 =>
    cases h' with
    | nilT => rfl
    | nilF g1 g2 => exact absurd h2 g2
    | shape g1 _ => exact absurd h1 g1
    | ring l v g1 _ _ => exact absurd h1 g1
  | nilF h1 h2 =>
    cases h' with
    | nilT g1 g2 => exact absurd g2 h2
    | nilF => rfl
    | shape g1 _ => exact absurd h1 g1
    | ring l v g1 _ _ => exact absurd h1 g1
  | shape h1 h2 =>
    cases h' with
    | nilT g1 _ => exact absurd g1 h1
    | nilF g1 _ => exact absurd g1 h1
    | shape => rfl
    | ring l v _ g2 _ => rw [h2] at g2; cases g2
  | ring l v h1 h2 h3 =>
    cases h' with
    | nilT g1 _ => exact absurd g1 h1
    | nilF g1 _ => exact absurd g1 h1
    | shape _ g2 => rw [h2] at g2; cases g2
    | ring l2 v2 _ g2 g3 =>
      rw [h2] at g2; cases g2
      exact h3.uniq g3
theorem ringV_some {n : Int} {d : D} {l : List Int} (h : ringV n d = some l) : d = .tup (l.map D.int) ∧ l ≠ [] ∧ l.Nodup ∧ l.all (fun i => decide (0 ≤ i) && decide (i < n)) = true := by
  cases d with
  | tup ds =>
    unfold ringV at h
    dsimp only at h
    cases e : ils ds with
    | none => rw [e] at h; cases h
    | some k =>
      rw [e] at h
      dsimp only at h
      split at h
      · rename_i hc
        cases h
        rw [Bool.and_eq_true, Bool.and_eq_true] at hc
        refine ⟨by rw [ils_inv e], fun z => ?_, of_decide_eq_true hc.2, hc.1.2⟩
        rw [z] at hc
        simp at hc
      · cases h
  | _ => cases h
theorem ringV_nats {n : Nat} {d : D} {l : List Int} (h : ringV n d = some l) : d = .tup (natL (natsOf l)) ∧ natsOf l ≠ [] ∧ (natsOf l).Nodup ∧ ∀ r ∈ natsOf l, r < n := by
  obtain ⟨e, ne, nd, al⟩ := ringV_some h
  have b := natsOf_back al
  refine ⟨?_, ?_, ?_, fun r hr => ?_⟩
  · have : natL (natsOf l) = ((natsOf l).map fun x : Nat => (x : Int)).map D.int := by unfold natL; rw [List.map_map]; rfl
    rw [this, b]; exact e
  · intro z
    rw [z] at b
    exact ne b.symm
  · have nd' : ((natsOf l).map (fun x : Nat => (x : Int))).Pairwise (· ≠ ·) := by rw [b]; exact nd
    have := List.pairwise_map.mp nd'
    exact List.Pairwise.imp (fun {a c} h e => h (by rw [e])) this
  · have : ((r : Nat) : Int) ∈ l := by rw [← b]; exact List.mem_map.mpr ⟨r, hr, rfl⟩
    have := List.all_eq_true.mp al _ this
    rw [Bool.and_eq_true] at this
    have := of_decide_eq_true this.2
    omega
end L3
set_option Elab.async false
set_option linter.all false
set_option maxRecDepth 100000
set_option maxHeartbeats 4000000
namespace L3
open PySem PySem.Spec PyProof.Rows L2
def letsR (sp_is_ring : Sp3) : XK3 → TS3 := fun E =>
  (wSeq (wIfS (wB (wOp (oEq false) (wVar 0) (wTup wNil))) (wSeq (wIfS (wOr (wNot (wB (wCB bIsi (wCons (wVar 1) (wCons (wC (.ty "tuple")) wNil))))) (wB (wOp (oEq true) (wVar 1) (wTup wNil)))) (wRaise ("NoPaper" : PySem.Str) [("word" : PySem.Str), ("place" : PySem.Str)] (fun _ => E) (wCons (wC (.str ("shape" : PySem.Str))) (wCons (wC (.int 0)) wNil))) wNext)
  (wRet (wC (.bl true)))) wNext)
  (wSeq (wIfS (wNot (wB (wCallP sp_is_ring E (wCons (wVar 1) (wCons (wCB bLen (wCons (wVar 0) wNil)) wNil))))) (wRaise ("NoPaper" : PySem.Str) [("word" : PySem.Str), ("place" : PySem.Str)] (fun _ => E) (wCons (wC (.str ("shape" : PySem.Str))) (wCons (wC (.int 0)) wNil))) wNext)
  (wSeq (wSet 2 (wC (.int 0)))
  (wSeq (wFor (wEnum (wCons (wVar 1) wNil)) (wgTupN 2 (wgCons (wgName 3) (wgCons (wgName 4) wgNil))) (wSeq (wSet 5 (wOp oIx (wOp oIx (wVar 0) (wVar 4)) (wOp oIx (wVar 1) (wOp oMd (wOp oAddF (wVar 3) (wC (.int 1))) (wCB bLen (wCons (wVar 1) wNil))))))
  (wSeq (wIfS (wB (wOp (oIsN false) (wVar 5) (wC .non))) (wRaise ("NoPaper" : PySem.Str) [("word" : PySem.Str), ("place" : PySem.Str)] (fun _ => E) (wCons (wC (.str ("end" : PySem.Str))) (wCons (wVar 3) wNil))) wNext)
  (wSet 2 (wOp oAddF (wVar 2) (wVar 5))))))
  (wSeq (wIfS (wB (wOp oGe (wVar 2) (wC (.int 0)))) (wRaise ("NoPaper" : PySem.Str) [("word" : PySem.Str), ("place" : PySem.Str)] (fun _ => E) (wCons (wC (.str ("sum" : PySem.Str))) (wCons (wC (.int 0)) wNil))) wNext)
  (wRet (wC (.bl true))))))))
def paperF (w : Str) (k : Nat) : List (Str × D) := [(("place" : Str), .int (k : Nat)), (("word" : Str), .str w)]
def SLets (sp : Sp3) : Prop := ∀ (n B : Nat) (T : Tab) (d : D) (Q : VK3) (E : XK3), n ≤ 1000 → (T = [] ∨ (TabB B n T ∧ 0 < n)) → PlS d → (ToldV n T d none → ∀ M, Q (.bl true) M) → (∀ w k, ToldV n T d (some (w, k)) → ∀ M, E ("NoPaper" : Str) (paperF w k) M) → sp [tabD T, d] M0 Q E
theorem isi_tn {d : D} (hp : plain d = true) (hnt : ¬ ∃ ds, d = .tup ds) : bIsi [d, .ty "tuple"] = fun (M : Mp) (Q : VK3) => Q (.bl false) M := by
  funext M Q
  obtain ⟨t', ht', h'⟩ := ne_tyE (M := M) hp
  rcases h' with h' | h'
  · exact absurd h' hnt
  · exact isi_is ht' h'
theorem pap0 {w : Str} : ([("word" : Str), ("place" : Str)].zip [D.str w, D.int 0]).reverse = paperF w 0 := rfl
theorem papk {w : Str} {k : Nat} : ([("word" : Str), ("place" : Str)].zip [D.str w, D.int (k : Nat)]).reverse = paperF w k := rfl
theorem s_lets {si : Sp3} (ki : SIsRingP si) : SLets (spOf 2 6 (letsR si)) := by
  refine fun n B T d Q E hn hT hd q1 q2 => ⟨rfl, ?_⟩
  have big : (1000000 : Nat) ≤ sizeLine := by decide
  have l2 : ∀ (w : Str) (k : D) {P : Prop}, P → ([D.str w, k].length = [("word" : Str), ("place" : Str)].length ∧ [D.str w, k].length ≤ 1000 ∧ P) := fun w k P p => ⟨rfl, by show 2 ≤ 1000; decide, p⟩
  show letsR si E _ [some (tabD T), some d, none, none, none, none] M0
  unfold letsR
  rw [st_seq, st_if]
  rcases hT with rfl | ⟨tT, n0⟩
  · have e0 : tabD [] = .tup [] := rfl
    rw [e0]
    simp only [ex_c, ex_var, ex_op, ex_un, ex_b, ex_and, ex_or, ex_not, ex_andV, ex_orV, ex_notV, ex_if, ex_chain, ex_nil, ex_cons, ex_tup, ex_lst, ex_call, ex_callP, ex_cb, ex_bm, ex_rep, ex_sl, ex_noPart, ex_part, ex_yes, it_items, it_rng1, it_rng2, tg_name, tg_sub, tg_tup, tg_cons, tg_nil, gs_0, gs_s, ss_0, ss_s, op_ii, op_ss, op_tt, op_mm, op_sb, op_ng, op_iNf, op_iNt, op_lle, op_ixT, op_ixR, op_ixL, op_putE, op_appE, it_tupE, it_rolE, it_refE, lstOf_l, exL, asS_some, asI_int, asB_bl, asL_some, asN_some, ite3_t, ite3_f, bl_1, bl_lenT, bl_lenR, bl_lenL, bl_lenS, bl_tuple, bl_list, bl_abs, bl_intI, bl_intB, bl_max, bl_min, op_eqSf, op_eqSt, op_eqIf, op_eqIt, op_eqTf, op_eqTt, op_eqRf, op_eqRt, op_eqNf, op_eqNt, eqD_int, eqD_nil, pl_int, pl_nil, pl_non, pl_rnil, pl_bl, sl_tupE, sl_rolE, keep_ref, keep_tup, keep_rol, tp_int, tp_tup, tp_rol, tp_str, tp_bl, tp_non, tp_ref, oFd, oMd, oPw, oShl, oLt, oLe, oGt, oGe, op_in, op_cp, wipe_nil, wipe_cons, mset_same, true_and, and_true, isN_int, ex_lstF, ex_repF, ex_lgF1, ex_lgF2, ex_tupRg1, ex_tupRg2, ex_frz, ex_slF, ex_slM, sl_tupF, sl_rolF, op_iiF, op_ssF, op_ttF, op_rrF, op_rrM, op_mmF, op_repF, li_rol, li_ref, bl_listF, bl_allF, bl_anyF, asT_some, asJ_some, op_eqBf, op_eqBt, isN_non, Bool.not_true, Bool.not_false, rep2, eq_nil]
    refine ⟨Nat.zero_le _, ?_⟩
    rw [st_seq, st_if]
    by_cases ht : ∃ ds, d = .tup ds
    · obtain ⟨ds, rfl⟩ := ht
      simp only [ex_c, ex_var, ex_op, ex_un, ex_b, ex_and, ex_or, ex_not, ex_andV, ex_orV, ex_notV, ex_if, ex_chain, ex_nil, ex_cons, ex_tup, ex_lst, ex_call, ex_callP, ex_cb, ex_bm, ex_rep, ex_sl, ex_noPart, ex_part, ex_yes, it_items, it_rng1, it_rng2, tg_name, tg_sub, tg_tup, tg_cons, tg_nil, gs_0, gs_s, ss_0, ss_s, op_ii, op_ss, op_tt, op_mm, op_sb, op_ng, op_iNf, op_iNt, op_lle, op_ixT, op_ixR, op_ixL, op_putE, op_appE, it_tupE, it_rolE, it_refE, lstOf_l, exL, asS_some, asI_int, asB_bl, asL_some, asN_some, ite3_t, ite3_f, bl_1, bl_lenT, bl_lenR, bl_lenL, bl_lenS, bl_tuple, bl_list, bl_abs, bl_intI, bl_intB, bl_max, bl_min, op_eqSf, op_eqSt, op_eqIf, op_eqIt, op_eqTf, op_eqTt, op_eqRf, op_eqRt, op_eqNf, op_eqNt, eqD_int, eqD_nil, pl_int, pl_nil, pl_non, pl_rnil, pl_bl, sl_tupE, sl_rolE, keep_ref, keep_tup, keep_rol, tp_int, tp_tup, tp_rol, tp_str, tp_bl, tp_non, tp_ref, oFd, oMd, oPw, oShl, oLt, oLe, oGt, oGe, op_in, op_cp, wipe_nil, wipe_cons, mset_same, true_and, and_true, isN_int, ex_lstF, ex_repF, ex_lgF1, ex_lgF2, ex_tupRg1, ex_tupRg2, ex_frz, ex_slF, ex_slM, sl_tupF, sl_rolF, op_iiF, op_ssF, op_ttF, op_rrF, op_rrM, op_mmF, op_repF, li_rol, li_ref, bl_listF, bl_allF, bl_anyF, asT_some, asJ_some, op_eqBf, op_eqBt, isN_non, Bool.not_true, Bool.not_false, rep2, isi_T kb_tt, Bool.not_true, eqD_nil]
      refine ⟨Nat.zero_le _, hd.1, ite3_by (fun h => ?_) (fun h => ?_)⟩
      · rw [ex_raise]
        simp only [ex_c, ex_var, ex_op, ex_un, ex_b, ex_and, ex_or, ex_not, ex_andV, ex_orV, ex_notV, ex_if, ex_chain, ex_nil, ex_cons, ex_tup, ex_lst, ex_call, ex_callP, ex_cb, ex_bm, ex_rep, ex_sl, ex_noPart, ex_part, ex_yes, it_items, it_rng1, it_rng2, tg_name, tg_sub, tg_tup, tg_cons, tg_nil, gs_0, gs_s, ss_0, ss_s, op_ii, op_ss, op_tt, op_mm, op_sb, op_ng, op_iNf, op_iNt, op_lle, op_ixT, op_ixR, op_ixL, op_putE, op_appE, it_tupE, it_rolE, it_refE, lstOf_l, exL, asS_some, asI_int, asB_bl, asL_some, asN_some, ite3_t, ite3_f, bl_1, bl_lenT, bl_lenR, bl_lenL, bl_lenS, bl_tuple, bl_list, bl_abs, bl_intI, bl_intB, bl_max, bl_min, op_eqSf, op_eqSt, op_eqIf, op_eqIt, op_eqTf, op_eqTt, op_eqRf, op_eqRt, op_eqNf, op_eqNt, eqD_int, eqD_nil, pl_int, pl_nil, pl_non, pl_rnil, pl_bl, sl_tupE, sl_rolE, keep_ref, keep_tup, keep_rol, tp_int, tp_tup, tp_rol, tp_str, tp_bl, tp_non, tp_ref, oFd, oMd, oPw, oShl, oLt, oLe, oGt, oGe, op_in, op_cp, wipe_nil, wipe_cons, mset_same, true_and, and_true, isN_int, ex_lstF, ex_repF, ex_lgF1, ex_lgF2, ex_tupRg1, ex_tupRg2, ex_frz, ex_slF, ex_slM, sl_tupF, sl_rolF, op_iiF, op_ssF, op_ttF, op_rrF, op_rrM, op_mmF, op_repF, li_rol, li_ref, bl_listF, bl_allF, bl_anyF, asT_some, asJ_some, op_eqBf, op_eqBt, isN_non, Bool.not_true, Bool.not_false, rep2]
        refine l2 _ _ ?_
        rw [pap0]
        refine q2 _ _ (.nilF rfl fun e => ?_) _
        cases e
        cases h
      · rw [st_next]
        have : ds = [] := List.isEmpty_iff.mp (by simpa using h)
        subst this
        try dsimp only
        rw [st_ret]
        simp only [ex_c, ex_var, ex_op, ex_un, ex_b, ex_and, ex_or, ex_not, ex_andV, ex_orV, ex_notV, ex_if, ex_chain, ex_nil, ex_cons, ex_tup, ex_lst, ex_call, ex_callP, ex_cb, ex_bm, ex_rep, ex_sl, ex_noPart, ex_part, ex_yes, it_items, it_rng1, it_rng2, tg_name, tg_sub, tg_tup, tg_cons, tg_nil, gs_0, gs_s, ss_0, ss_s, op_ii, op_ss, op_tt, op_mm, op_sb, op_ng, op_iNf, op_iNt, op_lle, op_ixT, op_ixR, op_ixL, op_putE, op_appE, it_tupE, it_rolE, it_refE, lstOf_l, exL, asS_some, asI_int, asB_bl, asL_some, asN_some, ite3_t, ite3_f, bl_1, bl_lenT, bl_lenR, bl_lenL, bl_lenS, bl_tuple, bl_list, bl_abs, bl_intI, bl_intB, bl_max, bl_min, op_eqSf, op_eqSt, op_eqIf, op_eqIt, op_eqTf, op_eqTt, op_eqRf, op_eqRt, op_eqNf, op_eqNt, eqD_int, eqD_nil, pl_int, pl_nil, pl_non, pl_rnil, pl_bl, sl_tupE, sl_rolE, keep_ref, keep_tup, keep_rol, tp_int, tp_tup, tp_rol, tp_str, tp_bl, tp_non, tp_ref, oFd, oMd, oPw, oShl, oLt, oLe, oGt, oGe, op_in, op_cp, wipe_nil, wipe_cons, mset_same, true_and, and_true, isN_int, ex_lstF, ex_repF, ex_lgF1, ex_lgF2, ex_tupRg1, ex_tupRg2, ex_frz, ex_slF, ex_slM, sl_tupF, sl_rolF, op_iiF, op_ssF, op_ttF, op_rrF, op_rrM, op_mmF, op_repF, li_rol, li_ref, bl_listF, bl_allF, bl_anyF, asT_some, asJ_some, op_eqBf, op_eqBt, isN_non, Bool.not_true, Bool.not_false, rep2]
        exact q1 (.nilT rfl rfl) _
    · simp only [ex_c, ex_var, ex_op, ex_un, ex_b, ex_and, ex_or, ex_not, ex_andV, ex_orV, ex_notV, ex_if, ex_chain, ex_nil, ex_cons, ex_tup, ex_lst, ex_call, ex_callP, ex_cb, ex_bm, ex_rep, ex_sl, ex_noPart, ex_part, ex_yes, it_items, it_rng1, it_rng2, tg_name, tg_sub, tg_tup, tg_cons, tg_nil, gs_0, gs_s, ss_0, ss_s, op_ii, op_ss, op_tt, op_mm, op_sb, op_ng, op_iNf, op_iNt, op_lle, op_ixT, op_ixR, op_ixL, op_putE, op_appE, it_tupE, it_rolE, it_refE, lstOf_l, exL, asS_some, asI_int, asB_bl, asL_some, asN_some, ite3_t, ite3_f, bl_1, bl_lenT, bl_lenR, bl_lenL, bl_lenS, bl_tuple, bl_list, bl_abs, bl_intI, bl_intB, bl_max, bl_min, op_eqSf, op_eqSt, op_eqIf, op_eqIt, op_eqTf, op_eqTt, op_eqRf, op_eqRt, op_eqNf, op_eqNt, eqD_int, eqD_nil, pl_int, pl_nil, pl_non, pl_rnil, pl_bl, sl_tupE, sl_rolE, keep_ref, keep_tup, keep_rol, tp_int, tp_tup, tp_rol, tp_str, tp_bl, tp_non, tp_ref, oFd, oMd, oPw, oShl, oLt, oLe, oGt, oGe, op_in, op_cp, wipe_nil, wipe_cons, mset_same, true_and, and_true, isN_int, ex_lstF, ex_repF, ex_lgF1, ex_lgF2, ex_tupRg1, ex_tupRg2, ex_frz, ex_slF, ex_slM, sl_tupF, sl_rolF, op_iiF, op_ssF, op_ttF, op_rrF, op_rrM, op_mmF, op_repF, li_rol, li_ref, bl_listF, bl_allF, bl_anyF, asT_some, asJ_some, op_eqBf, op_eqBt, isN_non, Bool.not_true, Bool.not_false, rep2, isi_tn hd.1.p ht, Bool.not_false]
      rw [ex_raise]
      simp only [ex_c, ex_var, ex_op, ex_un, ex_b, ex_and, ex_or, ex_not, ex_andV, ex_orV, ex_notV, ex_if, ex_chain, ex_nil, ex_cons, ex_tup, ex_lst, ex_call, ex_callP, ex_cb, ex_bm, ex_rep, ex_sl, ex_noPart, ex_part, ex_yes, it_items, it_rng1, it_rng2, tg_name, tg_sub, tg_tup, tg_cons, tg_nil, gs_0, gs_s, ss_0, ss_s, op_ii, op_ss, op_tt, op_mm, op_sb, op_ng, op_iNf, op_iNt, op_lle, op_ixT, op_ixR, op_ixL, op_putE, op_appE, it_tupE, it_rolE, it_refE, lstOf_l, exL, asS_some, asI_int, asB_bl, asL_some, asN_some, ite3_t, ite3_f, bl_1, bl_lenT, bl_lenR, bl_lenL, bl_lenS, bl_tuple, bl_list, bl_abs, bl_intI, bl_intB, bl_max, bl_min, op_eqSf, op_eqSt, op_eqIf, op_eqIt, op_eqTf, op_eqTt, op_eqRf, op_eqRt, op_eqNf, op_eqNt, eqD_int, eqD_nil, pl_int, pl_nil, pl_non, pl_rnil, pl_bl, sl_tupE, sl_rolE, keep_ref, keep_tup, keep_rol, tp_int, tp_tup, tp_rol, tp_str, tp_bl, tp_non, tp_ref, oFd, oMd, oPw, oShl, oLt, oLe, oGt, oGe, op_in, op_cp, wipe_nil, wipe_cons, mset_same, true_and, and_true, isN_int, ex_lstF, ex_repF, ex_lgF1, ex_lgF2, ex_tupRg1, ex_tupRg2, ex_frz, ex_slF, ex_slM, sl_tupF, sl_rolF, op_iiF, op_ssF, op_ttF, op_rrF, op_rrM, op_mmF, op_repF, li_rol, li_ref, bl_listF, bl_allF, bl_anyF, asT_some, asJ_some, op_eqBf, op_eqBt, isN_non, Bool.not_true, Bool.not_false, rep2]
      refine l2 _ _ ?_
      rw [pap0]
      exact q2 _ _ (.nilF rfl fun e => ht ⟨[], e⟩) _
  have hTn : T ≠ [] := fun e => by have := tT.rows; rw [e] at this; simp at this; omega
  simp only [ex_c, ex_var, ex_op, ex_un, ex_b, ex_and, ex_or, ex_not, ex_andV, ex_orV, ex_notV, ex_if, ex_chain, ex_nil, ex_cons, ex_tup, ex_lst, ex_call, ex_callP, ex_cb, ex_bm, ex_rep, ex_sl, ex_noPart, ex_part, ex_yes, it_items, it_rng1, it_rng2, tg_name, tg_sub, tg_tup, tg_cons, tg_nil, gs_0, gs_s, ss_0, ss_s, op_ii, op_ss, op_tt, op_mm, op_sb, op_ng, op_iNf, op_iNt, op_lle, op_ixT, op_ixR, op_ixL, op_putE, op_appE, it_tupE, it_rolE, it_refE, lstOf_l, exL, asS_some, asI_int, asB_bl, asL_some, asN_some, ite3_t, ite3_f, bl_1, bl_lenT, bl_lenR, bl_lenL, bl_lenS, bl_tuple, bl_list, bl_abs, bl_intI, bl_intB, bl_max, bl_min, op_eqSf, op_eqSt, op_eqIf, op_eqIt, op_eqTf, op_eqTt, op_eqRf, op_eqRt, op_eqNf, op_eqNt, eqD_int, eqD_nil, pl_int, pl_nil, pl_non, pl_rnil, pl_bl, sl_tupE, sl_rolE, keep_ref, keep_tup, keep_rol, tp_int, tp_tup, tp_rol, tp_str, tp_bl, tp_non, tp_ref, oFd, oMd, oPw, oShl, oLt, oLe, oGt, oGe, op_in, op_cp, wipe_nil, wipe_cons, mset_same, true_and, and_true, isN_int, ex_lstF, ex_repF, ex_lgF1, ex_lgF2, ex_tupRg1, ex_tupRg2, ex_frz, ex_slF, ex_slM, sl_tupF, sl_rolF, op_iiF, op_ssF, op_ttF, op_rrF, op_rrM, op_mmF, op_repF, li_rol, li_ref, bl_listF, bl_allF, bl_anyF, asT_some, asJ_some, op_eqBf, op_eqBt, isN_non, Bool.not_true, Bool.not_false, rep2, eq_tab tT.sq n0]
  refine ⟨Nat.zero_le _, ?_⟩
  rw [st_next]
  try dsimp only
  rw [st_seq, st_if]
  have hTl : ((T.map rowD).length : Int) = (n : Int) := by rw [List.length_map, tT.rows]
  simp only [ex_c, ex_var, ex_op, ex_un, ex_b, ex_and, ex_or, ex_not, ex_andV, ex_orV, ex_notV, ex_if, ex_chain, ex_nil, ex_cons, ex_tup, ex_lst, ex_call, ex_callP, ex_cb, ex_bm, ex_rep, ex_sl, ex_noPart, ex_part, ex_yes, it_items, it_rng1, it_rng2, tg_name, tg_sub, tg_tup, tg_cons, tg_nil, gs_0, gs_s, ss_0, ss_s, op_ii, op_ss, op_tt, op_mm, op_sb, op_ng, op_iNf, op_iNt, op_lle, op_ixT, op_ixR, op_ixL, op_putE, op_appE, it_tupE, it_rolE, it_refE, lstOf_l, exL, asS_some, asI_int, asB_bl, asL_some, asN_some, ite3_t, ite3_f, bl_1, bl_lenT, bl_lenR, bl_lenL, bl_lenS, bl_tuple, bl_list, bl_abs, bl_intI, bl_intB, bl_max, bl_min, op_eqSf, op_eqSt, op_eqIf, op_eqIt, op_eqTf, op_eqTt, op_eqRf, op_eqRt, op_eqNf, op_eqNt, eqD_int, eqD_nil, pl_int, pl_nil, pl_non, pl_rnil, pl_bl, sl_tupE, sl_rolE, keep_ref, keep_tup, keep_rol, tp_int, tp_tup, tp_rol, tp_str, tp_bl, tp_non, tp_ref, oFd, oMd, oPw, oShl, oLt, oLe, oGt, oGe, op_in, op_cp, wipe_nil, wipe_cons, mset_same, true_and, and_true, isN_int, ex_lstF, ex_repF, ex_lgF1, ex_lgF2, ex_tupRg1, ex_tupRg2, ex_frz, ex_slF, ex_slM, sl_tupF, sl_rolF, op_iiF, op_ssF, op_ttF, op_rrF, op_rrM, op_mmF, op_repF, li_rol, li_ref, bl_listF, bl_allF, bl_anyF, asT_some, asJ_some, op_eqBf, op_eqBt, isN_non, Bool.not_true, Bool.not_false, rep2, tabD, hTl]
  refine ki d n _ _ hd fun _ => ?_
  cases hr : ringV n d with
  | none =>
    simp only [ex_c, ex_var, ex_op, ex_un, ex_b, ex_and, ex_or, ex_not, ex_andV, ex_orV, ex_notV, ex_if, ex_chain, ex_nil, ex_cons, ex_tup, ex_lst, ex_call, ex_callP, ex_cb, ex_bm, ex_rep, ex_sl, ex_noPart, ex_part, ex_yes, it_items, it_rng1, it_rng2, tg_name, tg_sub, tg_tup, tg_cons, tg_nil, gs_0, gs_s, ss_0, ss_s, op_ii, op_ss, op_tt, op_mm, op_sb, op_ng, op_iNf, op_iNt, op_lle, op_ixT, op_ixR, op_ixL, op_putE, op_appE, it_tupE, it_rolE, it_refE, lstOf_l, exL, asS_some, asI_int, asB_bl, asL_some, asN_some, ite3_t, ite3_f, bl_1, bl_lenT, bl_lenR, bl_lenL, bl_lenS, bl_tuple, bl_list, bl_abs, bl_intI, bl_intB, bl_max, bl_min, op_eqSf, op_eqSt, op_eqIf, op_eqIt, op_eqTf, op_eqTt, op_eqRf, op_eqRt, op_eqNf, op_eqNt, eqD_int, eqD_nil, pl_int, pl_nil, pl_non, pl_rnil, pl_bl, sl_tupE, sl_rolE, keep_ref, keep_tup, keep_rol, tp_int, tp_tup, tp_rol, tp_str, tp_bl, tp_non, tp_ref, oFd, oMd, oPw, oShl, oLt, oLe, oGt, oGe, op_in, op_cp, wipe_nil, wipe_cons, mset_same, true_and, and_true, isN_int, ex_lstF, ex_repF, ex_lgF1, ex_lgF2, ex_tupRg1, ex_tupRg2, ex_frz, ex_slF, ex_slM, sl_tupF, sl_rolF, op_iiF, op_ssF, op_ttF, op_rrF, op_rrM, op_mmF, op_repF, li_rol, li_ref, bl_listF, bl_allF, bl_anyF, asT_some, asJ_some, op_eqBf, op_eqBt, isN_non, Bool.not_true, Bool.not_false, rep2, Option.isSome_none, Bool.not_false]
    rw [ex_raise]
    simp only [ex_c, ex_var, ex_op, ex_un, ex_b, ex_and, ex_or, ex_not, ex_andV, ex_orV, ex_notV, ex_if, ex_chain, ex_nil, ex_cons, ex_tup, ex_lst, ex_call, ex_callP, ex_cb, ex_bm, ex_rep, ex_sl, ex_noPart, ex_part, ex_yes, it_items, it_rng1, it_rng2, tg_name, tg_sub, tg_tup, tg_cons, tg_nil, gs_0, gs_s, ss_0, ss_s, op_ii, op_ss, op_tt, op_mm, op_sb, op_ng, op_iNf, op_iNt, op_lle, op_ixT, op_ixR, op_ixL, op_putE, op_appE, it_tupE, it_rolE, it_refE, lstOf_l, exL, asS_some, asI_int, asB_bl, asL_some, asN_some, ite3_t, ite3_f, bl_1, bl_lenT, bl_lenR, bl_lenL, bl_lenS, bl_tuple, bl_list, bl_abs, bl_intI, bl_intB, bl_max, bl_min, op_eqSf, op_eqSt, op_eqIf, op_eqIt, op_eqTf, op_eqTt, op_eqRf, op_eqRt, op_eqNf, op_eqNt, eqD_int, eqD_nil, pl_int, pl_nil, pl_non, pl_rnil, pl_bl, sl_tupE, sl_rolE, keep_ref, keep_tup, keep_rol, tp_int, tp_tup, tp_rol, tp_str, tp_bl, tp_non, tp_ref, oFd, oMd, oPw, oShl, oLt, oLe, oGt, oGe, op_in, op_cp, wipe_nil, wipe_cons, mset_same, true_and, and_true, isN_int, ex_lstF, ex_repF, ex_lgF1, ex_lgF2, ex_tupRg1, ex_tupRg2, ex_frz, ex_slF, ex_slM, sl_tupF, sl_rolF, op_iiF, op_ssF, op_ttF, op_rrF, op_rrM, op_mmF, op_repF, li_rol, li_ref, bl_listF, bl_allF, bl_anyF, asT_some, asJ_some, op_eqBf, op_eqBt, isN_non, Bool.not_true, Bool.not_false, rep2]
    refine l2 _ _ ?_
    rw [pap0]
    exact q2 _ _ (.shape hTn hr) _
  | some l =>
    simp only [ex_c, ex_var, ex_op, ex_un, ex_b, ex_and, ex_or, ex_not, ex_andV, ex_orV, ex_notV, ex_if, ex_chain, ex_nil, ex_cons, ex_tup, ex_lst, ex_call, ex_callP, ex_cb, ex_bm, ex_rep, ex_sl, ex_noPart, ex_part, ex_yes, it_items, it_rng1, it_rng2, tg_name, tg_sub, tg_tup, tg_cons, tg_nil, gs_0, gs_s, ss_0, ss_s, op_ii, op_ss, op_tt, op_mm, op_sb, op_ng, op_iNf, op_iNt, op_lle, op_ixT, op_ixR, op_ixL, op_putE, op_appE, it_tupE, it_rolE, it_refE, lstOf_l, exL, asS_some, asI_int, asB_bl, asL_some, asN_some, ite3_t, ite3_f, bl_1, bl_lenT, bl_lenR, bl_lenL, bl_lenS, bl_tuple, bl_list, bl_abs, bl_intI, bl_intB, bl_max, bl_min, op_eqSf, op_eqSt, op_eqIf, op_eqIt, op_eqTf, op_eqTt, op_eqRf, op_eqRt, op_eqNf, op_eqNt, eqD_int, eqD_nil, pl_int, pl_nil, pl_non, pl_rnil, pl_bl, sl_tupE, sl_rolE, keep_ref, keep_tup, keep_rol, tp_int, tp_tup, tp_rol, tp_str, tp_bl, tp_non, tp_ref, oFd, oMd, oPw, oShl, oLt, oLe, oGt, oGe, op_in, op_cp, wipe_nil, wipe_cons, mset_same, true_and, and_true, isN_int, ex_lstF, ex_repF, ex_lgF1, ex_lgF2, ex_tupRg1, ex_tupRg2, ex_frz, ex_slF, ex_slM, sl_tupF, sl_rolF, op_iiF, op_ssF, op_ttF, op_rrF, op_rrM, op_mmF, op_repF, li_rol, li_ref, bl_listF, bl_allF, bl_anyF, asT_some, asJ_some, op_eqBf, op_eqBt, isN_non, Bool.not_true, Bool.not_false, rep2, Option.isSome_some, Bool.not_true]
    rw [st_next]
    obtain ⟨e, ne, nd, lt⟩ := ringV_nats hr
    have tell : ∀ v, Told (at2 T) (natsOf l) v → ToldV n T d v := fun v h => .ring l v hTn hr h
    generalize hrs : natsOf l = rs at e ne nd lt tell
    have hlr := hd.2
    subst e
    have hlr := hlr _ rfl
    rw [natL_len] at hlr
    have hl0 : 0 < rs.length := List.length_pos_iff.mpr ne
    have hlen : ((natL rs).length : Int) = (rs.length : Int) := by rw [natL_len]
    have hgd : ∀ k, k < rs.length → rs.getD k 0 < n := fun k hk => by
      rw [List.getD_eq_getElem?_getD, List.getElem?_eq_getElem hk]; exact lt _ (List.getElem_mem hk)
    try dsimp only
    rw [st_seq, st_set]
    simp only [ex_c, ex_var, ex_op, ex_un, ex_b, ex_and, ex_or, ex_not, ex_andV, ex_orV, ex_notV, ex_if, ex_chain, ex_nil, ex_cons, ex_tup, ex_lst, ex_call, ex_callP, ex_cb, ex_bm, ex_rep, ex_sl, ex_noPart, ex_part, ex_yes, it_items, it_rng1, it_rng2, tg_name, tg_sub, tg_tup, tg_cons, tg_nil, gs_0, gs_s, ss_0, ss_s, op_ii, op_ss, op_tt, op_mm, op_sb, op_ng, op_iNf, op_iNt, op_lle, op_ixT, op_ixR, op_ixL, op_putE, op_appE, it_tupE, it_rolE, it_refE, lstOf_l, exL, asS_some, asI_int, asB_bl, asL_some, asN_some, ite3_t, ite3_f, bl_1, bl_lenT, bl_lenR, bl_lenL, bl_lenS, bl_tuple, bl_list, bl_abs, bl_intI, bl_intB, bl_max, bl_min, op_eqSf, op_eqSt, op_eqIf, op_eqIt, op_eqTf, op_eqTt, op_eqRf, op_eqRt, op_eqNf, op_eqNt, eqD_int, eqD_nil, pl_int, pl_nil, pl_non, pl_rnil, pl_bl, sl_tupE, sl_rolE, keep_ref, keep_tup, keep_rol, tp_int, tp_tup, tp_rol, tp_str, tp_bl, tp_non, tp_ref, oFd, oMd, oPw, oShl, oLt, oLe, oGt, oGe, op_in, op_cp, wipe_nil, wipe_cons, mset_same, true_and, and_true, isN_int, ex_lstF, ex_repF, ex_lgF1, ex_lgF2, ex_tupRg1, ex_tupRg2, ex_frz, ex_slF, ex_slM, sl_tupF, sl_rolF, op_iiF, op_ssF, op_ttF, op_rrF, op_rrM, op_mmF, op_repF, li_rol, li_ref, bl_listF, bl_allF, bl_anyF, asT_some, asJ_some, op_eqBf, op_eqBt, isN_non, Bool.not_true, Bool.not_false, rep2]
    try dsimp only
    rw [st_seq, st_for, it_enumF]
    simp only [ex_c, ex_var, ex_op, ex_un, ex_b, ex_and, ex_or, ex_not, ex_andV, ex_orV, ex_notV, ex_if, ex_chain, ex_nil, ex_cons, ex_tup, ex_lst, ex_call, ex_callP, ex_cb, ex_bm, ex_rep, ex_sl, ex_noPart, ex_part, ex_yes, it_items, it_rng1, it_rng2, tg_name, tg_sub, tg_tup, tg_cons, tg_nil, gs_0, gs_s, ss_0, ss_s, op_ii, op_ss, op_tt, op_mm, op_sb, op_ng, op_iNf, op_iNt, op_lle, op_ixT, op_ixR, op_ixL, op_putE, op_appE, it_tupE, it_rolE, it_refE, lstOf_l, exL, asS_some, asI_int, asB_bl, asL_some, asN_some, ite3_t, ite3_f, bl_1, bl_lenT, bl_lenR, bl_lenL, bl_lenS, bl_tuple, bl_list, bl_abs, bl_intI, bl_intB, bl_max, bl_min, op_eqSf, op_eqSt, op_eqIf, op_eqIt, op_eqTf, op_eqTt, op_eqRf, op_eqRt, op_eqNf, op_eqNt, eqD_int, eqD_nil, pl_int, pl_nil, pl_non, pl_rnil, pl_bl, sl_tupE, sl_rolE, keep_ref, keep_tup, keep_rol, tp_int, tp_tup, tp_rol, tp_str, tp_bl, tp_non, tp_ref, oFd, oMd, oPw, oShl, oLt, oLe, oGt, oGe, op_in, op_cp, wipe_nil, wipe_cons, mset_same, true_and, and_true, isN_int, ex_lstF, ex_repF, ex_lgF1, ex_lgF2, ex_tupRg1, ex_tupRg2, ex_frz, ex_slF, ex_slM, sl_tupF, sl_rolF, op_iiF, op_ssF, op_ttF, op_rrF, op_rrM, op_mmF, op_repF, li_rol, li_ref, bl_listF, bl_allF, bl_anyF, asT_some, asJ_some, op_eqBf, op_eqBt, isN_non, Bool.not_true, Bool.not_false, rep2, it_tupE]
    refine for_en (fun k τ M => k ≤ rs.length ∧ (∀ j, j < k → endK (at2 T) rs j ≠ none) ∧ ∃ x3 x4 x5, τ = [some (tabD T), some (.tup (natL rs)), some (.int (sumK (at2 T) rs k)), x3, x4, x5]) (fun _ => True.intro) ?_ ?_ ⟨Nat.zero_le _, (fun j h => absurd h (Nat.not_lt_zero _)), _, _, _, rfl⟩
    · rintro k dk τ M hk ⟨_, hall, x3, x4, x5, rfl⟩ Y hY
      have hkr : k < rs.length := by have := (List.getElem?_eq_some_iff.mp hk).1; rwa [natL_len] at this
      have edk : dk = .int (rs.getD k 0 : Nat) := by
        have : (natL rs)[k]? = some (.int (rs.getD k 0 : Nat)) := by
          unfold natL
          rw [List.getElem?_map, List.getElem?_eq_getElem hkr, List.getD_eq_getElem?_getD, List.getElem?_eq_getElem hkr]; rfl
        rw [hk] at this
        exact Option.some.inj this
      subst edk
      have md := md_in (x := ((k : Nat) : Int) + 1) (n := (rs.length : Int)) (by omega)
      have hm : (((k : Nat) : Int) + 1).fmod (rs.length : Int) = (((k + 1) % rs.length : Nat) : Int) := by
        rw [Int.fmod_eq_emod_of_nonneg _ (by omega), Int.natCast_emod, Int.natCast_add]; rfl
      have e2 : atI (natL rs) (((k + 1) % rs.length : Nat) : Int) = some (.int (rs.getD ((k + 1) % rs.length) 0 : Nat)) := fnN_at (Nat.mod_lt _ hl0)
      obtain ⟨row, _, _, h2, h3, _⟩ := tT.sq.get (p := (rs.getD k 0 : Nat)) (q := (rs.getD ((k + 1) % rs.length) 0 : Nat)) (by omega) (by have := hgd k hkr; omega) (by omega) (by have := hgd _ (Nat.mod_lt (k + 1) hl0); omega)
      rw [Int.toNat_natCast, Int.toNat_natCast] at h3
      have h3 : atI (row.map oD) ((rs.getD ((k + 1) % rs.length) 0 : Nat) : Int) = some (oD (endK (at2 T) rs k)) := h3
      simp only [ex_c, ex_var, ex_op, ex_un, ex_b, ex_and, ex_or, ex_not, ex_andV, ex_orV, ex_notV, ex_if, ex_chain, ex_nil, ex_cons, ex_tup, ex_lst, ex_call, ex_callP, ex_cb, ex_bm, ex_rep, ex_sl, ex_noPart, ex_part, ex_yes, it_items, it_rng1, it_rng2, tg_name, tg_sub, tg_tup, tg_cons, tg_nil, gs_0, gs_s, ss_0, ss_s, op_ii, op_ss, op_tt, op_mm, op_sb, op_ng, op_iNf, op_iNt, op_lle, op_ixT, op_ixR, op_ixL, op_putE, op_appE, it_tupE, it_rolE, it_refE, lstOf_l, exL, asS_some, asI_int, asB_bl, asL_some, asN_some, ite3_t, ite3_f, bl_1, bl_lenT, bl_lenR, bl_lenL, bl_lenS, bl_tuple, bl_list, bl_abs, bl_intI, bl_intB, bl_max, bl_min, op_eqSf, op_eqSt, op_eqIf, op_eqIt, op_eqTf, op_eqTt, op_eqRf, op_eqRt, op_eqNf, op_eqNt, eqD_int, eqD_nil, pl_int, pl_nil, pl_non, pl_rnil, pl_bl, sl_tupE, sl_rolE, keep_ref, keep_tup, keep_rol, tp_int, tp_tup, tp_rol, tp_str, tp_bl, tp_non, tp_ref, oFd, oMd, oPw, oShl, oLt, oLe, oGt, oGe, op_in, op_cp, wipe_nil, wipe_cons, mset_same, true_and, and_true, isN_int, ex_lstF, ex_repF, ex_lgF1, ex_lgF2, ex_tupRg1, ex_tupRg2, ex_frz, ex_slF, ex_slM, sl_tupF, sl_rolF, op_iiF, op_ssF, op_ttF, op_rrF, op_rrM, op_mmF, op_repF, li_rol, li_ref, bl_listF, bl_allF, bl_anyF, asT_some, asJ_some, op_eqBf, op_eqBt, isN_non, Bool.not_true, Bool.not_false, rep2, List.length_cons, List.length_nil]
      rw [st_seq, st_set]
      simp only [ex_c, ex_var, ex_op, ex_un, ex_b, ex_and, ex_or, ex_not, ex_andV, ex_orV, ex_notV, ex_if, ex_chain, ex_nil, ex_cons, ex_tup, ex_lst, ex_call, ex_callP, ex_cb, ex_bm, ex_rep, ex_sl, ex_noPart, ex_part, ex_yes, it_items, it_rng1, it_rng2, tg_name, tg_sub, tg_tup, tg_cons, tg_nil, gs_0, gs_s, ss_0, ss_s, op_ii, op_ss, op_tt, op_mm, op_sb, op_ng, op_iNf, op_iNt, op_lle, op_ixT, op_ixR, op_ixL, op_putE, op_appE, it_tupE, it_rolE, it_refE, lstOf_l, exL, asS_some, asI_int, asB_bl, asL_some, asN_some, ite3_t, ite3_f, bl_1, bl_lenT, bl_lenR, bl_lenL, bl_lenS, bl_tuple, bl_list, bl_abs, bl_intI, bl_intB, bl_max, bl_min, op_eqSf, op_eqSt, op_eqIf, op_eqIt, op_eqTf, op_eqTt, op_eqRf, op_eqRt, op_eqNf, op_eqNt, eqD_int, eqD_nil, pl_int, pl_nil, pl_non, pl_rnil, pl_bl, sl_tupE, sl_rolE, keep_ref, keep_tup, keep_rol, tp_int, tp_tup, tp_rol, tp_str, tp_bl, tp_non, tp_ref, oFd, oMd, oPw, oShl, oLt, oLe, oGt, oGe, op_in, op_cp, wipe_nil, wipe_cons, mset_same, true_and, and_true, isN_int, ex_lstF, ex_repF, ex_lgF1, ex_lgF2, ex_tupRg1, ex_tupRg2, ex_frz, ex_slF, ex_slM, sl_tupF, sl_rolF, op_iiF, op_ssF, op_ttF, op_rrF, op_rrM, op_mmF, op_repF, li_rol, li_ref, bl_listF, bl_allF, bl_anyF, asT_some, asJ_some, op_eqBf, op_eqBt, isN_non, Bool.not_true, Bool.not_false, rep2, tabD, h2, hlen]
      refine ⟨by omega, ?_⟩
      rw [hm]
      (try simp only [ex_c, ex_var, ex_op, ex_un, ex_b, ex_and, ex_or, ex_not, ex_andV, ex_orV, ex_notV, ex_if, ex_chain, ex_nil, ex_cons, ex_tup, ex_lst, ex_call, ex_callP, ex_cb, ex_bm, ex_rep, ex_sl, ex_noPart, ex_part, ex_yes, it_items, it_rng1, it_rng2, tg_name, tg_sub, tg_tup, tg_cons, tg_nil, gs_0, gs_s, ss_0, ss_s, op_ii, op_ss, op_tt, op_mm, op_sb, op_ng, op_iNf, op_iNt, op_lle, op_ixT, op_ixR, op_ixL, op_putE, op_appE, it_tupE, it_rolE, it_refE, lstOf_l, exL, asS_some, asI_int, asB_bl, asL_some, asN_some, ite3_t, ite3_f, bl_1, bl_lenT, bl_lenR, bl_lenL, bl_lenS, bl_tuple, bl_list, bl_abs, bl_intI, bl_intB, bl_max, bl_min, op_eqSf, op_eqSt, op_eqIf, op_eqIt, op_eqTf, op_eqTt, op_eqRf, op_eqRt, op_eqNf, op_eqNt, eqD_int, eqD_nil, pl_int, pl_nil, pl_non, pl_rnil, pl_bl, sl_tupE, sl_rolE, keep_ref, keep_tup, keep_rol, tp_int, tp_tup, tp_rol, tp_str, tp_bl, tp_non, tp_ref, oFd, oMd, oPw, oShl, oLt, oLe, oGt, oGe, op_in, op_cp, wipe_nil, wipe_cons, mset_same, true_and, and_true, isN_int, ex_lstF, ex_repF, ex_lgF1, ex_lgF2, ex_tupRg1, ex_tupRg2, ex_frz, ex_slF, ex_slM, sl_tupF, sl_rolF, op_iiF, op_ssF, op_ttF, op_rrF, op_rrM, op_mmF, op_repF, li_rol, li_ref, bl_listF, bl_allF, bl_anyF, asT_some, asJ_some, op_eqBf, op_eqBt, isN_non, Bool.not_true, Bool.not_false, rep2, e2, h3])
      try dsimp only
      rw [st_seq, st_if]
      cases he : endK (at2 T) rs k with
      | none =>
        simp only [ex_c, ex_var, ex_op, ex_un, ex_b, ex_and, ex_or, ex_not, ex_andV, ex_orV, ex_notV, ex_if, ex_chain, ex_nil, ex_cons, ex_tup, ex_lst, ex_call, ex_callP, ex_cb, ex_bm, ex_rep, ex_sl, ex_noPart, ex_part, ex_yes, it_items, it_rng1, it_rng2, tg_name, tg_sub, tg_tup, tg_cons, tg_nil, gs_0, gs_s, ss_0, ss_s, op_ii, op_ss, op_tt, op_mm, op_sb, op_ng, op_iNf, op_iNt, op_lle, op_ixT, op_ixR, op_ixL, op_putE, op_appE, it_tupE, it_rolE, it_refE, lstOf_l, exL, asS_some, asI_int, asB_bl, asL_some, asN_some, ite3_t, ite3_f, bl_1, bl_lenT, bl_lenR, bl_lenL, bl_lenS, bl_tuple, bl_list, bl_abs, bl_intI, bl_intB, bl_max, bl_min, op_eqSf, op_eqSt, op_eqIf, op_eqIt, op_eqTf, op_eqTt, op_eqRf, op_eqRt, op_eqNf, op_eqNt, eqD_int, eqD_nil, pl_int, pl_nil, pl_non, pl_rnil, pl_bl, sl_tupE, sl_rolE, keep_ref, keep_tup, keep_rol, tp_int, tp_tup, tp_rol, tp_str, tp_bl, tp_non, tp_ref, oFd, oMd, oPw, oShl, oLt, oLe, oGt, oGe, op_in, op_cp, wipe_nil, wipe_cons, mset_same, true_and, and_true, isN_int, ex_lstF, ex_repF, ex_lgF1, ex_lgF2, ex_tupRg1, ex_tupRg2, ex_frz, ex_slF, ex_slM, sl_tupF, sl_rolF, op_iiF, op_ssF, op_ttF, op_rrF, op_rrM, op_mmF, op_repF, li_rol, li_ref, bl_listF, bl_allF, bl_anyF, asT_some, asJ_some, op_eqBf, op_eqBt, isN_non, Bool.not_true, Bool.not_false, rep2, oD, isN_non]
        rw [ex_raise]
        simp only [ex_c, ex_var, ex_op, ex_un, ex_b, ex_and, ex_or, ex_not, ex_andV, ex_orV, ex_notV, ex_if, ex_chain, ex_nil, ex_cons, ex_tup, ex_lst, ex_call, ex_callP, ex_cb, ex_bm, ex_rep, ex_sl, ex_noPart, ex_part, ex_yes, it_items, it_rng1, it_rng2, tg_name, tg_sub, tg_tup, tg_cons, tg_nil, gs_0, gs_s, ss_0, ss_s, op_ii, op_ss, op_tt, op_mm, op_sb, op_ng, op_iNf, op_iNt, op_lle, op_ixT, op_ixR, op_ixL, op_putE, op_appE, it_tupE, it_rolE, it_refE, lstOf_l, exL, asS_some, asI_int, asB_bl, asL_some, asN_some, ite3_t, ite3_f, bl_1, bl_lenT, bl_lenR, bl_lenL, bl_lenS, bl_tuple, bl_list, bl_abs, bl_intI, bl_intB, bl_max, bl_min, op_eqSf, op_eqSt, op_eqIf, op_eqIt, op_eqTf, op_eqTt, op_eqRf, op_eqRt, op_eqNf, op_eqNt, eqD_int, eqD_nil, pl_int, pl_nil, pl_non, pl_rnil, pl_bl, sl_tupE, sl_rolE, keep_ref, keep_tup, keep_rol, tp_int, tp_tup, tp_rol, tp_str, tp_bl, tp_non, tp_ref, oFd, oMd, oPw, oShl, oLt, oLe, oGt, oGe, op_in, op_cp, wipe_nil, wipe_cons, mset_same, true_and, and_true, isN_int, ex_lstF, ex_repF, ex_lgF1, ex_lgF2, ex_tupRg1, ex_tupRg2, ex_frz, ex_slF, ex_slM, sl_tupF, sl_rolF, op_iiF, op_ssF, op_ttF, op_rrF, op_rrM, op_mmF, op_repF, li_rol, li_ref, bl_listF, bl_allF, bl_anyF, asT_some, asJ_some, op_eqBf, op_eqBt, isN_non, Bool.not_true, Bool.not_false, rep2]
        refine l2 _ _ ?_
        rw [papk]
        exact q2 _ _ (tell _ (.gap k hkr hall he)) _
      | some x =>
        simp only [ex_c, ex_var, ex_op, ex_un, ex_b, ex_and, ex_or, ex_not, ex_andV, ex_orV, ex_notV, ex_if, ex_chain, ex_nil, ex_cons, ex_tup, ex_lst, ex_call, ex_callP, ex_cb, ex_bm, ex_rep, ex_sl, ex_noPart, ex_part, ex_yes, it_items, it_rng1, it_rng2, tg_name, tg_sub, tg_tup, tg_cons, tg_nil, gs_0, gs_s, ss_0, ss_s, op_ii, op_ss, op_tt, op_mm, op_sb, op_ng, op_iNf, op_iNt, op_lle, op_ixT, op_ixR, op_ixL, op_putE, op_appE, it_tupE, it_rolE, it_refE, lstOf_l, exL, asS_some, asI_int, asB_bl, asL_some, asN_some, ite3_t, ite3_f, bl_1, bl_lenT, bl_lenR, bl_lenL, bl_lenS, bl_tuple, bl_list, bl_abs, bl_intI, bl_intB, bl_max, bl_min, op_eqSf, op_eqSt, op_eqIf, op_eqIt, op_eqTf, op_eqTt, op_eqRf, op_eqRt, op_eqNf, op_eqNt, eqD_int, eqD_nil, pl_int, pl_nil, pl_non, pl_rnil, pl_bl, sl_tupE, sl_rolE, keep_ref, keep_tup, keep_rol, tp_int, tp_tup, tp_rol, tp_str, tp_bl, tp_non, tp_ref, oFd, oMd, oPw, oShl, oLt, oLe, oGt, oGe, op_in, op_cp, wipe_nil, wipe_cons, mset_same, true_and, and_true, isN_int, ex_lstF, ex_repF, ex_lgF1, ex_lgF2, ex_tupRg1, ex_tupRg2, ex_frz, ex_slF, ex_slM, sl_tupF, sl_rolF, op_iiF, op_ssF, op_ttF, op_rrF, op_rrM, op_mmF, op_repF, li_rol, li_ref, bl_listF, bl_allF, bl_anyF, asT_some, asJ_some, op_eqBf, op_eqBt, isN_non, Bool.not_true, Bool.not_false, rep2, oD, isN_int]
        rw [st_next]
        try dsimp only
        rw [st_set]
        simp only [ex_c, ex_var, ex_op, ex_un, ex_b, ex_and, ex_or, ex_not, ex_andV, ex_orV, ex_notV, ex_if, ex_chain, ex_nil, ex_cons, ex_tup, ex_lst, ex_call, ex_callP, ex_cb, ex_bm, ex_rep, ex_sl, ex_noPart, ex_part, ex_yes, it_items, it_rng1, it_rng2, tg_name, tg_sub, tg_tup, tg_cons, tg_nil, gs_0, gs_s, ss_0, ss_s, op_ii, op_ss, op_tt, op_mm, op_sb, op_ng, op_iNf, op_iNt, op_lle, op_ixT, op_ixR, op_ixL, op_putE, op_appE, it_tupE, it_rolE, it_refE, lstOf_l, exL, asS_some, asI_int, asB_bl, asL_some, asN_some, ite3_t, ite3_f, bl_1, bl_lenT, bl_lenR, bl_lenL, bl_lenS, bl_tuple, bl_list, bl_abs, bl_intI, bl_intB, bl_max, bl_min, op_eqSf, op_eqSt, op_eqIf, op_eqIt, op_eqTf, op_eqTt, op_eqRf, op_eqRt, op_eqNf, op_eqNt, eqD_int, eqD_nil, pl_int, pl_nil, pl_non, pl_rnil, pl_bl, sl_tupE, sl_rolE, keep_ref, keep_tup, keep_rol, tp_int, tp_tup, tp_rol, tp_str, tp_bl, tp_non, tp_ref, oFd, oMd, oPw, oShl, oLt, oLe, oGt, oGe, op_in, op_cp, wipe_nil, wipe_cons, mset_same, true_and, and_true, isN_int, ex_lstF, ex_repF, ex_lgF1, ex_lgF2, ex_tupRg1, ex_tupRg2, ex_frz, ex_slF, ex_slM, sl_tupF, sl_rolF, op_iiF, op_ssF, op_ttF, op_rrF, op_rrM, op_mmF, op_repF, li_rol, li_ref, bl_listF, bl_allF, bl_anyF, asT_some, asJ_some, op_eqBf, op_eqBt, isN_non, Bool.not_true, Bool.not_false, rep2]
        have es : sumK (at2 T) rs k + x = sumK (at2 T) rs (k + 1) := by
          show _ = sumK (at2 T) rs k + (endK (at2 T) rs k).getD 0
          rw [he]; rfl
        rw [es]
        refine hY _ _ ⟨hkr, fun j hj => ?_, _, _, _, rfl⟩
        rcases Nat.lt_or_ge j k with z | z
        · exact hall j z
        · have : j = k := by omega
          rw [this, he]; exact fun z => nomatch z
    · rintro τ M ⟨_, hall, x3, x4, x5, rfl⟩
      rw [natL_len] at hall ⊢
      try dsimp only
      rw [st_seq, st_if]
      simp only [ex_c, ex_var, ex_op, ex_un, ex_b, ex_and, ex_or, ex_not, ex_andV, ex_orV, ex_notV, ex_if, ex_chain, ex_nil, ex_cons, ex_tup, ex_lst, ex_call, ex_callP, ex_cb, ex_bm, ex_rep, ex_sl, ex_noPart, ex_part, ex_yes, it_items, it_rng1, it_rng2, tg_name, tg_sub, tg_tup, tg_cons, tg_nil, gs_0, gs_s, ss_0, ss_s, op_ii, op_ss, op_tt, op_mm, op_sb, op_ng, op_iNf, op_iNt, op_lle, op_ixT, op_ixR, op_ixL, op_putE, op_appE, it_tupE, it_rolE, it_refE, lstOf_l, exL, asS_some, asI_int, asB_bl, asL_some, asN_some, ite3_t, ite3_f, bl_1, bl_lenT, bl_lenR, bl_lenL, bl_lenS, bl_tuple, bl_list, bl_abs, bl_intI, bl_intB, bl_max, bl_min, op_eqSf, op_eqSt, op_eqIf, op_eqIt, op_eqTf, op_eqTt, op_eqRf, op_eqRt, op_eqNf, op_eqNt, eqD_int, eqD_nil, pl_int, pl_nil, pl_non, pl_rnil, pl_bl, sl_tupE, sl_rolE, keep_ref, keep_tup, keep_rol, tp_int, tp_tup, tp_rol, tp_str, tp_bl, tp_non, tp_ref, oFd, oMd, oPw, oShl, oLt, oLe, oGt, oGe, op_in, op_cp, wipe_nil, wipe_cons, mset_same, true_and, and_true, isN_int, ex_lstF, ex_repF, ex_lgF1, ex_lgF2, ex_tupRg1, ex_tupRg2, ex_frz, ex_slF, ex_slM, sl_tupF, sl_rolF, op_iiF, op_ssF, op_ttF, op_rrF, op_rrM, op_mmF, op_repF, li_rol, li_ref, bl_listF, bl_allF, bl_anyF, asT_some, asJ_some, op_eqBf, op_eqBt, isN_non, Bool.not_true, Bool.not_false, rep2]
      refine ite3_by (fun h => ?_) (fun h => ?_)
      · rw [ex_raise]
        simp only [ex_c, ex_var, ex_op, ex_un, ex_b, ex_and, ex_or, ex_not, ex_andV, ex_orV, ex_notV, ex_if, ex_chain, ex_nil, ex_cons, ex_tup, ex_lst, ex_call, ex_callP, ex_cb, ex_bm, ex_rep, ex_sl, ex_noPart, ex_part, ex_yes, it_items, it_rng1, it_rng2, tg_name, tg_sub, tg_tup, tg_cons, tg_nil, gs_0, gs_s, ss_0, ss_s, op_ii, op_ss, op_tt, op_mm, op_sb, op_ng, op_iNf, op_iNt, op_lle, op_ixT, op_ixR, op_ixL, op_putE, op_appE, it_tupE, it_rolE, it_refE, lstOf_l, exL, asS_some, asI_int, asB_bl, asL_some, asN_some, ite3_t, ite3_f, bl_1, bl_lenT, bl_lenR, bl_lenL, bl_lenS, bl_tuple, bl_list, bl_abs, bl_intI, bl_intB, bl_max, bl_min, op_eqSf, op_eqSt, op_eqIf, op_eqIt, op_eqTf, op_eqTt, op_eqRf, op_eqRt, op_eqNf, op_eqNt, eqD_int, eqD_nil, pl_int, pl_nil, pl_non, pl_rnil, pl_bl, sl_tupE, sl_rolE, keep_ref, keep_tup, keep_rol, tp_int, tp_tup, tp_rol, tp_str, tp_bl, tp_non, tp_ref, oFd, oMd, oPw, oShl, oLt, oLe, oGt, oGe, op_in, op_cp, wipe_nil, wipe_cons, mset_same, true_and, and_true, isN_int, ex_lstF, ex_repF, ex_lgF1, ex_lgF2, ex_tupRg1, ex_tupRg2, ex_frz, ex_slF, ex_slM, sl_tupF, sl_rolF, op_iiF, op_ssF, op_ttF, op_rrF, op_rrM, op_mmF, op_repF, li_rol, li_ref, bl_listF, bl_allF, bl_anyF, asT_some, asJ_some, op_eqBf, op_eqBt, isN_non, Bool.not_true, Bool.not_false, rep2]
        refine l2 _ _ ?_
        rw [pap0]
        exact q2 _ _ (tell _ (.sum hall (of_decide_eq_true h))) _
      · rw [st_next]
        try dsimp only
        rw [st_ret]
        simp only [ex_c, ex_var, ex_op, ex_un, ex_b, ex_and, ex_or, ex_not, ex_andV, ex_orV, ex_notV, ex_if, ex_chain, ex_nil, ex_cons, ex_tup, ex_lst, ex_call, ex_callP, ex_cb, ex_bm, ex_rep, ex_sl, ex_noPart, ex_part, ex_yes, it_items, it_rng1, it_rng2, tg_name, tg_sub, tg_tup, tg_cons, tg_nil, gs_0, gs_s, ss_0, ss_s, op_ii, op_ss, op_tt, op_mm, op_sb, op_ng, op_iNf, op_iNt, op_lle, op_ixT, op_ixR, op_ixL, op_putE, op_appE, it_tupE, it_rolE, it_refE, lstOf_l, exL, asS_some, asI_int, asB_bl, asL_some, asN_some, ite3_t, ite3_f, bl_1, bl_lenT, bl_lenR, bl_lenL, bl_lenS, bl_tuple, bl_list, bl_abs, bl_intI, bl_intB, bl_max, bl_min, op_eqSf, op_eqSt, op_eqIf, op_eqIt, op_eqTf, op_eqTt, op_eqRf, op_eqRt, op_eqNf, op_eqNt, eqD_int, eqD_nil, pl_int, pl_nil, pl_non, pl_rnil, pl_bl, sl_tupE, sl_rolE, keep_ref, keep_tup, keep_rol, tp_int, tp_tup, tp_rol, tp_str, tp_bl, tp_non, tp_ref, oFd, oMd, oPw, oShl, oLt, oLe, oGt, oGe, op_in, op_cp, wipe_nil, wipe_cons, mset_same, true_and, and_true, isN_int, ex_lstF, ex_repF, ex_lgF1, ex_lgF2, ex_tupRg1, ex_tupRg2, ex_frz, ex_slF, ex_slM, sl_tupF, sl_rolF, op_iiF, op_ssF, op_ttF, op_rrF, op_rrM, op_mmF, op_repF, li_rol, li_ref, bl_listF, bl_allF, bl_anyF, asT_some, asJ_some, op_eqBf, op_eqBt, isN_non, Bool.not_true, Bool.not_false, rep2]
        exact q1 (tell _ (.ok hall (by have := of_decide_eq_false h; omega))) _
end L3
set_option Elab.async false
set_option linter.all false
set_option maxRecDepth 100000
set_option maxHeartbeats 4000000
namespace W
open PySem PySem.Spec PyProof.Rows L2 L3
def top (i : Nat) : PySem.Stmt := PySem.Challenge.pw_everturns_k14_rings_looked_at.main.body.getD i (.Pass ⟨0, 0, 0, 0⟩)
section
variable {P : Program} {w : World} {K : PySem.W.Frag} {mg : PySem.Str → Option Value} {base : Heap}
abbrev s_is_integer : PySem.Stmt := top 4
abbrev N_is_integer : List PySem.Str := [("value" : PySem.Str)]
theorem sc_is_integer : FnScope N_is_integer [("value" : PySem.Str)] (defScope s_is_integer) := ⟨rfl, rfl, rfl, by decide +kernel, rfl, by decide +kernel, by decide +kernel⟩
def r_is_integer : XK3 → TS3 := fun E =>
  (wRet (wAndV (wCB bIsi (wCons (wVar 0) (wCons (wC (.ty "int")) wNil))) (wNotV (wCB bIsi (wCons (wVar 0) (wCons (wC (.ty "bool")) wNil))))))
def sp_is_integer : Sp3 := spOf 1 1 r_is_integer
theorem ok_is_integer {f : Addr} {fd : FuncData} (hm : mg ("is_integer" : PySem.Str) = some (.ref f)) (F : Fun K ("is_integer" : PySem.Str) ("is_integer" : PySem.Str) s_is_integer f fd) (bd : Binds K fd [("value" : PySem.Str)] []) (z_bool : mg ("bool" : PySem.Str) = none) (z_int : mg ("int" : PySem.Str) = none) (z_isinstance : mg ("isinstance" : PySem.Str) = none) : Def3 P w K mg base (L2.CX P w) 1 ("is_integer" : PySem.Str) sp_is_integer := by
  refine def_of (t := r_is_integer) hm F bd sc_is_integer ?_
  intro cdv A outer s H E bs E3 hG hr hE
  have hG : (A.deeper (envOfC ("is_integer" : PySem.Str) (defScope s_is_integer) s.heap.objs.size f cdv)).guards = some [] := hG
  have hu := hr.units
  have hu2 := hu_more hr
  have nd := sc_is_integer.nd
  exact (ss_one (s_ret (e_and (e_callB c_isi z_isinstance (by decide +kernel) (a_cons (ev 0) (a_cons (e_bty z_int (by decide +kernel)) a_nil))) (e_one (e_not (e_callB c_isi z_isinstance (by decide +kernel) (a_cons (ev 0) (a_cons (e_bty z_bool (by decide +kernel)) a_nil))))))))
abbrev s_joined : PySem.Stmt := top 5
abbrev N_joined : List PySem.Str := [("first" : PySem.Str), ("second" : PySem.Str)]
theorem sc_joined : FnScope N_joined [("first" : PySem.Str), ("second" : PySem.Str)] (defScope s_joined) := ⟨rfl, rfl, rfl, by decide +kernel, rfl, by decide +kernel, by decide +kernel⟩
def r_joined : XK3 → TS3 := fun E =>
  (wRet (wIf (wOr (wB (wOp (oIsN false) (wVar 0) (wC .non))) (wB (wOp (oIsN false) (wVar 1) (wC .non)))) (wC .non) (wOp oAddF (wVar 0) (wVar 1))))
def sp_joined : Sp3 := spOf 2 2 r_joined
theorem ok_joined {f : Addr} {fd : FuncData} (hm : mg ("joined" : PySem.Str) = some (.ref f)) (F : Fun K ("joined" : PySem.Str) ("joined" : PySem.Str) s_joined f fd) (bd : Binds K fd [("first" : PySem.Str), ("second" : PySem.Str)] []) : Def3 P w K mg base (L2.CX P w) 1 ("joined" : PySem.Str) sp_joined := by
  refine def_of (t := r_joined) hm F bd sc_joined ?_
  intro cdv A outer s H E bs E3 hG hr hE
  have hG : (A.deeper (envOfC ("joined" : PySem.Str) (defScope s_joined) s.heap.objs.size f cdv)).guards = some [] := hG
  have hu := hr.units
  have hu2 := hu_more hr
  have nd := sc_joined.nd
  exact (ss_one (s_ret (e_if (PW3.pt (t_or (t_cmp o_is (ev 0) e_non (nomark _)) (t_or1 (t_cmp o_is (ev 1) e_non (nomark _))))) e_non (e_op o_addF (ev 0) (ev 1)))))
abbrev s_is_ring : PySem.Stmt := top 7
abbrev N_is_ring : List PySem.Str := [("value" : PySem.Str), ("many" : PySem.Str), ("p" : PySem.Str)]
theorem sc_is_ring : FnScope N_is_ring [("value" : PySem.Str), ("many" : PySem.Str)] (defScope s_is_ring) := ⟨rfl, rfl, rfl, by decide +kernel, rfl, by decide +kernel, by decide +kernel⟩
def r_is_ring (sp_is_integer : Sp3) : XK3 → TS3 := fun E =>
  (wSeq (wIfS (wOr (wNot (wB (wCB bIsi (wCons (wVar 0) (wCons (wC (.ty "tuple")) wNil))))) (wB (wOp (oEq false) (wVar 0) (wTup wNil)))) (wRet (wC (.bl false))) wNext)
  (wSeq (wIfS (wNot (wB (wCB bAllF (wCons (wLcF (wItems (wVar 0)) (wgName 2) wYes (wAndV (wCallP sp_is_integer X0 (wCons (wVar 2) wNil)) (wChain oLe oLt (wC (.int 0)) (wVar 2) (wVar 1))) [2]) wNil)))) (wRet (wC (.bl false))) wNext)
  (wRet (wOp (oEq false) (wLenSet (wVar 0)) (wCB bLen (wCons (wVar 0) wNil))))))
def sp_is_ring : Sp3 := spOf 2 3 (r_is_ring sp_is_integer)
theorem ok_is_ring {f : Addr} {fd : FuncData} (hm : mg ("is_ring" : PySem.Str) = some (.ref f)) (F : Fun K ("is_ring" : PySem.Str) ("is_ring" : PySem.Str) s_is_ring f fd) (bd : Binds K fd [("value" : PySem.Str), ("many" : PySem.Str)] []) (z_all : mg ("all" : PySem.Str) = none) (z_isinstance : mg ("isinstance" : PySem.Str) = none) (z_len : mg ("len" : PySem.Str) = none) (z_set : mg ("set" : PySem.Str) = none) (z_tuple : mg ("tuple" : PySem.Str) = none) (d_is_integer : Def3 P w K mg base (L2.CX P w) 1 ("is_integer" : PySem.Str) sp_is_integer) : Def3 P w K mg base (L2.CX P w) 2 ("is_ring" : PySem.Str) sp_is_ring := by
  refine def_of (t := (r_is_ring sp_is_integer)) hm F bd sc_is_ring ?_
  intro cdv A outer s H E bs E3 hG hr hE
  have hG : (A.deeper (envOfC ("is_ring" : PySem.Str) (defScope s_is_ring) s.heap.objs.size f cdv)).guards = some [] := hG
  have hu := hr.units
  have hu2 := hu_more hr
  have nd := sc_is_ring.nd
  exact (ss_cons (s_if (PW3.pt (t_or (t_not (t_val (e_callB c_isi z_isinstance (by decide +kernel) (a_cons (ev 0) (a_cons (e_bty z_tuple (by decide +kernel)) a_nil))))) (t_or1 (t_cmp (o_eq hu) (ev 0) (e_tup a_nil) (nomark _))))) (ss_one (s_ret e_bl)) ss_nil)
     (ss_cons (s_if (t_not (t_val (e_callB (c_allF rfl) z_all (by decide +kernel) (a_cons (e_lcF (own := [(("p" : PySem.Str), 2)]) (by decide) rfl nd (w_seq (ev 0)) (blkOk_by (N := N_is_ring) (sc := defScope s_is_ring) (by decide +kernel)) (fun _ _ _ _ _ => (g_name (i := 2) nd rfl (by first | exact Or.inl rfl | exact Or.inr rfl))) (fun _ _ _ _ _ => ts_nil) (fun _ _ _ _ _ => (e_and (e_callP d_is_integer hG (hr.mono (by decide)) passX1 (a_cons (ev 2) a_nil)) (e_one (e_chain o_le o_lt e_int (ev 2) (ev 1)))))) a_nil)))) (ss_one (s_ret e_bl)) ss_nil)
     (ss_one (s_ret (e_cmp (o_eq hu) (e_lenSet z_len z_set (ev 0)) (e_callB c_len z_len (by decide +kernel) (a_cons (ev 0) a_nil)) (nomark _))))))
abbrev s_NoPaper_init : PySem.Stmt := inClass (top 2) 0
theorem sc_NoPaper_init : FnScope [("self" : PySem.Str), ("word" : PySem.Str), ("place" : PySem.Str)] [("self" : PySem.Str), ("word" : PySem.Str), ("place" : PySem.Str)] (defScope s_NoPaper_init) := ⟨rfl, rfl, rfl, by decide +kernel, rfl, by decide +kernel, by decide +kernel⟩
theorem mk_NoPaper {C fI : Addr} {fd : FuncData} (cl : Cl K ("NoPaper" : PySem.Str) (.ref C)) (hm : mg ("NoPaper" : PySem.Str) = some (.ref C)) (T : OexC K C) (n1 : PySem.W.findIn K (.ref C) ("word" : PySem.Str) = some none) (n2 : PySem.W.findIn K (.ref C) ("place" : PySem.Str) = some none) (iC : PySem.W.findIn K (.ref C) "__init__" = some (some (.ref fI))) (tI : PySem.W.typeIn K (.ref fI) = some (.type "function")) (F : Fun K "__init__" "NoPaper.__init__" s_NoPaper_init fI fd) (bd : Binds K fd [("self" : PySem.Str), ("word" : PySem.Str), ("place" : PySem.Str)] []) : MkX P w K mg base ("NoPaper" : PySem.Str) [("word" : PySem.Str), ("place" : PySem.Str)] :=
  ⟨C, fI, fd, _, cl, hm, T, iC, tI, bd, F.ok sc_NoPaper_init (fun vs H Q E h => by obtain ⟨a, ws, rfl, hl, _⟩ := h; rw [List.length_cons, hl]; rfl) fun cdv A outer s H vs Q E hr h => ⟨_, (pss_cons (ps_ost (pv 0) (pv 1)) (pss_one (ps_ost (pv 0) (pv 2)))), by
    obtain ⟨a, ws, rfl, hl, h2⟩ := h
    match ws, hl, h2 with
    | [w0, w1], hl, h2 => exact rd_ini2 (E := E) T n1 n2 rfl ⟨a, _, rfl, hl, h2⟩⟩⟩
abbrev s_lets_ring : PySem.Stmt := top 8
abbrev N_lets_ring : List PySem.Str := [("table" : PySem.Str), ("value" : PySem.Str), ("whole" : PySem.Str), ("k" : PySem.Str), ("p" : PySem.Str), ("end" : PySem.Str)]
theorem sc_lets_ring : FnScope N_lets_ring [("table" : PySem.Str), ("value" : PySem.Str)] (defScope s_lets_ring) := ⟨rfl, rfl, rfl, by decide +kernel, rfl, by decide +kernel, by decide +kernel⟩
def r_lets_ring (sp_is_ring : Sp3) : XK3 → TS3 := fun E =>
  (wSeq (wIfS (wB (wOp (oEq false) (wVar 0) (wTup wNil))) (wSeq (wIfS (wOr (wNot (wB (wCB bIsi (wCons (wVar 1) (wCons (wC (.ty "tuple")) wNil))))) (wB (wOp (oEq true) (wVar 1) (wTup wNil)))) (wRaise ("NoPaper" : PySem.Str) [("word" : PySem.Str), ("place" : PySem.Str)] (fun _ => E) (wCons (wC (.str ("shape" : PySem.Str))) (wCons (wC (.int 0)) wNil))) wNext)
  (wRet (wC (.bl true)))) wNext)
  (wSeq (wIfS (wNot (wB (wCallP sp_is_ring E (wCons (wVar 1) (wCons (wCB bLen (wCons (wVar 0) wNil)) wNil))))) (wRaise ("NoPaper" : PySem.Str) [("word" : PySem.Str), ("place" : PySem.Str)] (fun _ => E) (wCons (wC (.str ("shape" : PySem.Str))) (wCons (wC (.int 0)) wNil))) wNext)
  (wSeq (wSet 2 (wC (.int 0)))
  (wSeq (wFor (wEnum (wCons (wVar 1) wNil)) (wgTupN 2 (wgCons (wgName 3) (wgCons (wgName 4) wgNil))) (wSeq (wSet 5 (wOp oIx (wOp oIx (wVar 0) (wVar 4)) (wOp oIx (wVar 1) (wOp oMd (wOp oAddF (wVar 3) (wC (.int 1))) (wCB bLen (wCons (wVar 1) wNil))))))
  (wSeq (wIfS (wB (wOp (oIsN false) (wVar 5) (wC .non))) (wRaise ("NoPaper" : PySem.Str) [("word" : PySem.Str), ("place" : PySem.Str)] (fun _ => E) (wCons (wC (.str ("end" : PySem.Str))) (wCons (wVar 3) wNil))) wNext)
  (wSet 2 (wOp oAddF (wVar 2) (wVar 5))))))
  (wSeq (wIfS (wB (wOp oGe (wVar 2) (wC (.int 0)))) (wRaise ("NoPaper" : PySem.Str) [("word" : PySem.Str), ("place" : PySem.Str)] (fun _ => E) (wCons (wC (.str ("sum" : PySem.Str))) (wCons (wC (.int 0)) wNil))) wNext)
  (wRet (wC (.bl true))))))))
def sp_lets_ring : Sp3 := spOf 2 6 (r_lets_ring sp_is_ring)
theorem ok_lets_ring {f : Addr} {fd : FuncData} (hm : mg ("lets_ring" : PySem.Str) = some (.ref f)) (F : Fun K ("lets_ring" : PySem.Str) ("lets_ring" : PySem.Str) s_lets_ring f fd) (bd : Binds K fd [("table" : PySem.Str), ("value" : PySem.Str)] []) (z_enumerate : mg ("enumerate" : PySem.Str) = none) (z_isinstance : mg ("isinstance" : PySem.Str) = none) (z_len : mg ("len" : PySem.Str) = none) (z_tuple : mg ("tuple" : PySem.Str) = none) (x_NoPaper : MkX P w K mg base ("NoPaper" : PySem.Str) [("word" : PySem.Str), ("place" : PySem.Str)]) (d_is_ring : Def3 P w K mg base (L2.CX P w) 2 ("is_ring" : PySem.Str) sp_is_ring) : Def3 P w K mg base (L2.CX P w) 3 ("lets_ring" : PySem.Str) sp_lets_ring := by
  refine def_of (t := (r_lets_ring sp_is_ring)) hm F bd sc_lets_ring ?_
  intro cdv A outer s H E bs E3 hG hr hE
  have hG : (A.deeper (envOfC ("lets_ring" : PySem.Str) (defScope s_lets_ring) s.heap.objs.size f cdv)).guards = some [] := hG
  have hu := hr.units
  have hu2 := hu_more hr
  have nd := sc_lets_ring.nd
  exact (ss_cons (s_if (t_cmp (o_eq hu) (ev 0) (e_tup a_nil) (nomark _)) (ss_cons (s_if (PW3.pt (t_or (t_not (t_val (e_callB c_isi z_isinstance (by decide +kernel) (a_cons (ev 1) (a_cons (e_bty z_tuple (by decide +kernel)) a_nil))))) (t_or1 (t_cmp (o_ne hu) (ev 1) (e_tup a_nil) (nomark _))))) (ss_one (s_raise rfl (hr.mono (by decide)) x_NoPaper (takesXE hE) (a_cons e_str (a_cons e_int a_nil)))) ss_nil)
     (ss_one (s_ret e_bl))) ss_nil)
     (ss_cons (s_if (t_not (t_val (e_callP d_is_ring hG (hr.mono (by decide)) (passXE hE) (a_cons (ev 1) (a_cons (e_callB c_len z_len (by decide +kernel) (a_cons (ev 0) a_nil)) a_nil))))) (ss_one (s_raise rfl (hr.mono (by decide)) x_NoPaper (takesXE hE) (a_cons e_str (a_cons e_int a_nil)))) ss_nil)
     (ss_cons (s_set (i := 2) nd rfl (by first | exact Or.inl rfl | exact Or.inr rfl) e_int)
     (ss_cons (s_for (passes_of rfl) rfl (w_enum z_enumerate (a_cons (ev 1) a_nil)) (g_tupN rfl (gs_cons (g_name (i := 3) nd rfl (by first | exact Or.inl rfl | exact Or.inr rfl)) (gs_cons (g_name (i := 4) nd rfl (by first | exact Or.inl rfl | exact Or.inr rfl)) gs_nil))) (ss_cons (s_set (i := 5) nd rfl (by first | exact Or.inl rfl | exact Or.inr rfl) (e_ix (e_ix (ev 0) (ev 4)) (e_ix (ev 1) (e_op o_md (e_op o_addF (ev 3) e_int) (e_callB c_len z_len (by decide +kernel) (a_cons (ev 1) a_nil))))))
     (ss_cons (s_if (t_cmp o_is (ev 5) e_non (nomark _)) (ss_one (s_raise rfl (hr.mono (by decide)) x_NoPaper (takesXE hE) (a_cons e_str (a_cons (ev 3) a_nil)))) ss_nil)
     (ss_one (s_set (i := 2) nd rfl (by first | exact Or.inl rfl | exact Or.inr rfl) (e_op o_addF (ev 2) (ev 5)))))))
     (ss_cons (s_if (t_cmp o_ge (ev 2) e_int (nomark _)) (ss_one (s_raise rfl (hr.mono (by decide)) x_NoPaper (takesXE hE) (a_cons e_str (a_cons e_int a_nil)))) ss_nil)
     (ss_one (s_ret e_bl)))))))
abbrev s_loosen : PySem.Stmt := top 10
abbrev N_loosen : List PySem.Str := [("table" : PySem.Str), ("sums" : PySem.Str), ("ahead" : PySem.Str), ("fell" : PySem.Str), ("p" : PySem.Str), ("row" : PySem.Str), ("q" : PySem.Str), ("end" : PySem.Str), ("more" : PySem.Str)]
theorem sc_loosen : FnScope N_loosen [("table" : PySem.Str), ("sums" : PySem.Str), ("ahead" : PySem.Str)] (defScope s_loosen) := ⟨rfl, rfl, rfl, by decide +kernel, rfl, by decide +kernel, by decide +kernel⟩
def r_loosen (sp_joined : Sp3) : XK3 → TS3 := fun E =>
  (wSeq (wSet 3 (wC .non))
  (wSeq (wFor (wEnum (wCons (wVar 0) wNil)) (wgTupN 2 (wgCons (wgName 4) (wgCons (wgName 5) wgNil))) (wFor (wEnum (wCons (wVar 5) wNil)) (wgTupN 2 (wgCons (wgName 6) (wgCons (wgName 7) wgNil))) (wSeq (wSet 8 (wCallP sp_joined E (wCons (wOp oIx (wVar 1) (wVar 4)) (wCons (wVar 7) wNil))))
  (wIfS (wAnd (wB (wOp (oIsN true) (wVar 8) (wC .non))) (wB (wOp oLt (wVar 8) (wOp oIx (wVar 1) (wVar 6))))) (wSeq (wAsg (wVar 8) (wgSub (wVar 1) (wVar 6) oPut))
  (wSeq (wAsg (wVar 4) (wgSub (wVar 2) (wVar 6) oPut))
  (wSet 3 (wVar 6)))) wNext))))
  (wRet (wVar 3))))
def sp_loosen : Sp3 := spOf 3 9 (r_loosen sp_joined)
theorem ok_loosen {f : Addr} {fd : FuncData} (hm : mg ("loosen" : PySem.Str) = some (.ref f)) (F : Fun K ("loosen" : PySem.Str) ("loosen" : PySem.Str) s_loosen f fd) (bd : Binds K fd [("table" : PySem.Str), ("sums" : PySem.Str), ("ahead" : PySem.Str)] []) (z_enumerate : mg ("enumerate" : PySem.Str) = none) (d_joined : Def3 P w K mg base (L2.CX P w) 1 ("joined" : PySem.Str) sp_joined) : Def3 P w K mg base (L2.CX P w) 2 ("loosen" : PySem.Str) sp_loosen := by
  refine def_of (t := (r_loosen sp_joined)) hm F bd sc_loosen ?_
  intro cdv A outer s H E bs E3 hG hr hE
  have hG : (A.deeper (envOfC ("loosen" : PySem.Str) (defScope s_loosen) s.heap.objs.size f cdv)).guards = some [] := hG
  have hu := hr.units
  have hu2 := hu_more hr
  have nd := sc_loosen.nd
  exact (ss_cons (s_set (i := 3) nd rfl (by first | exact Or.inl rfl | exact Or.inr rfl) e_non)
     (ss_cons (s_for (passes_of rfl) rfl (w_enum z_enumerate (a_cons (ev 0) a_nil)) (g_tupN rfl (gs_cons (g_name (i := 4) nd rfl (by first | exact Or.inl rfl | exact Or.inr rfl)) (gs_cons (g_name (i := 5) nd rfl (by first | exact Or.inl rfl | exact Or.inr rfl)) gs_nil))) (ss_one (s_for (passes_of rfl) rfl (w_enum z_enumerate (a_cons (ev 5) a_nil)) (g_tupN rfl (gs_cons (g_name (i := 6) nd rfl (by first | exact Or.inl rfl | exact Or.inr rfl)) (gs_cons (g_name (i := 7) nd rfl (by first | exact Or.inl rfl | exact Or.inr rfl)) gs_nil))) (ss_cons (s_set (i := 8) nd rfl (by first | exact Or.inl rfl | exact Or.inr rfl) (e_callP d_joined hG (hr.mono (by decide)) (passXE hE) (a_cons (e_ix (ev 1) (ev 4)) (a_cons (ev 7) a_nil))))
     (ss_one (s_if (PW3.pt (t_and (t_cmp o_isnot (ev 8) e_non (nomark _)) (t_and1 (t_cmp o_lt (ev 8) (e_ix (ev 1) (ev 6)) (nomark _))))) (ss_cons (s_asg (ev 8) (g_sub (ev 1) (ev 6) p_put))
     (ss_cons (s_asg (ev 4) (g_sub (ev 2) (ev 6) p_put))
     (ss_one (s_set (i := 3) nd rfl (by first | exact Or.inl rfl | exact Or.inr rfl) (ev 6))))) ss_nil))))))
     (ss_one (s_ret (ev 3)))))
abbrev s_ring_of : PySem.Stmt := top 11
abbrev N_ring_of : List PySem.Str := [("table" : PySem.Str), ("sums" : PySem.Str), ("ahead" : PySem.Str), ("fell" : PySem.Str), ("turn" : PySem.Str), ("ring" : PySem.Str)]
theorem sc_ring_of : FnScope N_ring_of [("table" : PySem.Str)] (defScope s_ring_of) := ⟨rfl, rfl, rfl, by decide +kernel, rfl, by decide +kernel, by decide +kernel⟩
def r_ring_of (sp_loosen : Sp3) : XK3 → TS3 := fun E =>
  (wSeq (wIfS (wB (wOp (oEq false) (wVar 0) (wTup wNil))) (wRet (wTup wNil)) wNext)
  (wSeq (wSet 1 (wRep (wC (.int 0)) (wCB bLen (wCons (wVar 0) wNil))))
  (wSeq (wSet 2 (wLstRg1 (wCB bLen (wCons (wVar 0) wNil))))
  (wSeq (wSet 3 (wC .non))
  (wSeq (wFor (wItems (wVar 0)) (wgName 4) (wSet 3 (wCall sp_loosen E (wCons (wVar 0) (wCons (wVar 1) (wCons (wVar 2) wNil))))))
  (wSeq (wIfS (wB (wOp (oIsN false) (wVar 3) (wC .non))) (wRet (wC .non)) wNext)
  (wSeq (wFor (wItems (wVar 0)) (wgName 4) (wSet 3 (wOp oIx (wVar 2) (wVar 3))))
  (wSeq (wSet 5 (wLst (wCons (wVar 3) wNil)))
  (wSeq (wWhile (wB (wOp (oEq true) (wOp oIx (wVar 2) (wOp oIx (wVar 5) (wUn oNeg (wC (.int 1))))) (wVar 3))) (wDrop (wBM oApp (wVar 5) (wCons (wOp oIx (wVar 2) (wOp oIx (wVar 5) (wUn oNeg (wC (.int 1))))) wNil))))
  (wRet (wCB bTuple (wCons (wRevF (wVar 5)) wNil))))))))))))
def sp_ring_of : Sp3 := spOf 1 6 (r_ring_of sp_loosen)
theorem ok_ring_of {f : Addr} {fd : FuncData} (hm : mg ("ring_of" : PySem.Str) = some (.ref f)) (F : Fun K ("ring_of" : PySem.Str) ("ring_of" : PySem.Str) s_ring_of f fd) (bd : Binds K fd [("table" : PySem.Str)] []) (z_len : mg ("len" : PySem.Str) = none) (z_list : mg ("list" : PySem.Str) = none) (z_range : mg ("range" : PySem.Str) = none) (z_tuple : mg ("tuple" : PySem.Str) = none) (d_loosen : Def3 P w K mg base (L2.CX P w) 2 ("loosen" : PySem.Str) sp_loosen) : Def3 P w K mg base (L2.CX P w) 3 ("ring_of" : PySem.Str) sp_ring_of := by
  refine def_of (t := (r_ring_of sp_loosen)) hm F bd sc_ring_of ?_
  intro cdv A outer s H E bs E3 hG hr hE
  have hG : (A.deeper (envOfC ("ring_of" : PySem.Str) (defScope s_ring_of) s.heap.objs.size f cdv)).guards = some [] := hG
  have hu := hr.units
  have hu2 := hu_more hr
  have nd := sc_ring_of.nd
  exact (ss_cons (s_if (t_cmp (o_eq hu) (ev 0) (e_tup a_nil) (nomark _)) (ss_one (s_ret (e_tup a_nil))) ss_nil)
     (ss_cons (s_set (i := 1) nd rfl (by first | exact Or.inl rfl | exact Or.inr rfl) (e_rep e_int (e_callB c_len z_len (by decide +kernel) (a_cons (ev 0) a_nil))))
     (ss_cons (s_set (i := 2) nd rfl (by first | exact Or.inl rfl | exact Or.inr rfl) (e_listRg1 rfl z_list z_range (e_callB c_len z_len (by decide +kernel) (a_cons (ev 0) a_nil))))
     (ss_cons (s_set (i := 3) nd rfl (by first | exact Or.inl rfl | exact Or.inr rfl) e_non)
     (ss_cons (s_for (passes_of rfl) rfl (w_seq (ev 0)) (g_name (i := 4) nd rfl (by first | exact Or.inl rfl | exact Or.inr rfl)) (ss_one (s_set (i := 3) nd rfl (by first | exact Or.inl rfl | exact Or.inr rfl) (e_call d_loosen hG (hr.mono (by decide)) (passXE hE) (a_cons (ev 0) (a_cons (ev 1) (a_cons (ev 2) a_nil)))))))
     (ss_cons (s_if (t_cmp o_is (ev 3) e_non (nomark _)) (ss_one (s_ret e_non)) ss_nil)
     (ss_cons (s_for (passes_of rfl) rfl (w_seq (ev 0)) (g_name (i := 4) nd rfl (by first | exact Or.inl rfl | exact Or.inr rfl)) (ss_one (s_set (i := 3) nd rfl (by first | exact Or.inl rfl | exact Or.inr rfl) (e_ix (ev 2) (ev 3)))))
     (ss_cons (s_set (i := 5) nd rfl (by first | exact Or.inl rfl | exact Or.inr rfl) (e_lst (a_cons (ev 3) a_nil)))
     (ss_cons (s_while (passes_of rfl) (t_cmp (o_ne hu) (e_ix (ev 2) (e_ix (ev 5) (e_neg e_int))) (ev 3) (nomark _)) (ss_one (s_expr (e_append (ev 5) (e_ix (ev 2) (e_ix (ev 5) (e_neg e_int)))))))
     (ss_one (s_ret (e_callTy c_tuple z_tuple (by decide +kernel) (a_cons (e_revF (ev 5)) a_nil)))))))))))))
abbrev s__law_feed : PySem.Stmt := top 13
abbrev N__law_feed : List PySem.Str := [("_law_script" : PySem.Str)]
theorem sc__law_feed : FnScope N__law_feed [("_law_script" : PySem.Str)] (defScope s__law_feed) := ⟨rfl, rfl, rfl, by decide +kernel, rfl, by decide +kernel, by decide +kernel⟩
def r__law_feed : XK3 → TS3 := fun E =>
  (wRet (wLst (wCons (wSlF (wVar 0) wNoPart (wPart (wC (.int 63)))) (wCons (wC (.int 0)) (wCons (wC (.int 0)) (wCons (wC (.int 0)) wNil))))))
def sp__law_feed : Sp3 := spOf 1 1 r__law_feed
theorem ok__law_feed {f : Addr} {fd : FuncData} (hm : mg ("_law_feed" : PySem.Str) = some (.ref f)) (F : Fun K ("_law_feed" : PySem.Str) ("_law_feed" : PySem.Str) s__law_feed f fd) (bd : Binds K fd [("_law_script" : PySem.Str)] []) : Def3 P w K mg base (L2.CX P w) 1 ("_law_feed" : PySem.Str) sp__law_feed := by
  refine def_of (t := r__law_feed) hm F bd sc__law_feed ?_
  intro cdv A outer s H E bs E3 hG hr hE
  have hG : (A.deeper (envOfC ("_law_feed" : PySem.Str) (defScope s__law_feed) s.heap.objs.size f cdv)).guards = some [] := hG
  have hu := hr.units
  have hu2 := hu_more hr
  have nd := sc__law_feed.nd
  exact (ss_one (s_ret (e_lst (a_cons (e_sliceF (ev 0) p_none (p_some e_int)) (a_cons e_int (a_cons e_int (a_cons e_int a_nil)))))))
abbrev s__law_draw : PySem.Stmt := top 14
abbrev N__law_draw : List PySem.Str := [("_law_feed_here" : PySem.Str), ("_law_many" : PySem.Str), ("_law_found" : PySem.Str), ("_law_cell" : PySem.Str), ("_law_mixed" : PySem.Str)]
theorem sc__law_draw : FnScope N__law_draw [("_law_feed_here" : PySem.Str), ("_law_many" : PySem.Str)] (defScope s__law_draw) := ⟨rfl, rfl, rfl, by decide +kernel, rfl, by decide +kernel, by decide +kernel⟩
def r__law_draw : XK3 → TS3 := fun E =>
  (wSeq (wAsg (wOp oAddF (wOp oIx (wVar 0) (wC (.int 3))) (wC (.int 1))) (wgSub (wVar 0) (wC (.int 3)) oPut))
  (wSeq (wIfS (wB (wOp oGt (wOp oIx (wVar 0) (wC (.int 2))) (wC (.int 0)))) (wSeq (wSet 2 (wOp oMd (wOp oIx (wVar 0) (wC (.int 2))) (wVar 1)))
  (wSeq (wAsg (wOp oFd (wOp oIx (wVar 0) (wC (.int 2))) (wVar 1)) (wgSub (wVar 0) (wC (.int 2)) oPut))
  (wRet (wVar 2)))) wNext)
  (wSeq (wSet 3 (wC (.int 17)))
  (wSeq (wIfS (wB (wOp (oEq true) (wOp oIx (wVar 0) (wC (.int 0))) (wLstF wNil))) (wSet 3 (wOp oIx (wOp oIx (wVar 0) (wC (.int 0))) (wOp oMd (wOp oIx (wVar 0) (wC (.int 1))) (wCB bLen (wCons (wOp oIx (wVar 0) (wC (.int 0))) wNil))))) wNext)
  (wSeq (wAsg (wOp oAddF (wOp oIx (wVar 0) (wC (.int 1))) (wC (.int 1))) (wgSub (wVar 0) (wC (.int 1)) oPut))
  (wSeq (wIfS (wAnd (wB (wOp oGe (wVar 3) (wOp oPw (wC (.int 10)) (wC (.int 18))))) (wB (wOp oLe (wOp oIx (wVar 0) (wC (.int 1))) (wCB bLen (wCons (wOp oIx (wVar 0) (wC (.int 0))) wNil))))) (wSeq (wAsg (wOp oFd (wVar 3) (wVar 1)) (wgSub (wVar 0) (wC (.int 2)) oPut))
  (wRet (wOp oMd (wVar 3) (wVar 1)))) wNext)
  (wSeq (wSet 4 (wOp oMd (wOp oPw (wOp oAddF (wOp oMd (wVar 3) (wC (.int 2147483629))) (wOp oMulF (wC (.int 104729)) (wOp oIx (wVar 0) (wC (.int 3))))) (wC (.int 5))) (wC (.int 2147483647))))
  (wSeq (wSet 4 (wOp oMd (wOp oPw (wOp oAddF (wOp oMulF (wVar 4) (wOp oAddF (wOp oMulF (wC (.int 2)) (wOp oIx (wVar 0) (wC (.int 3)))) (wC (.int 1)))) (wC (.int 7919))) (wC (.int 3))) (wC (.int 2147483587))))
  (wRet (wOp oMd (wOp oFd (wVar 4) (wC (.int 64))) (wVar 1)))))))))))
def sp__law_draw : Sp3 := spOf 2 5 r__law_draw
theorem ok__law_draw {f : Addr} {fd : FuncData} (hm : mg ("_law_draw" : PySem.Str) = some (.ref f)) (F : Fun K ("_law_draw" : PySem.Str) ("_law_draw" : PySem.Str) s__law_draw f fd) (bd : Binds K fd [("_law_feed_here" : PySem.Str), ("_law_many" : PySem.Str)] []) (z_len : mg ("len" : PySem.Str) = none) : Def3 P w K mg base (L2.CX P w) 1 ("_law_draw" : PySem.Str) sp__law_draw := by
  refine def_of (t := r__law_draw) hm F bd sc__law_draw ?_
  intro cdv A outer s H E bs E3 hG hr hE
  have hG : (A.deeper (envOfC ("_law_draw" : PySem.Str) (defScope s__law_draw) s.heap.objs.size f cdv)).guards = some [] := hG
  have hu := hr.units
  have hu2 := hu_more hr
  have nd := sc__law_draw.nd
  exact (ss_cons (s_asg (e_op o_addF (e_ix (ev 0) e_int) e_int) (g_sub (ev 0) e_int p_put))
     (ss_cons (s_if (t_cmp o_gt (e_ix (ev 0) e_int) e_int (nomark _)) (ss_cons (s_set (i := 2) nd rfl (by first | exact Or.inl rfl | exact Or.inr rfl) (e_op o_md (e_ix (ev 0) e_int) (ev 1)))
     (ss_cons (s_asg (e_op o_fd (e_ix (ev 0) e_int) (ev 1)) (g_sub (ev 0) e_int p_put))
     (ss_one (s_ret (ev 2))))) ss_nil)
     (ss_cons (s_set (i := 3) nd rfl (by first | exact Or.inl rfl | exact Or.inr rfl) e_int)
     (ss_cons (s_if (t_cmp (o_ne hu) (e_ix (ev 0) e_int) (e_lstF a_nil) (nomark _)) (ss_one (s_set (i := 3) nd rfl (by first | exact Or.inl rfl | exact Or.inr rfl) (e_ix (e_ix (ev 0) e_int) (e_op o_md (e_ix (ev 0) e_int) (e_callB c_len z_len (by decide +kernel) (a_cons (e_ix (ev 0) e_int) a_nil)))))) ss_nil)
     (ss_cons (s_asg (e_op o_addF (e_ix (ev 0) e_int) e_int) (g_sub (ev 0) e_int p_put))
     (ss_cons (s_if (PW3.pt (t_and (t_cmp o_ge (ev 3) (e_op o_pw e_int e_int) (nomark _)) (t_and1 (t_cmp o_le (e_ix (ev 0) e_int) (e_callB c_len z_len (by decide +kernel) (a_cons (e_ix (ev 0) e_int) a_nil)) (nomark _))))) (ss_cons (s_asg (e_op o_fd (ev 3) (ev 1)) (g_sub (ev 0) e_int p_put))
     (ss_one (s_ret (e_op o_md (ev 3) (ev 1))))) ss_nil)
     (ss_cons (s_set (i := 4) nd rfl (by first | exact Or.inl rfl | exact Or.inr rfl) (e_op o_md (e_op o_pw (e_op o_addF (e_op o_md (ev 3) e_int) (e_op o_mulF e_int (e_ix (ev 0) e_int))) e_int) e_int))
     (ss_cons (s_set (i := 4) nd rfl (by first | exact Or.inl rfl | exact Or.inr rfl) (e_op o_md (e_op o_pw (e_op o_addF (e_op o_mulF (ev 4) (e_op o_addF (e_op o_mulF e_int (e_ix (ev 0) e_int)) e_int)) e_int) e_int) e_int))
     (ss_one (s_ret (e_op o_md (e_op o_fd (ev 4) e_int) (ev 1))))))))))))
abbrev s__law_end : PySem.Stmt := top 15
abbrev N__law_end : List PySem.Str := [("_law_feed_here" : PySem.Str), ("_law_way" : PySem.Str), ("_law_gap" : PySem.Str)]
theorem sc__law_end : FnScope N__law_end [("_law_feed_here" : PySem.Str), ("_law_way" : PySem.Str), ("_law_gap" : PySem.Str)] (defScope s__law_end) := ⟨rfl, rfl, rfl, by decide +kernel, rfl, by decide +kernel, by decide +kernel⟩
def r__law_end (sp__law_draw : Sp3) : XK3 → TS3 := fun E =>
  (wSeq (wIfS (wB (wOp oLt (wCall sp__law_draw E (wCons (wVar 0) (wCons (wC (.int 5)) wNil))) (wC (.int 2)))) (wRet (wC .non)) wNext)
  (wSeq (wIfS (wB (wOp oLt (wVar 1) (wC (.int 4)))) (wRet (wCB bMax (wCons (wUn oNeg (wC (.int 12))) (wCons (wCB bMin (wCons (wC (.int 12)) (wCons (wOp oAddF (wVar 2) (wOp oIx (wLstF (wCons (wC (.int 0)) (wCons (wC (.int 0)) (wCons (wC (.int 1)) (wCons (wCall sp__law_draw E (wCons (wVar 0) (wCons (wC (.int 7)) wNil))) wNil))))) (wCall sp__law_draw E (wCons (wVar 0) (wCons (wC (.int 4)) wNil))))) wNil))) wNil)))) wNext)
  (wRet (wOp oIx (wLstF (wCons (wOp oSub (wCall sp__law_draw E (wCons (wVar 0) (wCons (wC (.int 25)) wNil))) (wC (.int 12))) (wCons (wOp oSub (wCall sp__law_draw E (wCons (wVar 0) (wCons (wC (.int 4)) wNil))) (wC (.int 1))) wNil))) (wOp oMd (wVar 1) (wC (.int 2)))))))
def sp__law_end : Sp3 := spOf 3 3 (r__law_end sp__law_draw)
theorem ok__law_end {f : Addr} {fd : FuncData} (hm : mg ("_law_end" : PySem.Str) = some (.ref f)) (F : Fun K ("_law_end" : PySem.Str) ("_law_end" : PySem.Str) s__law_end f fd) (bd : Binds K fd [("_law_feed_here" : PySem.Str), ("_law_way" : PySem.Str), ("_law_gap" : PySem.Str)] []) (z_max : mg ("max" : PySem.Str) = none) (z_min : mg ("min" : PySem.Str) = none) (d__law_draw : Def3 P w K mg base (L2.CX P w) 1 ("_law_draw" : PySem.Str) sp__law_draw) : Def3 P w K mg base (L2.CX P w) 2 ("_law_end" : PySem.Str) sp__law_end := by
  refine def_of (t := (r__law_end sp__law_draw)) hm F bd sc__law_end ?_
  intro cdv A outer s H E bs E3 hG hr hE
  have hG : (A.deeper (envOfC ("_law_end" : PySem.Str) (defScope s__law_end) s.heap.objs.size f cdv)).guards = some [] := hG
  have hu := hr.units
  have hu2 := hu_more hr
  have nd := sc__law_end.nd
  exact (ss_cons (s_if (t_cmp o_lt (e_call d__law_draw hG (hr.mono (by decide)) (passXE hE) (a_cons (ev 0) (a_cons e_int a_nil))) e_int (nomark _)) (ss_one (s_ret e_non)) ss_nil)
     (ss_cons (s_if (t_cmp o_lt (ev 1) e_int (nomark _)) (ss_one (s_ret (e_callB (c_max rfl) z_max (by decide +kernel) (a_cons (e_neg e_int) (a_cons (e_callB (c_min rfl) z_min (by decide +kernel) (a_cons e_int (a_cons (e_op o_addF (ev 2) (e_ix (e_lstF (a_cons e_int (a_cons e_int (a_cons e_int (a_cons (e_call d__law_draw hG (hr.mono (by decide)) (passXE hE) (a_cons (ev 0) (a_cons e_int a_nil))) a_nil))))) (e_call d__law_draw hG (hr.mono (by decide)) (passXE hE) (a_cons (ev 0) (a_cons e_int a_nil))))) a_nil))) a_nil))))) ss_nil)
     (ss_one (s_ret (e_ix (e_lstF (a_cons (e_op o_sub (e_call d__law_draw hG (hr.mono (by decide)) (passXE hE) (a_cons (ev 0) (a_cons e_int a_nil))) e_int) (a_cons (e_op o_sub (e_call d__law_draw hG (hr.mono (by decide)) (passXE hE) (a_cons (ev 0) (a_cons e_int a_nil))) e_int) a_nil))) (e_op o_md (ev 1) e_int))))))
abbrev s__law_table : PySem.Stmt := top 16
abbrev N__law_table : List PySem.Str := [("_law_feed_here" : PySem.Str), ("_law_many" : PySem.Str), ("_law_way" : PySem.Str), ("_law_values" : PySem.Str), ("_law_p" : PySem.Str), ("_law_rows" : PySem.Str), ("_law_row" : PySem.Str), ("_law_q" : PySem.Str)]
theorem sc__law_table : FnScope N__law_table [("_law_feed_here" : PySem.Str), ("_law_many" : PySem.Str)] (defScope s__law_table) := ⟨rfl, rfl, rfl, by decide +kernel, rfl, by decide +kernel, by decide +kernel⟩
def r__law_table (sp__law_draw : Sp3) (sp__law_end : Sp3) : XK3 → TS3 := fun E =>
  (wSeq (wSet 2 (wCall sp__law_draw E (wCons (wVar 0) (wCons (wC (.int 6)) wNil))))
  (wSeq (wSet 3 (wOp oAddF (wLcF (wRng1 (wCons (wOp oSub (wVar 1) (wC (.int 1))) wNil)) (wgName 4) wYes (wOp oSub (wCall sp__law_draw X0 (wCons (wVar 0) (wCons (wC (.int 9)) wNil))) (wC (.int 4))) [4]) (wLstF (wCons (wC (.int 0)) wNil))))
  (wSeq (wSet 5 (wLst wNil))
  (wSeq (wFor (wRng1 (wCons (wVar 1) wNil)) (wgName 4) (wSeq (wSet 6 (wLc (wRng1 (wCons (wVar 1) wNil)) (wgName 7) wYes (wCall sp__law_end X0 (wCons (wVar 0) (wCons (wVar 2) (wCons (wOp oSub (wOp oIx (wVar 3) (wVar 4)) (wOp oIx (wVar 3) (wVar 7))) wNil)))) [7]))
  (wSeq (wAsg (wOp oIx (wLstF (wCons (wC .non) (wCons (wC (.int 0)) (wCons (wC .non) (wCons (wC (.int 3)) (wCons (wC (.int 0)) (wCons (wC .non) (wCons (wC (.int 12)) (wCons (wOp oMulF (wUn oNeg (wC (.int 1))) (wCB bInt (wCons (wOp (oEq false) (wVar 2) (wC (.int 5))) wNil))) wNil))))))))) (wCall sp__law_draw E (wCons (wVar 0) (wCons (wC (.int 8)) wNil)))) (wgSub (wVar 6) (wVar 4) oPut))
  (wDrop (wBM oApp (wVar 5) (wCons (wCB bTuple (wCons (wVar 6) wNil)) wNil))))))
  (wRet (wCB bTuple (wCons (wVar 5) wNil)))))))
def sp__law_table : Sp3 := spOf 2 8 (r__law_table sp__law_draw sp__law_end)
theorem ok__law_table {f : Addr} {fd : FuncData} (hm : mg ("_law_table" : PySem.Str) = some (.ref f)) (F : Fun K ("_law_table" : PySem.Str) ("_law_table" : PySem.Str) s__law_table f fd) (bd : Binds K fd [("_law_feed_here" : PySem.Str), ("_law_many" : PySem.Str)] []) (z_int : mg ("int" : PySem.Str) = none) (z_range : mg ("range" : PySem.Str) = none) (z_tuple : mg ("tuple" : PySem.Str) = none) (d__law_draw : Def3 P w K mg base (L2.CX P w) 1 ("_law_draw" : PySem.Str) sp__law_draw) (d__law_end : Def3 P w K mg base (L2.CX P w) 2 ("_law_end" : PySem.Str) sp__law_end) : Def3 P w K mg base (L2.CX P w) 3 ("_law_table" : PySem.Str) sp__law_table := by
  refine def_of (t := (r__law_table sp__law_draw sp__law_end)) hm F bd sc__law_table ?_
  intro cdv A outer s H E bs E3 hG hr hE
  have hG : (A.deeper (envOfC ("_law_table" : PySem.Str) (defScope s__law_table) s.heap.objs.size f cdv)).guards = some [] := hG
  have hu := hr.units
  have hu2 := hu_more hr
  have nd := sc__law_table.nd
  exact (ss_cons (s_set (i := 2) nd rfl (by first | exact Or.inl rfl | exact Or.inr rfl) (e_call d__law_draw hG (hr.mono (by decide)) (passXE hE) (a_cons (ev 0) (a_cons e_int a_nil))))
     (ss_cons (s_set (i := 3) nd rfl (by first | exact Or.inl rfl | exact Or.inr rfl) (e_op o_addF (e_lcF (own := [(("_law_p" : PySem.Str), 4)]) (by decide) rfl nd (w_rng1 z_range (a_cons (e_op o_sub (ev 1) e_int) a_nil)) (blkOk_by (N := N__law_table) (sc := defScope s__law_table) (by decide +kernel)) (fun _ _ _ _ _ => (g_name (i := 4) nd rfl (by first | exact Or.inl rfl | exact Or.inr rfl))) (fun _ _ _ _ _ => ts_nil) (fun _ _ _ _ _ => (e_op o_sub (e_call d__law_draw hG (hr.mono (by decide)) passX1 (a_cons (ev 0) (a_cons e_int a_nil))) e_int))) (e_lstF (a_cons e_int a_nil))))
     (ss_cons (s_set (i := 5) nd rfl (by first | exact Or.inl rfl | exact Or.inr rfl) (e_lst a_nil))
     (ss_cons (s_for (passes_of rfl) rfl (w_rng1 z_range (a_cons (ev 1) a_nil)) (g_name (i := 4) nd rfl (by first | exact Or.inl rfl | exact Or.inr rfl)) (ss_cons (s_setLc (i := 6) (own := [(("_law_q" : PySem.Str), 7)]) (by decide) rfl nd rfl rfl (sw_true rfl rfl rfl (by decide +kernel)) (w_rng1 z_range (a_cons (ev 1) a_nil)) (blkOk_by (N := N__law_table) (sc := defScope s__law_table) (by decide +kernel)) (fun _ _ _ _ _ => (g_name (i := 7) nd rfl (by first | exact Or.inl rfl | exact Or.inr rfl))) (fun _ _ _ _ _ => ts_nil) (fun _ _ _ _ _ => (e_call d__law_end hG (hr.mono (by decide)) passX1 (a_cons (ev 0) (a_cons (ev 2) (a_cons (e_op o_sub (e_ix (ev 3) (ev 4)) (e_ix (ev 3) (ev 7))) a_nil))))))
     (ss_cons (s_asg (e_ix (e_lstF (a_cons e_non (a_cons e_int (a_cons e_non (a_cons e_int (a_cons e_int (a_cons e_non (a_cons e_int (a_cons (e_op o_mulF (e_neg e_int) (e_callTy c_int z_int (by decide +kernel) (a_cons (e_cmp (o_eq hu) (ev 2) e_int (nomark _)) a_nil))) a_nil))))))))) (e_call d__law_draw hG (hr.mono (by decide)) (passXE hE) (a_cons (ev 0) (a_cons e_int a_nil)))) (g_sub (ev 6) (ev 4) p_put))
     (ss_one (s_expr (e_append (ev 5) (e_callTy c_tuple z_tuple (by decide +kernel) (a_cons (ev 6) a_nil))))))))
     (ss_one (s_ret (e_callTy c_tuple z_tuple (by decide +kernel) (a_cons (ev 5) a_nil))))))))
abbrev s__law_due : PySem.Stmt := top 17
abbrev N__law_due : List PySem.Str := [("_law_table_here" : PySem.Str), ("_law_value" : PySem.Str), ("_law_odd" : PySem.Str), ("_law_p" : PySem.Str), ("_law_whole" : PySem.Str), ("_law_k" : PySem.Str), ("_law_end_here" : PySem.Str)]
theorem sc__law_due : FnScope N__law_due [("_law_table_here" : PySem.Str), ("_law_value" : PySem.Str)] (defScope s__law_due) := ⟨rfl, rfl, rfl, by decide +kernel, rfl, by decide +kernel, by decide +kernel⟩
def r__law_due : XK3 → TS3 := fun E =>
  (wSeq (wIfS (wOr (wNot (wB (wCB bIsi (wCons (wVar 1) (wCons (wC (.ty "tuple")) wNil))))) (wB (wOp (oEq true) (wOp (oEq false) (wVar 1) (wTup wNil)) (wOp (oEq false) (wVar 0) (wTup wNil))))) (wRet (wTup (wCons (wC (.str ("shape" : PySem.Str))) (wCons (wC (.int 0)) wNil)))) wNext)
  (wSeq (wIfS (wB (wOp (oEq false) (wVar 0) (wTup wNil))) (wRet (wC (.bl true))) wNext)
  (wSeq (wSet 2 (wLcF (wItems (wVar 1)) (wgName 3) (wOr (wB (wCB bIsi (wCons (wVar 3) (wCons (wC (.ty "bool")) wNil)))) (wOr (wNot (wB (wCB bIsi (wCons (wVar 3) (wCons (wC (.ty "int")) wNil))))) (wNot (wB (wChain oLe oLt (wC (.int 0)) (wVar 3) (wCB bLen (wCons (wVar 0) wNil))))))) (wVar 3) [3]))
  (wSeq (wIfS (wOr (wB (wOp (oEq true) (wVar 2) (wLstF wNil))) (wB (wOp (oEq true) (wLenSet (wVar 1)) (wCB bLen (wCons (wVar 1) wNil))))) (wRet (wTup (wCons (wC (.str ("shape" : PySem.Str))) (wCons (wC (.int 0)) wNil)))) wNext)
  (wSeq (wSet 4 (wC (.int 0)))
  (wSeq (wFor (wRng1 (wCons (wCB bLen (wCons (wVar 1) wNil)) wNil)) (wgName 5) (wSeq (wSet 6 (wOp oIx (wOp oIx (wVar 0) (wOp oIx (wVar 1) (wVar 5))) (wOp oIx (wVar 1) (wOp oMd (wOp oAddF (wVar 5) (wC (.int 1))) (wCB bLen (wCons (wVar 1) wNil))))))
  (wSeq (wIfS (wB (wOp (oIsN false) (wVar 6) (wC .non))) (wRet (wTup (wCons (wC (.str ("end" : PySem.Str))) (wCons (wVar 5) wNil)))) wNext)
  (wSet 4 (wOp oAddF (wVar 4) (wVar 6))))))
  (wRet (wIf (wB (wOp oLt (wVar 4) (wC (.int 0)))) (wC (.bl true)) (wTup (wCons (wC (.str ("sum" : PySem.Str))) (wCons (wC (.int 0)) wNil)))))))))))
def sp__law_due : Sp3 := spOf 2 7 r__law_due
theorem ok__law_due {f : Addr} {fd : FuncData} (hm : mg ("_law_due" : PySem.Str) = some (.ref f)) (F : Fun K ("_law_due" : PySem.Str) ("_law_due" : PySem.Str) s__law_due f fd) (bd : Binds K fd [("_law_table_here" : PySem.Str), ("_law_value" : PySem.Str)] []) (z_bool : mg ("bool" : PySem.Str) = none) (z_int : mg ("int" : PySem.Str) = none) (z_isinstance : mg ("isinstance" : PySem.Str) = none) (z_len : mg ("len" : PySem.Str) = none) (z_range : mg ("range" : PySem.Str) = none) (z_set : mg ("set" : PySem.Str) = none) (z_tuple : mg ("tuple" : PySem.Str) = none) : Def3 P w K mg base (L2.CX P w) 1 ("_law_due" : PySem.Str) sp__law_due := by
  refine def_of (t := r__law_due) hm F bd sc__law_due ?_
  intro cdv A outer s H E bs E3 hG hr hE
  have hG : (A.deeper (envOfC ("_law_due" : PySem.Str) (defScope s__law_due) s.heap.objs.size f cdv)).guards = some [] := hG
  have hu := hr.units
  have hu2 := hu_more hr
  have nd := sc__law_due.nd
  exact (ss_cons (s_if (PW3.pt (t_or (t_not (t_val (e_callB c_isi z_isinstance (by decide +kernel) (a_cons (ev 1) (a_cons (e_bty z_tuple (by decide +kernel)) a_nil))))) (t_or1 (t_cmp (o_ne hu) (e_cmp (o_eq hu) (ev 1) (e_tup a_nil) (nomark _)) (e_cmp (o_eq hu) (ev 0) (e_tup a_nil) (nomark _)) (nomark _))))) (ss_one (s_ret (e_tup (a_cons e_str (a_cons e_int a_nil))))) ss_nil)
     (ss_cons (s_if (t_cmp (o_eq hu) (ev 0) (e_tup a_nil) (nomark _)) (ss_one (s_ret e_bl)) ss_nil)
     (ss_cons (s_setLcF (i := 2) (own := [(("_law_p" : PySem.Str), 3)]) (by decide) rfl nd rfl rfl (sw_true rfl rfl rfl (by decide +kernel)) (w_seq (ev 1)) (blkOk_by (N := N__law_due) (sc := defScope s__law_due) (by decide +kernel)) (fun _ _ _ _ _ => (g_name (i := 3) nd rfl (by first | exact Or.inl rfl | exact Or.inr rfl))) (fun _ _ _ _ _ => (ts_one (PW3.pt (t_or (t_val (e_callB c_isi z_isinstance (by decide +kernel) (a_cons (ev 3) (a_cons (e_bty z_bool (by decide +kernel)) a_nil)))) (t_or (t_not (t_val (e_callB c_isi z_isinstance (by decide +kernel) (a_cons (ev 3) (a_cons (e_bty z_int (by decide +kernel)) a_nil))))) (t_or1 (t_not (t_chain o_le o_lt e_int (ev 3) (e_callB c_len z_len (by decide +kernel) (a_cons (ev 0) a_nil)))))))))) (fun _ _ _ _ _ => (ev 3)))
     (ss_cons (s_if (PW3.pt (t_or (t_cmp (o_ne hu) (ev 2) (e_lstF a_nil) (nomark _)) (t_or1 (t_cmp (o_ne hu) (e_lenSet z_len z_set (ev 1)) (e_callB c_len z_len (by decide +kernel) (a_cons (ev 1) a_nil)) (nomark _))))) (ss_one (s_ret (e_tup (a_cons e_str (a_cons e_int a_nil))))) ss_nil)
     (ss_cons (s_set (i := 4) nd rfl (by first | exact Or.inl rfl | exact Or.inr rfl) e_int)
     (ss_cons (s_for (passes_of rfl) rfl (w_rng1 z_range (a_cons (e_callB c_len z_len (by decide +kernel) (a_cons (ev 1) a_nil)) a_nil)) (g_name (i := 5) nd rfl (by first | exact Or.inl rfl | exact Or.inr rfl)) (ss_cons (s_set (i := 6) nd rfl (by first | exact Or.inl rfl | exact Or.inr rfl) (e_ix (e_ix (ev 0) (e_ix (ev 1) (ev 5))) (e_ix (ev 1) (e_op o_md (e_op o_addF (ev 5) e_int) (e_callB c_len z_len (by decide +kernel) (a_cons (ev 1) a_nil))))))
     (ss_cons (s_if (t_cmp o_is (ev 6) e_non (nomark _)) (ss_one (s_ret (e_tup (a_cons e_str (a_cons (ev 5) a_nil))))) ss_nil)
     (ss_one (s_set (i := 4) nd rfl (by first | exact Or.inl rfl | exact Or.inr rfl) (e_op o_addF (ev 4) (ev 6)))))))
     (ss_one (s_ret (e_if (t_cmp o_lt (ev 4) e_int (nomark _)) e_bl (e_tup (a_cons e_str (a_cons e_int a_nil))))))))))))
abbrev s__law_told : PySem.Stmt := top 18
abbrev N__law_told : List PySem.Str := [("_law_table_here" : PySem.Str), ("_law_value" : PySem.Str), ("_law_found" : PySem.Str), ("e" : PySem.Str)]
theorem sc__law_told : FnScope N__law_told [("_law_table_here" : PySem.Str), ("_law_value" : PySem.Str)] (defScope s__law_told) := ⟨rfl, rfl, rfl, by decide +kernel, rfl, by decide +kernel, by decide +kernel⟩
def r__law_told (sp_lets_ring : Sp3) : XK3 → TS3 := fun E =>
  (wSeq (wSet 2 (wC (.str ("other" : PySem.Str))))
  (wSeq (wTryAs 3 [("NoPaper" : PySem.Str)] (fun W3 => (wSet 2 (wCallPS sp_lets_ring W3 (wCons (wVar 0) (wCons (wVar 1) wNil))))) (fun xa xn xs => (wIfS (wAnd (wB (wXis xa (wVar 3))) (wB (wXis xa (wVar 3)))) (wSet 2 (wTup (wCons (wXf xa xs ("word" : PySem.Str) (wVar 3)) (wCons (wXf xa xs ("place" : PySem.Str) (wVar 3)) wNil)))) wNext)))
  (wRet (wVar 2))))
def sp__law_told : Sp3 := spOf 2 4 (r__law_told sp_lets_ring)
theorem ok__law_told {f : Addr} {fd : FuncData} (hm : mg ("_law_told" : PySem.Str) = some (.ref f)) (F : Fun K ("_law_told" : PySem.Str) ("_law_told" : PySem.Str) s__law_told f fd) (bd : Binds K fd [("_law_table_here" : PySem.Str), ("_law_value" : PySem.Str)] []) (z_ValueError : mg ("ValueError" : PySem.Str) = none) (z_isinstance : mg ("isinstance" : PySem.Str) = none) (h__law_told_0 : HX K mg ("TurnError" : PySem.Str) [("NoPaper" : PySem.Str)]) (fx__law_told_0_place : ∀ n ∈ [("NoPaper" : PySem.Str)], FX K n ("place" : PySem.Str)) (fx__law_told_0_word : ∀ n ∈ [("NoPaper" : PySem.Str)], FX K n ("word" : PySem.Str)) (ig__law_told_0_NoPaper : IXg K mg ("NoPaper" : PySem.Str) [("NoPaper" : PySem.Str)]) (it__law_told_0_ValueError : ∀ n ∈ [("NoPaper" : PySem.Str)], IX K n (.type "ValueError")) (d_lets_ring : Def3 P w K mg base (L2.CX P w) 3 ("lets_ring" : PySem.Str) sp_lets_ring) : Def3 P w K mg base (L2.CX P w) 4 ("_law_told" : PySem.Str) sp__law_told := by
  refine def_of (t := (r__law_told sp_lets_ring)) hm F bd sc__law_told ?_
  intro cdv A outer s H E bs E3 hG hr hE
  have hG : (A.deeper (envOfC ("_law_told" : PySem.Str) (defScope s__law_told) s.heap.objs.size f cdv)).guards = some [] := hG
  have hu := hr.units
  have hu2 := hu_more hr
  have nd := sc__law_told.nd
  exact (ss_cons (s_set (i := 2) nd rfl (by first | exact Or.inl rfl | exact Or.inr rfl) e_str)
     (ss_cons (s_try_as (i := 3) (cs := [("NoPaper" : PySem.Str)]) rfl rfl nd rfl rfl h__law_told_0 (fun bs W3 pn xe tk po => (ss_one (s_set (i := 2) nd rfl (by first | exact Or.inl rfl | exact Or.inr rfl) (e_callPS d_lets_ring hG (hr.mono (by decide)) tk (a_cons (ev 0) (a_cons (ev 1) a_nil)))))) (fun bs xa oe cls xd pn xn xs hn hz hf st => (ss_one (s_if (PW3.pt (t_and (t_val (e_xisG ig__law_told_0_NoPaper hn hz hf st z_isinstance (ev 3))) (t_and1 (t_val (e_xisT it__law_told_0_ValueError hn hz hf st z_isinstance z_ValueError (by decide +kernel) (ev 3)))))) (ss_one (s_set (i := 2) nd rfl (by first | exact Or.inl rfl | exact Or.inr rfl) (e_tup (a_cons (e_xf fx__law_told_0_word hn hz hf st (ev 3)) (a_cons (e_xf fx__law_told_0_place hn hz hf st (ev 3)) a_nil))))) ss_nil))))
     (ss_one (s_ret (ev 2)))))
abbrev s__law_walked : PySem.Stmt := top 19
abbrev N__law_walked : List PySem.Str := [("_law_feed_here" : PySem.Str), ("_law_table_here" : PySem.Str), ("_law_found" : PySem.Str), ("_law_k" : PySem.Str), ("_law_row" : PySem.Str), ("_law_some" : PySem.Str), ("_law_q" : PySem.Str)]
theorem sc__law_walked : FnScope N__law_walked [("_law_feed_here" : PySem.Str), ("_law_table_here" : PySem.Str)] (defScope s__law_walked) := ⟨rfl, rfl, rfl, by decide +kernel, rfl, by decide +kernel, by decide +kernel⟩
def r__law_walked (sp__law_draw : Sp3) : XK3 → TS3 := fun E =>
  (wSeq (wSet 2 (wLst (wCons (wCall sp__law_draw E (wCons (wVar 0) (wCons (wCB bLen (wCons (wVar 1) wNil)) wNil))) wNil)))
  (wSeq (wFor (wRng1 (wCons (wCall sp__law_draw E (wCons (wVar 0) (wCons (wCB bLen (wCons (wVar 1) wNil)) wNil))) wNil)) (wgName 3) (wSeq (wSet 4 (wOp oIx (wVar 1) (wOp oIx (wVar 2) (wUn oNeg (wC (.int 1))))))
  (wSeq (wSet 5 (wLcF (wRng1 (wCons (wCB bLen (wCons (wVar 1) wNil)) wNil)) (wgName 6) (wAnd (wB (wOp (oIsN true) (wOp oIx (wVar 4) (wVar 6)) (wC .non))) (wB (wOp (oIn true) (wVar 6) (wVar 2)))) (wVar 6) [6]))
  (wIfS (wB (wOp (oEq true) (wVar 5) (wLstF wNil))) (wDrop (wBM oApp (wVar 2) (wCons (wOp oIx (wVar 5) (wCall sp__law_draw E (wCons (wVar 0) (wCons (wCB bLen (wCons (wVar 5) wNil)) wNil)))) wNil))) wNext))))
  (wRet (wCB bTuple (wCons (wVar 2) wNil)))))
def sp__law_walked : Sp3 := spOf 2 7 (r__law_walked sp__law_draw)
theorem ok__law_walked {f : Addr} {fd : FuncData} (hm : mg ("_law_walked" : PySem.Str) = some (.ref f)) (F : Fun K ("_law_walked" : PySem.Str) ("_law_walked" : PySem.Str) s__law_walked f fd) (bd : Binds K fd [("_law_feed_here" : PySem.Str), ("_law_table_here" : PySem.Str)] []) (z_len : mg ("len" : PySem.Str) = none) (z_range : mg ("range" : PySem.Str) = none) (z_tuple : mg ("tuple" : PySem.Str) = none) (d__law_draw : Def3 P w K mg base (L2.CX P w) 1 ("_law_draw" : PySem.Str) sp__law_draw) : Def3 P w K mg base (L2.CX P w) 2 ("_law_walked" : PySem.Str) sp__law_walked := by
  refine def_of (t := (r__law_walked sp__law_draw)) hm F bd sc__law_walked ?_
  intro cdv A outer s H E bs E3 hG hr hE
  have hG : (A.deeper (envOfC ("_law_walked" : PySem.Str) (defScope s__law_walked) s.heap.objs.size f cdv)).guards = some [] := hG
  have hu := hr.units
  have hu2 := hu_more hr
  have nd := sc__law_walked.nd
  exact (ss_cons (s_set (i := 2) nd rfl (by first | exact Or.inl rfl | exact Or.inr rfl) (e_lst (a_cons (e_call d__law_draw hG (hr.mono (by decide)) (passXE hE) (a_cons (ev 0) (a_cons (e_callB c_len z_len (by decide +kernel) (a_cons (ev 1) a_nil)) a_nil))) a_nil)))
     (ss_cons (s_for (passes_of rfl) rfl (w_rng1 z_range (a_cons (e_call d__law_draw hG (hr.mono (by decide)) (passXE hE) (a_cons (ev 0) (a_cons (e_callB c_len z_len (by decide +kernel) (a_cons (ev 1) a_nil)) a_nil))) a_nil)) (g_name (i := 3) nd rfl (by first | exact Or.inl rfl | exact Or.inr rfl)) (ss_cons (s_set (i := 4) nd rfl (by first | exact Or.inl rfl | exact Or.inr rfl) (e_ix (ev 1) (e_ix (ev 2) (e_neg e_int))))
     (ss_cons (s_setLcF (i := 5) (own := [(("_law_q" : PySem.Str), 6)]) (by decide) rfl nd rfl rfl (sw_true rfl rfl rfl (by decide +kernel)) (w_rng1 z_range (a_cons (e_callB c_len z_len (by decide +kernel) (a_cons (ev 1) a_nil)) a_nil)) (blkOk_by (N := N__law_walked) (sc := defScope s__law_walked) (by decide +kernel)) (fun _ _ _ _ _ => (g_name (i := 6) nd rfl (by first | exact Or.inl rfl | exact Or.inr rfl))) (fun _ _ _ _ _ => (ts_one (PW3.pt (t_and (t_cmp o_isnot (e_ix (ev 4) (ev 6)) e_non (nomark _)) (t_and1 (t_cmp o_notin (ev 6) (ev 2) rfl)))))) (fun _ _ _ _ _ => (ev 6)))
     (ss_one (s_if (t_cmp (o_ne hu) (ev 5) (e_lstF a_nil) (nomark _)) (ss_one (s_expr (e_append (ev 2) (e_ix (ev 5) (e_call d__law_draw hG (hr.mono (by decide)) (passXE hE) (a_cons (ev 0) (a_cons (e_callB c_len z_len (by decide +kernel) (a_cons (ev 5) a_nil)) a_nil))))))) ss_nil)))))
     (ss_one (s_ret (e_callTy c_tuple z_tuple (by decide +kernel) (a_cons (ev 2) a_nil))))))
abbrev s__law_bent : PySem.Stmt := top 20
abbrev N__law_bent : List PySem.Str := [("_law_feed_here" : PySem.Str), ("_law_value" : PySem.Str), ("_law_many" : PySem.Str), ("_law_at" : PySem.Str), ("_law_way" : PySem.Str), ("_law_odd" : PySem.Str)]
theorem sc__law_bent : FnScope N__law_bent [("_law_feed_here" : PySem.Str), ("_law_value" : PySem.Str), ("_law_many" : PySem.Str)] (defScope s__law_bent) := ⟨rfl, rfl, rfl, by decide +kernel, rfl, by decide +kernel, by decide +kernel⟩
def r__law_bent (sp__law_draw : Sp3) : XK3 → TS3 := fun E =>
  (wSeq (wIfS (wOr (wNot (wB (wCB bIsi (wCons (wVar 1) (wCons (wC (.ty "tuple")) wNil))))) (wB (wOp (oEq false) (wVar 1) (wTup wNil)))) (wRet (wOp oIx (wLstF (wCons (wC .non) (wCons (wLstF wNil) (wCons (wTup (wCons (wC (.int 0)) wNil)) (wCons (wTup (wCons (wTup wNil) wNil)) (wCons (wC (.str ("" : PySem.Str))) (wCons (wC (.int 0)) (wCons (wTup (wCons (wC (.bl true)) wNil)) (wCons (wTup (wCons (wC (.str ("a" : PySem.Str))) wNil)) wNil))))))))) (wCall sp__law_draw E (wCons (wVar 0) (wCons (wC (.int 8)) wNil))))) wNext)
  (wSeq (wSet 3 (wCall sp__law_draw E (wCons (wVar 0) (wCons (wCB bLen (wCons (wVar 1) wNil)) wNil))))
  (wSeq (wSet 4 (wCall sp__law_draw E (wCons (wVar 0) (wCons (wC (.int 8)) wNil))))
  (wSeq (wIfS (wB (wOp (oEq false) (wVar 4) (wC (.int 0)))) (wRet (wOp oAddF (wSlF (wVar 1) (wPart (wVar 3)) wNoPart) (wSlF (wVar 1) wNoPart (wPart (wVar 3))))) wNext)
  (wSeq (wIfS (wB (wOp (oEq false) (wVar 4) (wC (.int 1)))) (wRet (wOp oAddF (wSlF (wVar 1) wNoPart (wPart (wVar 3))) (wSlF (wVar 1) (wPart (wOp oAddF (wVar 3) (wC (.int 1)))) wNoPart))) wNext)
  (wSeq (wIfS (wB (wOp (oEq false) (wVar 4) (wC (.int 2)))) (wRet (wOp oAddF (wVar 1) (wSlF (wVar 1) (wPart (wVar 3)) (wPart (wOp oAddF (wVar 3) (wC (.int 1))))))) wNext)
  (wSeq (wIfS (wB (wOp (oEq false) (wVar 4) (wC (.int 3)))) (wRet (wCB bListF (wCons (wVar 1) wNil))) wNext)
  (wSeq (wIfS (wB (wOp (oEq false) (wVar 4) (wC (.int 4)))) (wRet (wRevF (wVar 1))) wNext)
  (wSeq (wSet 5 (wOp oIx (wLstF (wCons (wVar 2) (wCons (wUn oNeg (wC (.int 1))) (wCons (wC (.bl true)) (wCons (wC (.bl false)) (wCons (wC .non) (wCons (wC (.str ("0" : PySem.Str))) (wCons (wTup (wCons (wC (.int 0)) wNil)) (wCons (wOp oSub (wVar 2) (wC (.int 1))) (wCons (wOp oPw (wC (.int 10)) (wC (.int 30))) wNil)))))))))) (wCall sp__law_draw E (wCons (wVar 0) (wCons (wC (.int 9)) wNil)))))
  (wRet (wOp oAddF (wOp oAddF (wSlF (wVar 1) wNoPart (wPart (wVar 3))) (wTup (wCons (wVar 5) wNil))) (wSlF (wVar 1) (wPart (wOp oAddF (wVar 3) (wC (.int 1)))) wNoPart))))))))))))
def sp__law_bent : Sp3 := spOf 3 6 (r__law_bent sp__law_draw)
theorem ok__law_bent {f : Addr} {fd : FuncData} (hm : mg ("_law_bent" : PySem.Str) = some (.ref f)) (F : Fun K ("_law_bent" : PySem.Str) ("_law_bent" : PySem.Str) s__law_bent f fd) (bd : Binds K fd [("_law_feed_here" : PySem.Str), ("_law_value" : PySem.Str), ("_law_many" : PySem.Str)] []) (z_isinstance : mg ("isinstance" : PySem.Str) = none) (z_len : mg ("len" : PySem.Str) = none) (z_list : mg ("list" : PySem.Str) = none) (z_tuple : mg ("tuple" : PySem.Str) = none) (d__law_draw : Def3 P w K mg base (L2.CX P w) 1 ("_law_draw" : PySem.Str) sp__law_draw) : Def3 P w K mg base (L2.CX P w) 2 ("_law_bent" : PySem.Str) sp__law_bent := by
  refine def_of (t := (r__law_bent sp__law_draw)) hm F bd sc__law_bent ?_
  intro cdv A outer s H E bs E3 hG hr hE
  have hG : (A.deeper (envOfC ("_law_bent" : PySem.Str) (defScope s__law_bent) s.heap.objs.size f cdv)).guards = some [] := hG
  have hu := hr.units
  have hu2 := hu_more hr
  have nd := sc__law_bent.nd
  exact (ss_cons (s_if (PW3.pt (t_or (t_not (t_val (e_callB c_isi z_isinstance (by decide +kernel) (a_cons (ev 1) (a_cons (e_bty z_tuple (by decide +kernel)) a_nil))))) (t_or1 (t_cmp (o_eq hu) (ev 1) (e_tup a_nil) (nomark _))))) (ss_one (s_ret (e_ix (e_lstF (a_cons e_non (a_cons (e_lstF a_nil) (a_cons (e_tup (a_cons e_int a_nil)) (a_cons (e_tup (a_cons (e_tup a_nil) a_nil)) (a_cons e_str (a_cons e_int (a_cons (e_tup (a_cons e_bl a_nil)) (a_cons (e_tup (a_cons e_str a_nil)) a_nil))))))))) (e_call d__law_draw hG (hr.mono (by decide)) (passXE hE) (a_cons (ev 0) (a_cons e_int a_nil)))))) ss_nil)
     (ss_cons (s_set (i := 3) nd rfl (by first | exact Or.inl rfl | exact Or.inr rfl) (e_call d__law_draw hG (hr.mono (by decide)) (passXE hE) (a_cons (ev 0) (a_cons (e_callB c_len z_len (by decide +kernel) (a_cons (ev 1) a_nil)) a_nil))))
     (ss_cons (s_set (i := 4) nd rfl (by first | exact Or.inl rfl | exact Or.inr rfl) (e_call d__law_draw hG (hr.mono (by decide)) (passXE hE) (a_cons (ev 0) (a_cons e_int a_nil))))
     (ss_cons (s_if (t_cmp (o_eq hu) (ev 4) e_int (nomark _)) (ss_one (s_ret (e_op o_addF (e_sliceF (ev 1) (p_some (ev 3)) p_none) (e_sliceF (ev 1) p_none (p_some (ev 3)))))) ss_nil)
     (ss_cons (s_if (t_cmp (o_eq hu) (ev 4) e_int (nomark _)) (ss_one (s_ret (e_op o_addF (e_sliceF (ev 1) p_none (p_some (ev 3))) (e_sliceF (ev 1) (p_some (e_op o_addF (ev 3) e_int)) p_none)))) ss_nil)
     (ss_cons (s_if (t_cmp (o_eq hu) (ev 4) e_int (nomark _)) (ss_one (s_ret (e_op o_addF (ev 1) (e_sliceF (ev 1) (p_some (ev 3)) (p_some (e_op o_addF (ev 3) e_int)))))) ss_nil)
     (ss_cons (s_if (t_cmp (o_eq hu) (ev 4) e_int (nomark _)) (ss_one (s_ret (e_callTy c_listF z_list (by decide +kernel) (a_cons (ev 1) a_nil)))) ss_nil)
     (ss_cons (s_if (t_cmp (o_eq hu) (ev 4) e_int (nomark _)) (ss_one (s_ret (e_revF (ev 1)))) ss_nil)
     (ss_cons (s_set (i := 5) nd rfl (by first | exact Or.inl rfl | exact Or.inr rfl) (e_ix (e_lstF (a_cons (ev 2) (a_cons (e_neg e_int) (a_cons e_bl (a_cons e_bl (a_cons e_non (a_cons e_str (a_cons (e_tup (a_cons e_int a_nil)) (a_cons (e_op o_sub (ev 2) e_int) (a_cons (e_op o_pw e_int e_int) a_nil)))))))))) (e_call d__law_draw hG (hr.mono (by decide)) (passXE hE) (a_cons (ev 0) (a_cons e_int a_nil)))))
     (ss_one (s_ret (e_op o_addF (e_op o_addF (e_sliceF (ev 1) p_none (p_some (ev 3))) (e_tup (a_cons (ev 5) a_nil))) (e_sliceF (ev 1) (p_some (e_op o_addF (ev 3) e_int)) p_none)))))))))))))
abbrev s_law : PySem.Stmt := top 21
abbrev N_law : List PySem.Str := [("_law_script" : PySem.Str), ("_law_feed_here" : PySem.Str), ("_law_turn" : PySem.Str), ("_law_many" : PySem.Str), ("_law_table_here" : PySem.Str), ("_law_values" : PySem.Str), ("_law_k" : PySem.Str), ("_law_value" : PySem.Str), ("_law_one" : PySem.Str), ("_law_stood" : PySem.Str)]
theorem sc_law : FnScope N_law [("_law_script" : PySem.Str)] (defScope s_law) := ⟨rfl, rfl, rfl, by decide +kernel, rfl, by decide +kernel, by decide +kernel⟩
def r_law (sp__law_feed : Sp3) (sp__law_draw : Sp3) (sp__law_table : Sp3) (sp_ring_of : Sp3) (sp__law_walked : Sp3) (sp__law_bent : Sp3) (sp__law_told : Sp3) (sp__law_due : Sp3) : XK3 → TS3 := fun E =>
  (wSeq (wSet 1 (wCall sp__law_feed E (wCons (wVar 0) wNil)))
  (wSeq (wFor (wRng1 (wCons (wCB bMax (wCons (wC (.int 3)) (wCons (wCB bMin (wCons (wCB bLen (wCons (wVar 0) wNil)) (wCons (wC (.int 8)) wNil))) wNil))) wNil)) (wgName 2) (wSeq (wSet 3 (wOp oAddF (wC (.int 1)) (wCall sp__law_draw E (wCons (wVar 1) (wCons (wC (.int 7)) wNil)))))
  (wSeq (wSet 4 (wOp oIx (wLstF (wCons (wCall sp__law_table E (wCons (wVar 1) (wCons (wVar 3) wNil))) (wCons (wCall sp__law_table E (wCons (wVar 1) (wCons (wVar 3) wNil))) (wCons (wTup wNil) wNil)))) (wCB bMax (wCons (wC (.int 0)) (wCons (wOp oSub (wCall sp__law_draw E (wCons (wVar 1) (wCons (wC (.int 8)) wNil))) (wC (.int 5))) wNil)))))
  (wSeq (wSet 5 (wLstF (wCons (wCallP sp_ring_of E (wCons (wVar 4) wNil)) (wCons (wTup wNil) (wCons (wC .non) (wCons (wTup (wCons (wTup wNil) wNil)) wNil))))))
  (wSeq (wIfS (wB (wOp (oEq true) (wVar 4) (wTup wNil))) (wSet 5 (wOp oAddF (wVar 5) (wLcF (wRng1 (wCons (wC (.int 4)) wNil)) (wgName 6) wYes (wCall sp__law_walked X0 (wCons (wVar 1) (wCons (wVar 4) wNil))) [6]))) wNext)
  (wFor (wItems (wOp oAddF (wVar 5) (wLcF (wItems (wVar 5)) (wgName 8) wYes (wCall sp__law_bent X0 (wCons (wVar 1) (wCons (wVar 8) (wCons (wVar 3) wNil)))) [8]))) (wgName 7) (wSeq (wSet 9 (wCB bRepr (wCons (wTup (wCons (wVar 4) (wCons (wVar 7) wNil))) wNil)))
  (wIfS (wOr (wB (wOp (oEq true) (wCB bRepr (wCons (wCallP sp__law_told E (wCons (wVar 4) (wCons (wVar 7) wNil))) wNil)) (wCB bRepr (wCons (wCallP sp__law_due E (wCons (wVar 4) (wCons (wVar 7) wNil))) wNil)))) (wB (wOp (oEq true) (wCB bRepr (wCons (wTup (wCons (wVar 4) (wCons (wVar 7) wNil))) wNil)) (wVar 9)))) (wRet (wC (.bl false))) wNext))))))))
  (wRet (wC (.bl true)))))
def sp_law : Sp3 := spOf 1 10 (r_law sp__law_feed sp__law_draw sp__law_table sp_ring_of sp__law_walked sp__law_bent sp__law_told sp__law_due)
theorem ok_law {f : Addr} {fd : FuncData} (F : Fun K ("law" : PySem.Str) ("law" : PySem.Str) s_law f fd) (z_len : mg ("len" : PySem.Str) = none) (z_max : mg ("max" : PySem.Str) = none) (z_min : mg ("min" : PySem.Str) = none) (z_range : mg ("range" : PySem.Str) = none) (z_repr : mg ("repr" : PySem.Str) = none) (d__law_feed : Def3 P w K mg base (L2.CX P w) 1 ("_law_feed" : PySem.Str) sp__law_feed) (d__law_draw : Def3 P w K mg base (L2.CX P w) 1 ("_law_draw" : PySem.Str) sp__law_draw) (d__law_table : Def3 P w K mg base (L2.CX P w) 3 ("_law_table" : PySem.Str) sp__law_table) (d_ring_of : Def3 P w K mg base (L2.CX P w) 3 ("ring_of" : PySem.Str) sp_ring_of) (d__law_walked : Def3 P w K mg base (L2.CX P w) 2 ("_law_walked" : PySem.Str) sp__law_walked) (d__law_bent : Def3 P w K mg base (L2.CX P w) 2 ("_law_bent" : PySem.Str) sp__law_bent) (d__law_told : Def3 P w K mg base (L2.CX P w) 4 ("_law_told" : PySem.Str) sp__law_told) (d__law_due : Def3 P w K mg base (L2.CX P w) 1 ("_law_due" : PySem.Str) sp__law_due) : FnG P w K mg base (L2.CX P w) 5 f fd [("_law_script" : PySem.Str)] (liftSp K sp_law) := by
  refine fng_of (t := (r_law sp__law_feed sp__law_draw sp__law_table sp_ring_of sp__law_walked sp__law_bent sp__law_told sp__law_due)) F sc_law ?_
  intro cdv A outer s H E bs E3 hG hr hE
  have hG : (A.deeper (envOfC ("law" : PySem.Str) (defScope s_law) s.heap.objs.size f cdv)).guards = some [] := hG
  have hu := hr.units
  have hu2 := hu_more hr
  have nd := sc_law.nd
  exact (ss_cons (s_set (i := 1) nd rfl (by first | exact Or.inl rfl | exact Or.inr rfl) (e_call d__law_feed hG (hr.mono (by decide)) (passXE hE) (a_cons (ev 0) a_nil)))
     (ss_cons (s_for (passes_of rfl) rfl (w_rng1 z_range (a_cons (e_callB (c_max rfl) z_max (by decide +kernel) (a_cons e_int (a_cons (e_callB (c_min rfl) z_min (by decide +kernel) (a_cons (e_callB c_len z_len (by decide +kernel) (a_cons (ev 0) a_nil)) (a_cons e_int a_nil))) a_nil))) a_nil)) (g_name (i := 2) nd rfl (by first | exact Or.inl rfl | exact Or.inr rfl)) (ss_cons (s_set (i := 3) nd rfl (by first | exact Or.inl rfl | exact Or.inr rfl) (e_op o_addF e_int (e_call d__law_draw hG (hr.mono (by decide)) (passXE hE) (a_cons (ev 1) (a_cons e_int a_nil)))))
     (ss_cons (s_set (i := 4) nd rfl (by first | exact Or.inl rfl | exact Or.inr rfl) (e_ix (e_lstF (a_cons (e_call d__law_table hG (hr.mono (by decide)) (passXE hE) (a_cons (ev 1) (a_cons (ev 3) a_nil))) (a_cons (e_call d__law_table hG (hr.mono (by decide)) (passXE hE) (a_cons (ev 1) (a_cons (ev 3) a_nil))) (a_cons (e_tup a_nil) a_nil)))) (e_callB (c_max rfl) z_max (by decide +kernel) (a_cons e_int (a_cons (e_op o_sub (e_call d__law_draw hG (hr.mono (by decide)) (passXE hE) (a_cons (ev 1) (a_cons e_int a_nil))) e_int) a_nil)))))
     (ss_cons (s_set (i := 5) nd rfl (by first | exact Or.inl rfl | exact Or.inr rfl) (e_lstF (a_cons (e_callP d_ring_of hG (hr.mono (by decide)) (passXE hE) (a_cons (ev 4) a_nil)) (a_cons (e_tup a_nil) (a_cons e_non (a_cons (e_tup (a_cons (e_tup a_nil) a_nil)) a_nil))))))
     (ss_cons (s_if (t_cmp (o_ne hu) (ev 4) (e_tup a_nil) (nomark _)) (ss_one (s_set (i := 5) nd rfl (by first | exact Or.inl rfl | exact Or.inr rfl) (e_op o_addF (ev 5) (e_lcF (own := [(("_law_k" : PySem.Str), 6)]) (by decide) rfl nd (w_rng1 z_range (a_cons e_int a_nil)) (blkOk_by (N := N_law) (sc := defScope s_law) (by decide +kernel)) (fun _ _ _ _ _ => (g_name (i := 6) nd rfl (by first | exact Or.inl rfl | exact Or.inr rfl))) (fun _ _ _ _ _ => ts_nil) (fun _ _ _ _ _ => (e_call d__law_walked hG (hr.mono (by decide)) passX1 (a_cons (ev 1) (a_cons (ev 4) a_nil)))))))) ss_nil)
     (ss_one (s_for (passes_of rfl) rfl (w_seq (e_op o_addF (ev 5) (e_lcF (own := [(("_law_one" : PySem.Str), 8)]) (by decide) rfl nd (w_seq (ev 5)) (blkOk_by (N := N_law) (sc := defScope s_law) (by decide +kernel)) (fun _ _ _ _ _ => (g_name (i := 8) nd rfl (by first | exact Or.inl rfl | exact Or.inr rfl))) (fun _ _ _ _ _ => ts_nil) (fun _ _ _ _ _ => (e_call d__law_bent hG (hr.mono (by decide)) passX1 (a_cons (ev 1) (a_cons (ev 8) (a_cons (ev 3) a_nil)))))))) (g_name (i := 7) nd rfl (by first | exact Or.inl rfl | exact Or.inr rfl)) (ss_cons (s_set (i := 9) nd rfl (by first | exact Or.inl rfl | exact Or.inr rfl) (e_callB (c_repr hG hu2) z_repr (by decide +kernel) (a_cons (e_tup (a_cons (ev 4) (a_cons (ev 7) a_nil))) a_nil)))
     (ss_one (s_if (PW3.pt (t_or (t_cmp (o_ne hu) (e_callB (c_repr hG hu2) z_repr (by decide +kernel) (a_cons (e_callP d__law_told hG (hr.mono (by decide)) (passXE hE) (a_cons (ev 4) (a_cons (ev 7) a_nil))) a_nil)) (e_callB (c_repr hG hu2) z_repr (by decide +kernel) (a_cons (e_callP d__law_due hG (hr.mono (by decide)) (passXE hE) (a_cons (ev 4) (a_cons (ev 7) a_nil))) a_nil)) (nomark _)) (t_or1 (t_cmp (o_ne hu) (e_callB (c_repr hG hu2) z_repr (by decide +kernel) (a_cons (e_tup (a_cons (ev 4) (a_cons (ev 7) a_nil))) a_nil)) (ev 9) (nomark _))))) (ss_one (s_ret e_bl)) ss_nil))))))))))
     (ss_one (s_ret e_bl))))
end
end W
set_option Elab.async false
set_option linter.all false
set_option maxRecDepth 100000
set_option maxHeartbeats 4000000
namespace W
open PySem PySem.Spec PyProof.Rows L2 L3
theorem m_joined : SJoined sp_joined := L3.s_joined
theorem m_loosen : SLoosen sp_loosen := L3.s_loosen m_joined
theorem m_ring : SRing sp_ring_of := L3.s_ring m_loosen
theorem m_ring0 : SRing0 sp_ring_of := L3.s_ring0
theorem m_isInt : SIsInt sp_is_integer := L3.s_isInt
theorem m_isRing : SIsRingP sp_is_ring := L3.s_isRingP m_isInt
theorem m_lets : SLets sp_lets_ring := L3.s_lets m_isRing
theorem m_feed : SFeed7 sp__law_feed := L3.s_feed7
theorem m_draw : SDraw7 sp__law_draw := L3.s_draw7
theorem m_end : SEnd7 sp__law_end := L3.s_end7 m_draw
theorem m_table : STab7 sp__law_table := L3.s_tab7 m_draw m_end
theorem st_tryAs {i : Nat} {cs : List Str} {tb : (St3 → XK3) → TS3} {ts : Addr → Str → List (Str × D) → TS3} {E : Ends3} {τ : St3} {M : Mp} : wTryAs i cs tb ts E τ M = tb (fun τ' n fs M' => n ∈ cs ∧ ∀ a, M' a = none → ts a n fs { nx := fun τ2 M2 => E.nx (setS τ2 i none) M2, rt := E.rt, bk := fun τ2 M2 => E.bk (setS τ2 i none) M2, ct := fun τ2 M2 => E.ct (setS τ2 i none) M2 } (setS τ' i (some (.ref a))) M') E τ M := rfl
theorem ex_callPS {sp : Sp3} {W3 : St3 → XK3} {t : TA3} {τ : St3} {M : Mp} {Q : VK3} : wCallPS sp W3 t τ M Q = t τ M fun ds M1 => sp ds M0 (fun d _ => Q d M1) (fun n fs _ => W3 τ n fs M1) := rfl
theorem ex_xis {a : Addr} {te : TE3} {τ : St3} {M : Mp} {Q : VK3} : wXis a te τ M Q = te τ M fun d M1 => isRef a d ∧ Q (.bl true) M1 := rfl
theorem ex_xf {a : Addr} {xs : List (Str × D)} {f : Str} {te : TE3} {τ : St3} {M : Mp} {Q : VK3} : wXf a xs f te τ M Q = te τ M fun d M1 => isRef a d ∧ asS (xs.lookup f) fun v => Q v M1 := rfl
theorem isRef_s {a : Addr} : isRef a (.ref a) = True := eq_true rfl
theorem lookup_putD (f g : Str) (y : D) (fs : List (Str × D)) : ((f, y) :: fs).lookup g = if g = f then some y else fs.lookup g := by
  by_cases h : g = f
  · subst h; simp [List.lookup]
  · have e : (g == f) = false := by simpa using h
    rw [if_neg h]; simp [List.lookup, e]
theorem pf_word {w : Str} {k : Nat} : (paperF w k).lookup ("word" : Str) = some (.str w) := by
  unfold paperF
  rw [lookup_putD, lookup_putD]
  rfl
theorem pf_place {w : Str} {k : Nat} : (paperF w k).lookup ("place" : Str) = some (.int (k : Nat)) := by
  unfold paperF
  rw [lookup_putD]
  rfl
def toldD : Option (Str × Nat) → D
  | none => .bl true
  | some (w, k) => .tup [.str w, .int (k : Nat)]
def STold (sp : Sp3) : Prop := ∀ (n B : Nat) (T : Tab) (d : D) (Q : VK3) (E : XK3), n ≤ 1000 → (T = [] ∨ (TabB B n T ∧ 0 < n)) → PlS d → (∀ v, ToldV n T d v → ∀ M, Q (toldD v) M) → sp [tabD T, d] M0 Q E
theorem s_told {sl : Sp3} (kl : SLets sl) : STold (spOf 2 4 (r__law_told sl)) := by
  refine fun n B T d Q E hn hT hd q => ⟨rfl, ?_⟩
  have big : (1000000 : Nat) ≤ sizeLine := by decide
  show r__law_told sl E _ [some (tabD T), some d, none, none] M0
  unfold r__law_told
  rw [st_seq, st_set]
  simp only [ex_c, ex_var, ex_op, ex_un, ex_b, ex_and, ex_or, ex_not, ex_andV, ex_orV, ex_notV, ex_if, ex_chain, ex_nil, ex_cons, ex_tup, ex_lst, ex_call, ex_callP, ex_cb, ex_bm, ex_rep, ex_sl, ex_noPart, ex_part, ex_yes, it_items, it_rng1, it_rng2, tg_name, tg_sub, tg_tup, tg_cons, tg_nil, gs_0, gs_s, ss_0, ss_s, op_ii, op_ss, op_tt, op_mm, op_sb, op_ng, op_iNf, op_iNt, op_lle, op_ixT, op_ixR, op_ixL, op_putE, op_appE, it_tupE, it_rolE, it_refE, lstOf_l, exL, asS_some, asI_int, asB_bl, asL_some, asN_some, ite3_t, ite3_f, bl_1, bl_lenT, bl_lenR, bl_lenL, bl_lenS, bl_tuple, bl_list, bl_abs, bl_intI, bl_intB, bl_max, bl_min, op_eqSf, op_eqSt, op_eqIf, op_eqIt, op_eqTf, op_eqTt, op_eqRf, op_eqRt, op_eqNf, op_eqNt, eqD_int, eqD_nil, pl_int, pl_nil, pl_non, pl_rnil, pl_bl, sl_tupE, sl_rolE, keep_ref, keep_tup, keep_rol, tp_int, tp_tup, tp_rol, tp_str, tp_bl, tp_non, tp_ref, oFd, oMd, oPw, oShl, oLt, oLe, oGt, oGe, op_in, op_cp, wipe_nil, wipe_cons, mset_same, true_and, and_true, isN_int, ex_lstF, ex_repF, ex_lgF1, ex_lgF2, ex_tupRg1, ex_tupRg2, ex_frz, ex_slF, ex_slM, sl_tupF, sl_rolF, op_iiF, op_ssF, op_ttF, op_rrF, op_rrM, op_mmF, op_repF, li_rol, li_ref, bl_listF, bl_allF, bl_anyF, asT_some, asJ_some, op_eqBf, op_eqBt, isN_non, Bool.not_true, Bool.not_false, rep2]
  try dsimp only
  rw [st_seq, st_tryAs]
  dsimp only
  rw [st_set]
  simp only [ex_c, ex_var, ex_op, ex_un, ex_b, ex_and, ex_or, ex_not, ex_andV, ex_orV, ex_notV, ex_if, ex_chain, ex_nil, ex_cons, ex_tup, ex_lst, ex_call, ex_callP, ex_cb, ex_bm, ex_rep, ex_sl, ex_noPart, ex_part, ex_yes, it_items, it_rng1, it_rng2, tg_name, tg_sub, tg_tup, tg_cons, tg_nil, gs_0, gs_s, ss_0, ss_s, op_ii, op_ss, op_tt, op_mm, op_sb, op_ng, op_iNf, op_iNt, op_lle, op_ixT, op_ixR, op_ixL, op_putE, op_appE, it_tupE, it_rolE, it_refE, lstOf_l, exL, asS_some, asI_int, asB_bl, asL_some, asN_some, ite3_t, ite3_f, bl_1, bl_lenT, bl_lenR, bl_lenL, bl_lenS, bl_tuple, bl_list, bl_abs, bl_intI, bl_intB, bl_max, bl_min, op_eqSf, op_eqSt, op_eqIf, op_eqIt, op_eqTf, op_eqTt, op_eqRf, op_eqRt, op_eqNf, op_eqNt, eqD_int, eqD_nil, pl_int, pl_nil, pl_non, pl_rnil, pl_bl, sl_tupE, sl_rolE, keep_ref, keep_tup, keep_rol, tp_int, tp_tup, tp_rol, tp_str, tp_bl, tp_non, tp_ref, oFd, oMd, oPw, oShl, oLt, oLe, oGt, oGe, op_in, op_cp, wipe_nil, wipe_cons, mset_same, true_and, and_true, isN_int, ex_lstF, ex_repF, ex_lgF1, ex_lgF2, ex_tupRg1, ex_tupRg2, ex_frz, ex_slF, ex_slM, sl_tupF, sl_rolF, op_iiF, op_ssF, op_ttF, op_rrF, op_rrM, op_mmF, op_repF, li_rol, li_ref, bl_listF, bl_allF, bl_anyF, asT_some, asJ_some, op_eqBf, op_eqBt, isN_non, Bool.not_true, Bool.not_false, rep2, ex_callPS]
  refine kl n B T d _ _ hn hT hd (fun h _ => ?_) (fun w k h _ => ?_)
  · try dsimp only
    rw [st_ret]
    simp only [ex_c, ex_var, ex_op, ex_un, ex_b, ex_and, ex_or, ex_not, ex_andV, ex_orV, ex_notV, ex_if, ex_chain, ex_nil, ex_cons, ex_tup, ex_lst, ex_call, ex_callP, ex_cb, ex_bm, ex_rep, ex_sl, ex_noPart, ex_part, ex_yes, it_items, it_rng1, it_rng2, tg_name, tg_sub, tg_tup, tg_cons, tg_nil, gs_0, gs_s, ss_0, ss_s, op_ii, op_ss, op_tt, op_mm, op_sb, op_ng, op_iNf, op_iNt, op_lle, op_ixT, op_ixR, op_ixL, op_putE, op_appE, it_tupE, it_rolE, it_refE, lstOf_l, exL, asS_some, asI_int, asB_bl, asL_some, asN_some, ite3_t, ite3_f, bl_1, bl_lenT, bl_lenR, bl_lenL, bl_lenS, bl_tuple, bl_list, bl_abs, bl_intI, bl_intB, bl_max, bl_min, op_eqSf, op_eqSt, op_eqIf, op_eqIt, op_eqTf, op_eqTt, op_eqRf, op_eqRt, op_eqNf, op_eqNt, eqD_int, eqD_nil, pl_int, pl_nil, pl_non, pl_rnil, pl_bl, sl_tupE, sl_rolE, keep_ref, keep_tup, keep_rol, tp_int, tp_tup, tp_rol, tp_str, tp_bl, tp_non, tp_ref, oFd, oMd, oPw, oShl, oLt, oLe, oGt, oGe, op_in, op_cp, wipe_nil, wipe_cons, mset_same, true_and, and_true, isN_int, ex_lstF, ex_repF, ex_lgF1, ex_lgF2, ex_tupRg1, ex_tupRg2, ex_frz, ex_slF, ex_slM, sl_tupF, sl_rolF, op_iiF, op_ssF, op_ttF, op_rrF, op_rrM, op_mmF, op_repF, li_rol, li_ref, bl_listF, bl_allF, bl_anyF, asT_some, asJ_some, op_eqBf, op_eqBt, isN_non, Bool.not_true, Bool.not_false, rep2]
    exact q _ h _
  · refine ⟨by simp, fun x hx => ?_⟩
    rw [st_if]
    simp only [ex_c, ex_var, ex_op, ex_un, ex_b, ex_and, ex_or, ex_not, ex_andV, ex_orV, ex_notV, ex_if, ex_chain, ex_nil, ex_cons, ex_tup, ex_lst, ex_call, ex_callP, ex_cb, ex_bm, ex_rep, ex_sl, ex_noPart, ex_part, ex_yes, it_items, it_rng1, it_rng2, tg_name, tg_sub, tg_tup, tg_cons, tg_nil, gs_0, gs_s, ss_0, ss_s, op_ii, op_ss, op_tt, op_mm, op_sb, op_ng, op_iNf, op_iNt, op_lle, op_ixT, op_ixR, op_ixL, op_putE, op_appE, it_tupE, it_rolE, it_refE, lstOf_l, exL, asS_some, asI_int, asB_bl, asL_some, asN_some, ite3_t, ite3_f, bl_1, bl_lenT, bl_lenR, bl_lenL, bl_lenS, bl_tuple, bl_list, bl_abs, bl_intI, bl_intB, bl_max, bl_min, op_eqSf, op_eqSt, op_eqIf, op_eqIt, op_eqTf, op_eqTt, op_eqRf, op_eqRt, op_eqNf, op_eqNt, eqD_int, eqD_nil, pl_int, pl_nil, pl_non, pl_rnil, pl_bl, sl_tupE, sl_rolE, keep_ref, keep_tup, keep_rol, tp_int, tp_tup, tp_rol, tp_str, tp_bl, tp_non, tp_ref, oFd, oMd, oPw, oShl, oLt, oLe, oGt, oGe, op_in, op_cp, wipe_nil, wipe_cons, mset_same, true_and, and_true, isN_int, ex_lstF, ex_repF, ex_lgF1, ex_lgF2, ex_tupRg1, ex_tupRg2, ex_frz, ex_slF, ex_slM, sl_tupF, sl_rolF, op_iiF, op_ssF, op_ttF, op_rrF, op_rrM, op_mmF, op_repF, li_rol, li_ref, bl_listF, bl_allF, bl_anyF, asT_some, asJ_some, op_eqBf, op_eqBt, isN_non, Bool.not_true, Bool.not_false, rep2, ex_xis, isRef_s]
    rw [st_set]
    simp only [ex_c, ex_var, ex_op, ex_un, ex_b, ex_and, ex_or, ex_not, ex_andV, ex_orV, ex_notV, ex_if, ex_chain, ex_nil, ex_cons, ex_tup, ex_lst, ex_call, ex_callP, ex_cb, ex_bm, ex_rep, ex_sl, ex_noPart, ex_part, ex_yes, it_items, it_rng1, it_rng2, tg_name, tg_sub, tg_tup, tg_cons, tg_nil, gs_0, gs_s, ss_0, ss_s, op_ii, op_ss, op_tt, op_mm, op_sb, op_ng, op_iNf, op_iNt, op_lle, op_ixT, op_ixR, op_ixL, op_putE, op_appE, it_tupE, it_rolE, it_refE, lstOf_l, exL, asS_some, asI_int, asB_bl, asL_some, asN_some, ite3_t, ite3_f, bl_1, bl_lenT, bl_lenR, bl_lenL, bl_lenS, bl_tuple, bl_list, bl_abs, bl_intI, bl_intB, bl_max, bl_min, op_eqSf, op_eqSt, op_eqIf, op_eqIt, op_eqTf, op_eqTt, op_eqRf, op_eqRt, op_eqNf, op_eqNt, eqD_int, eqD_nil, pl_int, pl_nil, pl_non, pl_rnil, pl_bl, sl_tupE, sl_rolE, keep_ref, keep_tup, keep_rol, tp_int, tp_tup, tp_rol, tp_str, tp_bl, tp_non, tp_ref, oFd, oMd, oPw, oShl, oLt, oLe, oGt, oGe, op_in, op_cp, wipe_nil, wipe_cons, mset_same, true_and, and_true, isN_int, ex_lstF, ex_repF, ex_lgF1, ex_lgF2, ex_tupRg1, ex_tupRg2, ex_frz, ex_slF, ex_slM, sl_tupF, sl_rolF, op_iiF, op_ssF, op_ttF, op_rrF, op_rrM, op_mmF, op_repF, li_rol, li_ref, bl_listF, bl_allF, bl_anyF, asT_some, asJ_some, op_eqBf, op_eqBt, isN_non, Bool.not_true, Bool.not_false, rep2, ex_xf, isRef_s, pf_word, pf_place]
    refine ⟨by show 2 ≤ sizeLine; omega, ?_⟩
    try dsimp only
    rw [st_ret]
    simp only [ex_c, ex_var, ex_op, ex_un, ex_b, ex_and, ex_or, ex_not, ex_andV, ex_orV, ex_notV, ex_if, ex_chain, ex_nil, ex_cons, ex_tup, ex_lst, ex_call, ex_callP, ex_cb, ex_bm, ex_rep, ex_sl, ex_noPart, ex_part, ex_yes, it_items, it_rng1, it_rng2, tg_name, tg_sub, tg_tup, tg_cons, tg_nil, gs_0, gs_s, ss_0, ss_s, op_ii, op_ss, op_tt, op_mm, op_sb, op_ng, op_iNf, op_iNt, op_lle, op_ixT, op_ixR, op_ixL, op_putE, op_appE, it_tupE, it_rolE, it_refE, lstOf_l, exL, asS_some, asI_int, asB_bl, asL_some, asN_some, ite3_t, ite3_f, bl_1, bl_lenT, bl_lenR, bl_lenL, bl_lenS, bl_tuple, bl_list, bl_abs, bl_intI, bl_intB, bl_max, bl_min, op_eqSf, op_eqSt, op_eqIf, op_eqIt, op_eqTf, op_eqTt, op_eqRf, op_eqRt, op_eqNf, op_eqNt, eqD_int, eqD_nil, pl_int, pl_nil, pl_non, pl_rnil, pl_bl, sl_tupE, sl_rolE, keep_ref, keep_tup, keep_rol, tp_int, tp_tup, tp_rol, tp_str, tp_bl, tp_non, tp_ref, oFd, oMd, oPw, oShl, oLt, oLe, oGt, oGe, op_in, op_cp, wipe_nil, wipe_cons, mset_same, true_and, and_true, isN_int, ex_lstF, ex_repF, ex_lgF1, ex_lgF2, ex_tupRg1, ex_tupRg2, ex_frz, ex_slF, ex_slM, sl_tupF, sl_rolF, op_iiF, op_ssF, op_ttF, op_rrF, op_rrM, op_mmF, op_repF, li_rol, li_ref, bl_listF, bl_allF, bl_anyF, asT_some, asJ_some, op_eqBf, op_eqBt, isN_non, Bool.not_true, Bool.not_false, rep2]
    exact q _ h _
theorem filter_none {n : Int} : ∀ {ds : List D}, (ds.filter fun d => !inN n d) = [] → (ds.map (inN n)).all id = true
  | [], _ => rfl
  | d :: ds, h => by
    rw [List.filter_cons] at h
    split at h
    · cases h
    · rename_i hc
      rw [List.map_cons, List.all_cons, filter_none h, Bool.and_true]
      show inN n d = true
      cases hx : inN n d with
      | true => rfl
      | false => rw [hx] at hc; exact absurd rfl hc
theorem filter_some {n : Int} : ∀ {ds : List D}, (ds.filter fun d => !inN n d) ≠ [] → (ds.map (inN n)).all id = false
  | [], h => absurd rfl h
  | d :: ds, h => by
    rw [List.map_cons, List.all_cons]
    cases hx : inN n d with
    | false => rfl
    | true =>
      rw [List.filter_cons, hx] at h
      have := filter_some (n := n) (ds := ds) h
      rw [this, Bool.and_false]
theorem eqD_bl14 {a b : Bool} : eqD (.bl a) (.bl b) = decide (a = b) := by cases a <;> cases b <;> rfl
theorem eqD_rem14 {xs : List D} : eqD (.rol xs) (.rol []) = xs.isEmpty := by
  cases xs <;> simp [eqD, pdOf, pdsOf, PyData.eqv, PyData.eqvAll]
theorem pls_filter {c : D → Bool} : ∀ {ds : List D}, Pl (.tup ds) → Pl (.rol (ds.filter c)) := fun {ds} h => by
  refine ⟨?_, ?_⟩
  · have h1 : plains ds = true := by have := h.p; simpa [L3.plain] using this
    show plains (ds.filter c) = true
    clear h
    induction ds with
    | nil => rfl
    | cons d ds ih =>
      have h' : L3.plain d = true ∧ plains ds = true := by simpa [plains] using h1
      rw [List.filter_cons]
      split
      · show (L3.plain d && plains (ds.filter c)) = true
        rw [h'.1, ih h'.2]; rfl
      · exact ih h'.2
  · have h1 : deeps ds + 1 ≤ 64 := h.d
    have : deeps (ds.filter c) ≤ deeps ds := by
      clear h h1
      induction ds with
      | nil => exact Nat.le_refl _
      | cons d ds ih =>
        rw [List.filter_cons]
        split
        · show max (deep d) (deeps (ds.filter c)) ≤ max (deep d) (deeps ds)
          exact Nat.max_le.mpr ⟨Nat.le_max_left _ _, Nat.le_trans ih (Nat.le_max_right _ _)⟩
        · exact Nat.le_trans ih (Nat.le_max_right _ _)
    show deeps (ds.filter c) + 1 ≤ 64
    omega
theorem s_due : STold (spOf 2 7 r__law_due) := by
  refine fun n B T d Q E hn hT hd q => ⟨rfl, ?_⟩
  have big : (1000000 : Nat) ≤ sizeLine := by decide
  show r__law_due E _ [some (tabD T), some d, none, none, none, none, none] M0
  unfold r__law_due
  have sh : ToldV n T d (some (("shape" : Str), 0)) → ∀ M, Q (.tup [.str ("shape" : Str), .int 0]) M := fun h M => q _ h M
  rw [st_seq, st_if]
  by_cases ht : ¬ ∃ ds, d = .tup ds
  · simp only [ex_c, ex_var, ex_op, ex_un, ex_b, ex_and, ex_or, ex_not, ex_andV, ex_orV, ex_notV, ex_if, ex_chain, ex_nil, ex_cons, ex_tup, ex_lst, ex_call, ex_callP, ex_cb, ex_bm, ex_rep, ex_sl, ex_noPart, ex_part, ex_yes, it_items, it_rng1, it_rng2, tg_name, tg_sub, tg_tup, tg_cons, tg_nil, gs_0, gs_s, ss_0, ss_s, op_ii, op_ss, op_tt, op_mm, op_sb, op_ng, op_iNf, op_iNt, op_lle, op_ixT, op_ixR, op_ixL, op_putE, op_appE, it_tupE, it_rolE, it_refE, lstOf_l, exL, asS_some, asI_int, asB_bl, asL_some, asN_some, ite3_t, ite3_f, bl_1, bl_lenT, bl_lenR, bl_lenL, bl_lenS, bl_tuple, bl_list, bl_abs, bl_intI, bl_intB, bl_max, bl_min, op_eqSf, op_eqSt, op_eqIf, op_eqIt, op_eqTf, op_eqTt, op_eqRf, op_eqRt, op_eqNf, op_eqNt, eqD_int, eqD_nil, pl_int, pl_nil, pl_non, pl_rnil, pl_bl, sl_tupE, sl_rolE, keep_ref, keep_tup, keep_rol, tp_int, tp_tup, tp_rol, tp_str, tp_bl, tp_non, tp_ref, oFd, oMd, oPw, oShl, oLt, oLe, oGt, oGe, op_in, op_cp, wipe_nil, wipe_cons, mset_same, true_and, and_true, isN_int, ex_lstF, ex_repF, ex_lgF1, ex_lgF2, ex_tupRg1, ex_tupRg2, ex_frz, ex_slF, ex_slM, sl_tupF, sl_rolF, op_iiF, op_ssF, op_ttF, op_rrF, op_rrM, op_mmF, op_repF, li_rol, li_ref, bl_listF, bl_allF, bl_anyF, asT_some, asJ_some, op_eqBf, op_eqBt, isN_non, Bool.not_true, Bool.not_false, rep2, isi_tn hd.1.p ht, Bool.not_false]
    rw [st_ret]
    simp only [ex_c, ex_var, ex_op, ex_un, ex_b, ex_and, ex_or, ex_not, ex_andV, ex_orV, ex_notV, ex_if, ex_chain, ex_nil, ex_cons, ex_tup, ex_lst, ex_call, ex_callP, ex_cb, ex_bm, ex_rep, ex_sl, ex_noPart, ex_part, ex_yes, it_items, it_rng1, it_rng2, tg_name, tg_sub, tg_tup, tg_cons, tg_nil, gs_0, gs_s, ss_0, ss_s, op_ii, op_ss, op_tt, op_mm, op_sb, op_ng, op_iNf, op_iNt, op_lle, op_ixT, op_ixR, op_ixL, op_putE, op_appE, it_tupE, it_rolE, it_refE, lstOf_l, exL, asS_some, asI_int, asB_bl, asL_some, asN_some, ite3_t, ite3_f, bl_1, bl_lenT, bl_lenR, bl_lenL, bl_lenS, bl_tuple, bl_list, bl_abs, bl_intI, bl_intB, bl_max, bl_min, op_eqSf, op_eqSt, op_eqIf, op_eqIt, op_eqTf, op_eqTt, op_eqRf, op_eqRt, op_eqNf, op_eqNt, eqD_int, eqD_nil, pl_int, pl_nil, pl_non, pl_rnil, pl_bl, sl_tupE, sl_rolE, keep_ref, keep_tup, keep_rol, tp_int, tp_tup, tp_rol, tp_str, tp_bl, tp_non, tp_ref, oFd, oMd, oPw, oShl, oLt, oLe, oGt, oGe, op_in, op_cp, wipe_nil, wipe_cons, mset_same, true_and, and_true, isN_int, ex_lstF, ex_repF, ex_lgF1, ex_lgF2, ex_tupRg1, ex_tupRg2, ex_frz, ex_slF, ex_slM, sl_tupF, sl_rolF, op_iiF, op_ssF, op_ttF, op_rrF, op_rrM, op_mmF, op_repF, li_rol, li_ref, bl_listF, bl_allF, bl_anyF, asT_some, asJ_some, op_eqBf, op_eqBt, isN_non, Bool.not_true, Bool.not_false, rep2]
    refine ⟨by show 2 ≤ sizeLine; omega, sh ?_ _⟩
    rcases hT with rfl | ⟨tT, n0⟩
    · exact .nilF rfl fun e => ht ⟨[], e⟩
    · exact .shape (fun e => by have := tT.rows; rw [e] at this; simp at this; omega) (not_tupV ht)
  obtain ⟨ds, rfl⟩ := Classical.not_not.mp ht
  have hl := hd.2 ds rfl
  have hpl := hd.1
  rcases hT with rfl | ⟨tT, n0⟩
  · have e0 : tabD [] = .tup [] := rfl
    rw [e0]
    simp only [ex_c, ex_var, ex_op, ex_un, ex_b, ex_and, ex_or, ex_not, ex_andV, ex_orV, ex_notV, ex_if, ex_chain, ex_nil, ex_cons, ex_tup, ex_lst, ex_call, ex_callP, ex_cb, ex_bm, ex_rep, ex_sl, ex_noPart, ex_part, ex_yes, it_items, it_rng1, it_rng2, tg_name, tg_sub, tg_tup, tg_cons, tg_nil, gs_0, gs_s, ss_0, ss_s, op_ii, op_ss, op_tt, op_mm, op_sb, op_ng, op_iNf, op_iNt, op_lle, op_ixT, op_ixR, op_ixL, op_putE, op_appE, it_tupE, it_rolE, it_refE, lstOf_l, exL, asS_some, asI_int, asB_bl, asL_some, asN_some, ite3_t, ite3_f, bl_1, bl_lenT, bl_lenR, bl_lenL, bl_lenS, bl_tuple, bl_list, bl_abs, bl_intI, bl_intB, bl_max, bl_min, op_eqSf, op_eqSt, op_eqIf, op_eqIt, op_eqTf, op_eqTt, op_eqRf, op_eqRt, op_eqNf, op_eqNt, eqD_int, eqD_nil, pl_int, pl_nil, pl_non, pl_rnil, pl_bl, sl_tupE, sl_rolE, keep_ref, keep_tup, keep_rol, tp_int, tp_tup, tp_rol, tp_str, tp_bl, tp_non, tp_ref, oFd, oMd, oPw, oShl, oLt, oLe, oGt, oGe, op_in, op_cp, wipe_nil, wipe_cons, mset_same, true_and, and_true, isN_int, ex_lstF, ex_repF, ex_lgF1, ex_lgF2, ex_tupRg1, ex_tupRg2, ex_frz, ex_slF, ex_slM, sl_tupF, sl_rolF, op_iiF, op_ssF, op_ttF, op_rrF, op_rrM, op_mmF, op_repF, li_rol, li_ref, bl_listF, bl_allF, bl_anyF, asT_some, asJ_some, op_eqBf, op_eqBt, isN_non, Bool.not_true, Bool.not_false, rep2, isi_T kb_tt, Bool.not_true, eq_tn hpl, eq_nil, eqD_bl14]
    refine ⟨Nat.zero_le _, Nat.zero_le _, ite3_by (fun h => ?_) (fun h => ?_)⟩
    · rw [st_ret]
      simp only [ex_c, ex_var, ex_op, ex_un, ex_b, ex_and, ex_or, ex_not, ex_andV, ex_orV, ex_notV, ex_if, ex_chain, ex_nil, ex_cons, ex_tup, ex_lst, ex_call, ex_callP, ex_cb, ex_bm, ex_rep, ex_sl, ex_noPart, ex_part, ex_yes, it_items, it_rng1, it_rng2, tg_name, tg_sub, tg_tup, tg_cons, tg_nil, gs_0, gs_s, ss_0, ss_s, op_ii, op_ss, op_tt, op_mm, op_sb, op_ng, op_iNf, op_iNt, op_lle, op_ixT, op_ixR, op_ixL, op_putE, op_appE, it_tupE, it_rolE, it_refE, lstOf_l, exL, asS_some, asI_int, asB_bl, asL_some, asN_some, ite3_t, ite3_f, bl_1, bl_lenT, bl_lenR, bl_lenL, bl_lenS, bl_tuple, bl_list, bl_abs, bl_intI, bl_intB, bl_max, bl_min, op_eqSf, op_eqSt, op_eqIf, op_eqIt, op_eqTf, op_eqTt, op_eqRf, op_eqRt, op_eqNf, op_eqNt, eqD_int, eqD_nil, pl_int, pl_nil, pl_non, pl_rnil, pl_bl, sl_tupE, sl_rolE, keep_ref, keep_tup, keep_rol, tp_int, tp_tup, tp_rol, tp_str, tp_bl, tp_non, tp_ref, oFd, oMd, oPw, oShl, oLt, oLe, oGt, oGe, op_in, op_cp, wipe_nil, wipe_cons, mset_same, true_and, and_true, isN_int, ex_lstF, ex_repF, ex_lgF1, ex_lgF2, ex_tupRg1, ex_tupRg2, ex_frz, ex_slF, ex_slM, sl_tupF, sl_rolF, op_iiF, op_ssF, op_ttF, op_rrF, op_rrM, op_mmF, op_repF, li_rol, li_ref, bl_listF, bl_allF, bl_anyF, asT_some, asJ_some, op_eqBf, op_eqBt, isN_non, Bool.not_true, Bool.not_false, rep2]
      refine ⟨by show 2 ≤ sizeLine; omega, sh (.nilF rfl fun e => ?_) _⟩
      cases e
      exact absurd h (by simp)
    · rw [st_next]
      have : ds = [] := by
        cases ds with
        | nil => rfl
        | cons _ _ => exact absurd h (by simp)
      subst this
      try dsimp only
      rw [st_seq, st_if]
      simp only [ex_c, ex_var, ex_op, ex_un, ex_b, ex_and, ex_or, ex_not, ex_andV, ex_orV, ex_notV, ex_if, ex_chain, ex_nil, ex_cons, ex_tup, ex_lst, ex_call, ex_callP, ex_cb, ex_bm, ex_rep, ex_sl, ex_noPart, ex_part, ex_yes, it_items, it_rng1, it_rng2, tg_name, tg_sub, tg_tup, tg_cons, tg_nil, gs_0, gs_s, ss_0, ss_s, op_ii, op_ss, op_tt, op_mm, op_sb, op_ng, op_iNf, op_iNt, op_lle, op_ixT, op_ixR, op_ixL, op_putE, op_appE, it_tupE, it_rolE, it_refE, lstOf_l, exL, asS_some, asI_int, asB_bl, asL_some, asN_some, ite3_t, ite3_f, bl_1, bl_lenT, bl_lenR, bl_lenL, bl_lenS, bl_tuple, bl_list, bl_abs, bl_intI, bl_intB, bl_max, bl_min, op_eqSf, op_eqSt, op_eqIf, op_eqIt, op_eqTf, op_eqTt, op_eqRf, op_eqRt, op_eqNf, op_eqNt, eqD_int, eqD_nil, pl_int, pl_nil, pl_non, pl_rnil, pl_bl, sl_tupE, sl_rolE, keep_ref, keep_tup, keep_rol, tp_int, tp_tup, tp_rol, tp_str, tp_bl, tp_non, tp_ref, oFd, oMd, oPw, oShl, oLt, oLe, oGt, oGe, op_in, op_cp, wipe_nil, wipe_cons, mset_same, true_and, and_true, isN_int, ex_lstF, ex_repF, ex_lgF1, ex_lgF2, ex_tupRg1, ex_tupRg2, ex_frz, ex_slF, ex_slM, sl_tupF, sl_rolF, op_iiF, op_ssF, op_ttF, op_rrF, op_rrM, op_mmF, op_repF, li_rol, li_ref, bl_listF, bl_allF, bl_anyF, asT_some, asJ_some, op_eqBf, op_eqBt, isN_non, Bool.not_true, Bool.not_false, rep2, eq_nil]
      refine ⟨Nat.zero_le _, ?_⟩
      rw [st_ret]
      simp only [ex_c, ex_var, ex_op, ex_un, ex_b, ex_and, ex_or, ex_not, ex_andV, ex_orV, ex_notV, ex_if, ex_chain, ex_nil, ex_cons, ex_tup, ex_lst, ex_call, ex_callP, ex_cb, ex_bm, ex_rep, ex_sl, ex_noPart, ex_part, ex_yes, it_items, it_rng1, it_rng2, tg_name, tg_sub, tg_tup, tg_cons, tg_nil, gs_0, gs_s, ss_0, ss_s, op_ii, op_ss, op_tt, op_mm, op_sb, op_ng, op_iNf, op_iNt, op_lle, op_ixT, op_ixR, op_ixL, op_putE, op_appE, it_tupE, it_rolE, it_refE, lstOf_l, exL, asS_some, asI_int, asB_bl, asL_some, asN_some, ite3_t, ite3_f, bl_1, bl_lenT, bl_lenR, bl_lenL, bl_lenS, bl_tuple, bl_list, bl_abs, bl_intI, bl_intB, bl_max, bl_min, op_eqSf, op_eqSt, op_eqIf, op_eqIt, op_eqTf, op_eqTt, op_eqRf, op_eqRt, op_eqNf, op_eqNt, eqD_int, eqD_nil, pl_int, pl_nil, pl_non, pl_rnil, pl_bl, sl_tupE, sl_rolE, keep_ref, keep_tup, keep_rol, tp_int, tp_tup, tp_rol, tp_str, tp_bl, tp_non, tp_ref, oFd, oMd, oPw, oShl, oLt, oLe, oGt, oGe, op_in, op_cp, wipe_nil, wipe_cons, mset_same, true_and, and_true, isN_int, ex_lstF, ex_repF, ex_lgF1, ex_lgF2, ex_tupRg1, ex_tupRg2, ex_frz, ex_slF, ex_slM, sl_tupF, sl_rolF, op_iiF, op_ssF, op_ttF, op_rrF, op_rrM, op_mmF, op_repF, li_rol, li_ref, bl_listF, bl_allF, bl_anyF, asT_some, asJ_some, op_eqBf, op_eqBt, isN_non, Bool.not_true, Bool.not_false, rep2]
      exact q none (.nilT rfl rfl) _
  have hTn : T ≠ [] := fun e => by have := tT.rows; rw [e] at this; simp at this; omega
  have hTl : ((T.map rowD).length : Int) = (n : Int) := by rw [List.length_map, tT.rows]
  simp only [ex_c, ex_var, ex_op, ex_un, ex_b, ex_and, ex_or, ex_not, ex_andV, ex_orV, ex_notV, ex_if, ex_chain, ex_nil, ex_cons, ex_tup, ex_lst, ex_call, ex_callP, ex_cb, ex_bm, ex_rep, ex_sl, ex_noPart, ex_part, ex_yes, it_items, it_rng1, it_rng2, tg_name, tg_sub, tg_tup, tg_cons, tg_nil, gs_0, gs_s, ss_0, ss_s, op_ii, op_ss, op_tt, op_mm, op_sb, op_ng, op_iNf, op_iNt, op_lle, op_ixT, op_ixR, op_ixL, op_putE, op_appE, it_tupE, it_rolE, it_refE, lstOf_l, exL, asS_some, asI_int, asB_bl, asL_some, asN_some, ite3_t, ite3_f, bl_1, bl_lenT, bl_lenR, bl_lenL, bl_lenS, bl_tuple, bl_list, bl_abs, bl_intI, bl_intB, bl_max, bl_min, op_eqSf, op_eqSt, op_eqIf, op_eqIt, op_eqTf, op_eqTt, op_eqRf, op_eqRt, op_eqNf, op_eqNt, eqD_int, eqD_nil, pl_int, pl_nil, pl_non, pl_rnil, pl_bl, sl_tupE, sl_rolE, keep_ref, keep_tup, keep_rol, tp_int, tp_tup, tp_rol, tp_str, tp_bl, tp_non, tp_ref, oFd, oMd, oPw, oShl, oLt, oLe, oGt, oGe, op_in, op_cp, wipe_nil, wipe_cons, mset_same, true_and, and_true, isN_int, ex_lstF, ex_repF, ex_lgF1, ex_lgF2, ex_tupRg1, ex_tupRg2, ex_frz, ex_slF, ex_slM, sl_tupF, sl_rolF, op_iiF, op_ssF, op_ttF, op_rrF, op_rrM, op_mmF, op_repF, li_rol, li_ref, bl_listF, bl_allF, bl_anyF, asT_some, asJ_some, op_eqBf, op_eqBt, isN_non, Bool.not_true, Bool.not_false, rep2, isi_T kb_tt, Bool.not_true, eq_tn hpl, eq_tab tT.sq n0, eqD_bl14]
  refine ⟨Nat.zero_le _, Nat.zero_le _, ite3_by (fun h => ?_) (fun h => ?_)⟩
  · rw [st_ret]
    simp only [ex_c, ex_var, ex_op, ex_un, ex_b, ex_and, ex_or, ex_not, ex_andV, ex_orV, ex_notV, ex_if, ex_chain, ex_nil, ex_cons, ex_tup, ex_lst, ex_call, ex_callP, ex_cb, ex_bm, ex_rep, ex_sl, ex_noPart, ex_part, ex_yes, it_items, it_rng1, it_rng2, tg_name, tg_sub, tg_tup, tg_cons, tg_nil, gs_0, gs_s, ss_0, ss_s, op_ii, op_ss, op_tt, op_mm, op_sb, op_ng, op_iNf, op_iNt, op_lle, op_ixT, op_ixR, op_ixL, op_putE, op_appE, it_tupE, it_rolE, it_refE, lstOf_l, exL, asS_some, asI_int, asB_bl, asL_some, asN_some, ite3_t, ite3_f, bl_1, bl_lenT, bl_lenR, bl_lenL, bl_lenS, bl_tuple, bl_list, bl_abs, bl_intI, bl_intB, bl_max, bl_min, op_eqSf, op_eqSt, op_eqIf, op_eqIt, op_eqTf, op_eqTt, op_eqRf, op_eqRt, op_eqNf, op_eqNt, eqD_int, eqD_nil, pl_int, pl_nil, pl_non, pl_rnil, pl_bl, sl_tupE, sl_rolE, keep_ref, keep_tup, keep_rol, tp_int, tp_tup, tp_rol, tp_str, tp_bl, tp_non, tp_ref, oFd, oMd, oPw, oShl, oLt, oLe, oGt, oGe, op_in, op_cp, wipe_nil, wipe_cons, mset_same, true_and, and_true, isN_int, ex_lstF, ex_repF, ex_lgF1, ex_lgF2, ex_tupRg1, ex_tupRg2, ex_frz, ex_slF, ex_slM, sl_tupF, sl_rolF, op_iiF, op_ssF, op_ttF, op_rrF, op_rrM, op_mmF, op_repF, li_rol, li_ref, bl_listF, bl_allF, bl_anyF, asT_some, asJ_some, op_eqBf, op_eqBt, isN_non, Bool.not_true, Bool.not_false, rep2]
    have : ds = [] := by
      cases ds with
      | nil => rfl
      | cons _ _ => exact absurd h (by simp)
    subst this
    exact ⟨by show 2 ≤ sizeLine; omega, sh (.shape hTn rfl) _⟩
  rw [st_next]
  have hne : ds.isEmpty = false := by
    cases ds with
    | nil => exact absurd h (by simp)
    | cons _ _ => rfl
  try dsimp only
  rw [st_seq, st_if]
  simp only [ex_c, ex_var, ex_op, ex_un, ex_b, ex_and, ex_or, ex_not, ex_andV, ex_orV, ex_notV, ex_if, ex_chain, ex_nil, ex_cons, ex_tup, ex_lst, ex_call, ex_callP, ex_cb, ex_bm, ex_rep, ex_sl, ex_noPart, ex_part, ex_yes, it_items, it_rng1, it_rng2, tg_name, tg_sub, tg_tup, tg_cons, tg_nil, gs_0, gs_s, ss_0, ss_s, op_ii, op_ss, op_tt, op_mm, op_sb, op_ng, op_iNf, op_iNt, op_lle, op_ixT, op_ixR, op_ixL, op_putE, op_appE, it_tupE, it_rolE, it_refE, lstOf_l, exL, asS_some, asI_int, asB_bl, asL_some, asN_some, ite3_t, ite3_f, bl_1, bl_lenT, bl_lenR, bl_lenL, bl_lenS, bl_tuple, bl_list, bl_abs, bl_intI, bl_intB, bl_max, bl_min, op_eqSf, op_eqSt, op_eqIf, op_eqIt, op_eqTf, op_eqTt, op_eqRf, op_eqRt, op_eqNf, op_eqNt, eqD_int, eqD_nil, pl_int, pl_nil, pl_non, pl_rnil, pl_bl, sl_tupE, sl_rolE, keep_ref, keep_tup, keep_rol, tp_int, tp_tup, tp_rol, tp_str, tp_bl, tp_non, tp_ref, oFd, oMd, oPw, oShl, oLt, oLe, oGt, oGe, op_in, op_cp, wipe_nil, wipe_cons, mset_same, true_and, and_true, isN_int, ex_lstF, ex_repF, ex_lgF1, ex_lgF2, ex_tupRg1, ex_tupRg2, ex_frz, ex_slF, ex_slM, sl_tupF, sl_rolF, op_iiF, op_ssF, op_ttF, op_rrF, op_rrM, op_mmF, op_repF, li_rol, li_ref, bl_listF, bl_allF, bl_anyF, asT_some, asJ_some, op_eqBf, op_eqBt, isN_non, Bool.not_true, Bool.not_false, rep2, eq_tab tT.sq n0]
  refine ⟨Nat.zero_le _, ?_⟩
  rw [st_next]
  try dsimp only
  rw [st_seq, st_set]
  simp only [ex_c, ex_var, ex_op, ex_un, ex_b, ex_and, ex_or, ex_not, ex_andV, ex_orV, ex_notV, ex_if, ex_chain, ex_nil, ex_cons, ex_tup, ex_lst, ex_call, ex_callP, ex_cb, ex_bm, ex_rep, ex_sl, ex_noPart, ex_part, ex_yes, it_items, it_rng1, it_rng2, tg_name, tg_sub, tg_tup, tg_cons, tg_nil, gs_0, gs_s, ss_0, ss_s, op_ii, op_ss, op_tt, op_mm, op_sb, op_ng, op_iNf, op_iNt, op_lle, op_ixT, op_ixR, op_ixL, op_putE, op_appE, it_tupE, it_rolE, it_refE, lstOf_l, exL, asS_some, asI_int, asB_bl, asL_some, asN_some, ite3_t, ite3_f, bl_1, bl_lenT, bl_lenR, bl_lenL, bl_lenS, bl_tuple, bl_list, bl_abs, bl_intI, bl_intB, bl_max, bl_min, op_eqSf, op_eqSt, op_eqIf, op_eqIt, op_eqTf, op_eqTt, op_eqRf, op_eqRt, op_eqNf, op_eqNt, eqD_int, eqD_nil, pl_int, pl_nil, pl_non, pl_rnil, pl_bl, sl_tupE, sl_rolE, keep_ref, keep_tup, keep_rol, tp_int, tp_tup, tp_rol, tp_str, tp_bl, tp_non, tp_ref, oFd, oMd, oPw, oShl, oLt, oLe, oGt, oGe, op_in, op_cp, wipe_nil, wipe_cons, mset_same, true_and, and_true, isN_int, ex_lstF, ex_repF, ex_lgF1, ex_lgF2, ex_tupRg1, ex_tupRg2, ex_frz, ex_slF, ex_slM, sl_tupF, sl_rolF, op_iiF, op_ssF, op_ttF, op_rrF, op_rrM, op_mmF, op_repF, li_rol, li_ref, bl_listF, bl_allF, bl_anyF, asT_some, asJ_some, op_eqBf, op_eqBt, isN_non, Bool.not_true, Bool.not_false, rep2, ex_lcF]
  have hz : ds.map (fun d => d) = ds := List.map_id' _
  rw [← hz]
  refine lc_if (fun d : D => d) (fun d => !inN n d) (fun d => d) True.intro ds (by omega) (fun p hp K K2 h1 h2 => ?_) ?_
  · have hpp := plain_mem (by have := hpl.p; simpa [L3.plain] using this) hp
    rw [tg_name]
    cases p with
    | int i =>
      simp only [ex_c, ex_var, ex_op, ex_un, ex_b, ex_and, ex_or, ex_not, ex_andV, ex_orV, ex_notV, ex_if, ex_chain, ex_nil, ex_cons, ex_tup, ex_lst, ex_call, ex_callP, ex_cb, ex_bm, ex_rep, ex_sl, ex_noPart, ex_part, ex_yes, it_items, it_rng1, it_rng2, tg_name, tg_sub, tg_tup, tg_cons, tg_nil, gs_0, gs_s, ss_0, ss_s, op_ii, op_ss, op_tt, op_mm, op_sb, op_ng, op_iNf, op_iNt, op_lle, op_ixT, op_ixR, op_ixL, op_putE, op_appE, it_tupE, it_rolE, it_refE, lstOf_l, exL, asS_some, asI_int, asB_bl, asL_some, asN_some, ite3_t, ite3_f, bl_1, bl_lenT, bl_lenR, bl_lenL, bl_lenS, bl_tuple, bl_list, bl_abs, bl_intI, bl_intB, bl_max, bl_min, op_eqSf, op_eqSt, op_eqIf, op_eqIt, op_eqTf, op_eqTt, op_eqRf, op_eqRt, op_eqNf, op_eqNt, eqD_int, eqD_nil, pl_int, pl_nil, pl_non, pl_rnil, pl_bl, sl_tupE, sl_rolE, keep_ref, keep_tup, keep_rol, tp_int, tp_tup, tp_rol, tp_str, tp_bl, tp_non, tp_ref, oFd, oMd, oPw, oShl, oLt, oLe, oGt, oGe, op_in, op_cp, wipe_nil, wipe_cons, mset_same, true_and, and_true, isN_int, ex_lstF, ex_repF, ex_lgF1, ex_lgF2, ex_tupRg1, ex_tupRg2, ex_frz, ex_slF, ex_slM, sl_tupF, sl_rolF, op_iiF, op_ssF, op_ttF, op_rrF, op_rrM, op_mmF, op_repF, li_rol, li_ref, bl_listF, bl_allF, bl_anyF, asT_some, asJ_some, op_eqBf, op_eqBt, isN_non, Bool.not_true, Bool.not_false, rep2, isi_I kb_ib, isi_I kb_ii, Bool.not_true, tabD, hTl]
      have e : inN (n : Int) (.int i) = (decide (0 ≤ i) && decide (i < n)) := rfl
      rw [e] at h1 h2
      refine ite3_by (fun h => ?_) (fun h => ?_)
      · rw [h, Bool.true_and] at h1 h2
        refine ite3_by (fun h => h1 (by simpa using h)) (fun h => h2 (by simpa using h))
      · rw [h, Bool.false_and] at h1
        (try simp only [ex_c, ex_var, ex_op, ex_un, ex_b, ex_and, ex_or, ex_not, ex_andV, ex_orV, ex_notV, ex_if, ex_chain, ex_nil, ex_cons, ex_tup, ex_lst, ex_call, ex_callP, ex_cb, ex_bm, ex_rep, ex_sl, ex_noPart, ex_part, ex_yes, it_items, it_rng1, it_rng2, tg_name, tg_sub, tg_tup, tg_cons, tg_nil, gs_0, gs_s, ss_0, ss_s, op_ii, op_ss, op_tt, op_mm, op_sb, op_ng, op_iNf, op_iNt, op_lle, op_ixT, op_ixR, op_ixL, op_putE, op_appE, it_tupE, it_rolE, it_refE, lstOf_l, exL, asS_some, asI_int, asB_bl, asL_some, asN_some, ite3_t, ite3_f, bl_1, bl_lenT, bl_lenR, bl_lenL, bl_lenS, bl_tuple, bl_list, bl_abs, bl_intI, bl_intB, bl_max, bl_min, op_eqSf, op_eqSt, op_eqIf, op_eqIt, op_eqTf, op_eqTt, op_eqRf, op_eqRt, op_eqNf, op_eqNt, eqD_int, eqD_nil, pl_int, pl_nil, pl_non, pl_rnil, pl_bl, sl_tupE, sl_rolE, keep_ref, keep_tup, keep_rol, tp_int, tp_tup, tp_rol, tp_str, tp_bl, tp_non, tp_ref, oFd, oMd, oPw, oShl, oLt, oLe, oGt, oGe, op_in, op_cp, wipe_nil, wipe_cons, mset_same, true_and, and_true, isN_int, ex_lstF, ex_repF, ex_lgF1, ex_lgF2, ex_tupRg1, ex_tupRg2, ex_frz, ex_slF, ex_slM, sl_tupF, sl_rolF, op_iiF, op_ssF, op_ttF, op_rrF, op_rrM, op_mmF, op_repF, li_rol, li_ref, bl_listF, bl_allF, bl_anyF, asT_some, asJ_some, op_eqBf, op_eqBt, isN_non, Bool.not_true, Bool.not_false, rep2, Bool.not_false])
        exact h1 rfl
    | non => simp only [ex_c, ex_var, ex_op, ex_un, ex_b, ex_and, ex_or, ex_not, ex_andV, ex_orV, ex_notV, ex_if, ex_chain, ex_nil, ex_cons, ex_tup, ex_lst, ex_call, ex_callP, ex_cb, ex_bm, ex_rep, ex_sl, ex_noPart, ex_part, ex_yes, it_items, it_rng1, it_rng2, tg_name, tg_sub, tg_tup, tg_cons, tg_nil, gs_0, gs_s, ss_0, ss_s, op_ii, op_ss, op_tt, op_mm, op_sb, op_ng, op_iNf, op_iNt, op_lle, op_ixT, op_ixR, op_ixL, op_putE, op_appE, it_tupE, it_rolE, it_refE, lstOf_l, exL, asS_some, asI_int, asB_bl, asL_some, asN_some, ite3_t, ite3_f, bl_1, bl_lenT, bl_lenR, bl_lenL, bl_lenS, bl_tuple, bl_list, bl_abs, bl_intI, bl_intB, bl_max, bl_min, op_eqSf, op_eqSt, op_eqIf, op_eqIt, op_eqTf, op_eqTt, op_eqRf, op_eqRt, op_eqNf, op_eqNt, eqD_int, eqD_nil, pl_int, pl_nil, pl_non, pl_rnil, pl_bl, sl_tupE, sl_rolE, keep_ref, keep_tup, keep_rol, tp_int, tp_tup, tp_rol, tp_str, tp_bl, tp_non, tp_ref, oFd, oMd, oPw, oShl, oLt, oLe, oGt, oGe, op_in, op_cp, wipe_nil, wipe_cons, mset_same, true_and, and_true, isN_int, ex_lstF, ex_repF, ex_lgF1, ex_lgF2, ex_tupRg1, ex_tupRg2, ex_frz, ex_slF, ex_slM, sl_tupF, sl_rolF, op_iiF, op_ssF, op_ttF, op_rrF, op_rrM, op_mmF, op_repF, li_rol, li_ref, bl_listF, bl_allF, bl_anyF, asT_some, asJ_some, op_eqBf, op_eqBt, isN_non, Bool.not_true, Bool.not_false, rep2, isi_N kb_nb, isi_N kb_ni, Bool.not_false]; exact h1 rfl
    | bl b => simp only [ex_c, ex_var, ex_op, ex_un, ex_b, ex_and, ex_or, ex_not, ex_andV, ex_orV, ex_notV, ex_if, ex_chain, ex_nil, ex_cons, ex_tup, ex_lst, ex_call, ex_callP, ex_cb, ex_bm, ex_rep, ex_sl, ex_noPart, ex_part, ex_yes, it_items, it_rng1, it_rng2, tg_name, tg_sub, tg_tup, tg_cons, tg_nil, gs_0, gs_s, ss_0, ss_s, op_ii, op_ss, op_tt, op_mm, op_sb, op_ng, op_iNf, op_iNt, op_lle, op_ixT, op_ixR, op_ixL, op_putE, op_appE, it_tupE, it_rolE, it_refE, lstOf_l, exL, asS_some, asI_int, asB_bl, asL_some, asN_some, ite3_t, ite3_f, bl_1, bl_lenT, bl_lenR, bl_lenL, bl_lenS, bl_tuple, bl_list, bl_abs, bl_intI, bl_intB, bl_max, bl_min, op_eqSf, op_eqSt, op_eqIf, op_eqIt, op_eqTf, op_eqTt, op_eqRf, op_eqRt, op_eqNf, op_eqNt, eqD_int, eqD_nil, pl_int, pl_nil, pl_non, pl_rnil, pl_bl, sl_tupE, sl_rolE, keep_ref, keep_tup, keep_rol, tp_int, tp_tup, tp_rol, tp_str, tp_bl, tp_non, tp_ref, oFd, oMd, oPw, oShl, oLt, oLe, oGt, oGe, op_in, op_cp, wipe_nil, wipe_cons, mset_same, true_and, and_true, isN_int, ex_lstF, ex_repF, ex_lgF1, ex_lgF2, ex_tupRg1, ex_tupRg2, ex_frz, ex_slF, ex_slM, sl_tupF, sl_rolF, op_iiF, op_ssF, op_ttF, op_rrF, op_rrM, op_mmF, op_repF, li_rol, li_ref, bl_listF, bl_allF, bl_anyF, asT_some, asJ_some, op_eqBf, op_eqBt, isN_non, Bool.not_true, Bool.not_false, rep2, isi_B kb_bb]; exact h1 rfl
    | str x => simp only [ex_c, ex_var, ex_op, ex_un, ex_b, ex_and, ex_or, ex_not, ex_andV, ex_orV, ex_notV, ex_if, ex_chain, ex_nil, ex_cons, ex_tup, ex_lst, ex_call, ex_callP, ex_cb, ex_bm, ex_rep, ex_sl, ex_noPart, ex_part, ex_yes, it_items, it_rng1, it_rng2, tg_name, tg_sub, tg_tup, tg_cons, tg_nil, gs_0, gs_s, ss_0, ss_s, op_ii, op_ss, op_tt, op_mm, op_sb, op_ng, op_iNf, op_iNt, op_lle, op_ixT, op_ixR, op_ixL, op_putE, op_appE, it_tupE, it_rolE, it_refE, lstOf_l, exL, asS_some, asI_int, asB_bl, asL_some, asN_some, ite3_t, ite3_f, bl_1, bl_lenT, bl_lenR, bl_lenL, bl_lenS, bl_tuple, bl_list, bl_abs, bl_intI, bl_intB, bl_max, bl_min, op_eqSf, op_eqSt, op_eqIf, op_eqIt, op_eqTf, op_eqTt, op_eqRf, op_eqRt, op_eqNf, op_eqNt, eqD_int, eqD_nil, pl_int, pl_nil, pl_non, pl_rnil, pl_bl, sl_tupE, sl_rolE, keep_ref, keep_tup, keep_rol, tp_int, tp_tup, tp_rol, tp_str, tp_bl, tp_non, tp_ref, oFd, oMd, oPw, oShl, oLt, oLe, oGt, oGe, op_in, op_cp, wipe_nil, wipe_cons, mset_same, true_and, and_true, isN_int, ex_lstF, ex_repF, ex_lgF1, ex_lgF2, ex_tupRg1, ex_tupRg2, ex_frz, ex_slF, ex_slM, sl_tupF, sl_rolF, op_iiF, op_ssF, op_ttF, op_rrF, op_rrM, op_mmF, op_repF, li_rol, li_ref, bl_listF, bl_allF, bl_anyF, asT_some, asJ_some, op_eqBf, op_eqBt, isN_non, Bool.not_true, Bool.not_false, rep2, isi_S kb_sb, isi_S kb_si, Bool.not_false]; exact h1 rfl
    | tup xs => simp only [ex_c, ex_var, ex_op, ex_un, ex_b, ex_and, ex_or, ex_not, ex_andV, ex_orV, ex_notV, ex_if, ex_chain, ex_nil, ex_cons, ex_tup, ex_lst, ex_call, ex_callP, ex_cb, ex_bm, ex_rep, ex_sl, ex_noPart, ex_part, ex_yes, it_items, it_rng1, it_rng2, tg_name, tg_sub, tg_tup, tg_cons, tg_nil, gs_0, gs_s, ss_0, ss_s, op_ii, op_ss, op_tt, op_mm, op_sb, op_ng, op_iNf, op_iNt, op_lle, op_ixT, op_ixR, op_ixL, op_putE, op_appE, it_tupE, it_rolE, it_refE, lstOf_l, exL, asS_some, asI_int, asB_bl, asL_some, asN_some, ite3_t, ite3_f, bl_1, bl_lenT, bl_lenR, bl_lenL, bl_lenS, bl_tuple, bl_list, bl_abs, bl_intI, bl_intB, bl_max, bl_min, op_eqSf, op_eqSt, op_eqIf, op_eqIt, op_eqTf, op_eqTt, op_eqRf, op_eqRt, op_eqNf, op_eqNt, eqD_int, eqD_nil, pl_int, pl_nil, pl_non, pl_rnil, pl_bl, sl_tupE, sl_rolE, keep_ref, keep_tup, keep_rol, tp_int, tp_tup, tp_rol, tp_str, tp_bl, tp_non, tp_ref, oFd, oMd, oPw, oShl, oLt, oLe, oGt, oGe, op_in, op_cp, wipe_nil, wipe_cons, mset_same, true_and, and_true, isN_int, ex_lstF, ex_repF, ex_lgF1, ex_lgF2, ex_tupRg1, ex_tupRg2, ex_frz, ex_slF, ex_slM, sl_tupF, sl_rolF, op_iiF, op_ssF, op_ttF, op_rrF, op_rrM, op_mmF, op_repF, li_rol, li_ref, bl_listF, bl_allF, bl_anyF, asT_some, asJ_some, op_eqBf, op_eqBt, isN_non, Bool.not_true, Bool.not_false, rep2, isi_T kb_tb, isi_T kb_ti, Bool.not_false]; exact h1 rfl
    | rol xs => simp only [ex_c, ex_var, ex_op, ex_un, ex_b, ex_and, ex_or, ex_not, ex_andV, ex_orV, ex_notV, ex_if, ex_chain, ex_nil, ex_cons, ex_tup, ex_lst, ex_call, ex_callP, ex_cb, ex_bm, ex_rep, ex_sl, ex_noPart, ex_part, ex_yes, it_items, it_rng1, it_rng2, tg_name, tg_sub, tg_tup, tg_cons, tg_nil, gs_0, gs_s, ss_0, ss_s, op_ii, op_ss, op_tt, op_mm, op_sb, op_ng, op_iNf, op_iNt, op_lle, op_ixT, op_ixR, op_ixL, op_putE, op_appE, it_tupE, it_rolE, it_refE, lstOf_l, exL, asS_some, asI_int, asB_bl, asL_some, asN_some, ite3_t, ite3_f, bl_1, bl_lenT, bl_lenR, bl_lenL, bl_lenS, bl_tuple, bl_list, bl_abs, bl_intI, bl_intB, bl_max, bl_min, op_eqSf, op_eqSt, op_eqIf, op_eqIt, op_eqTf, op_eqTt, op_eqRf, op_eqRt, op_eqNf, op_eqNt, eqD_int, eqD_nil, pl_int, pl_nil, pl_non, pl_rnil, pl_bl, sl_tupE, sl_rolE, keep_ref, keep_tup, keep_rol, tp_int, tp_tup, tp_rol, tp_str, tp_bl, tp_non, tp_ref, oFd, oMd, oPw, oShl, oLt, oLe, oGt, oGe, op_in, op_cp, wipe_nil, wipe_cons, mset_same, true_and, and_true, isN_int, ex_lstF, ex_repF, ex_lgF1, ex_lgF2, ex_tupRg1, ex_tupRg2, ex_frz, ex_slF, ex_slM, sl_tupF, sl_rolF, op_iiF, op_ssF, op_ttF, op_rrF, op_rrM, op_mmF, op_repF, li_rol, li_ref, bl_listF, bl_allF, bl_anyF, asT_some, asJ_some, op_eqBf, op_eqBt, isN_non, Bool.not_true, Bool.not_false, rep2, isi_L kb_lb, isi_L kb_li, Bool.not_false]; exact h1 rfl
    | ref a => cases hpp
    | ty x => cases hpp
  have hzf : ∀ l : List D, (l.map fun d => d) = l := fun l => List.map_id' l
  rw [hzf, hzf]
  have hpf := pls_filter (c := fun d => !inN n d) hpl
  by_cases hf : (ds.filter fun d => !inN n d) ≠ []
  · have hfe : (ds.filter fun d => !inN n d).isEmpty = false := by
      cases hx : (ds.filter fun d => !inN n d) with
      | nil => exact absurd hx hf
      | cons _ _ => rfl
    have hal := filter_some hf
    generalize (ds.filter fun d => !inN n d) = fs at hpf hfe
    (try simp only [ex_c, ex_var, ex_op, ex_un, ex_b, ex_and, ex_or, ex_not, ex_andV, ex_orV, ex_notV, ex_if, ex_chain, ex_nil, ex_cons, ex_tup, ex_lst, ex_call, ex_callP, ex_cb, ex_bm, ex_rep, ex_sl, ex_noPart, ex_part, ex_yes, it_items, it_rng1, it_rng2, tg_name, tg_sub, tg_tup, tg_cons, tg_nil, gs_0, gs_s, ss_0, ss_s, op_ii, op_ss, op_tt, op_mm, op_sb, op_ng, op_iNf, op_iNt, op_lle, op_ixT, op_ixR, op_ixL, op_putE, op_appE, it_tupE, it_rolE, it_refE, lstOf_l, exL, asS_some, asI_int, asB_bl, asL_some, asN_some, ite3_t, ite3_f, bl_1, bl_lenT, bl_lenR, bl_lenL, bl_lenS, bl_tuple, bl_list, bl_abs, bl_intI, bl_intB, bl_max, bl_min, op_eqSf, op_eqSt, op_eqIf, op_eqIt, op_eqTf, op_eqTt, op_eqRf, op_eqRt, op_eqNf, op_eqNt, eqD_int, eqD_nil, pl_int, pl_nil, pl_non, pl_rnil, pl_bl, sl_tupE, sl_rolE, keep_ref, keep_tup, keep_rol, tp_int, tp_tup, tp_rol, tp_str, tp_bl, tp_non, tp_ref, oFd, oMd, oPw, oShl, oLt, oLe, oGt, oGe, op_in, op_cp, wipe_nil, wipe_cons, mset_same, true_and, and_true, isN_int, ex_lstF, ex_repF, ex_lgF1, ex_lgF2, ex_tupRg1, ex_tupRg2, ex_frz, ex_slF, ex_slM, sl_tupF, sl_rolF, op_iiF, op_ssF, op_ttF, op_rrF, op_rrM, op_mmF, op_repF, li_rol, li_ref, bl_listF, bl_allF, bl_anyF, asT_some, asJ_some, op_eqBf, op_eqBt, isN_non, Bool.not_true, Bool.not_false, rep2])
    try dsimp only
    rw [st_seq, st_if]
    simp only [ex_c, ex_var, ex_op, ex_un, ex_b, ex_and, ex_or, ex_not, ex_andV, ex_orV, ex_notV, ex_if, ex_chain, ex_nil, ex_cons, ex_tup, ex_lst, ex_call, ex_callP, ex_cb, ex_bm, ex_rep, ex_sl, ex_noPart, ex_part, ex_yes, it_items, it_rng1, it_rng2, tg_name, tg_sub, tg_tup, tg_cons, tg_nil, gs_0, gs_s, ss_0, ss_s, op_ii, op_ss, op_tt, op_mm, op_sb, op_ng, op_iNf, op_iNt, op_lle, op_ixT, op_ixR, op_ixL, op_putE, op_appE, it_tupE, it_rolE, it_refE, lstOf_l, exL, asS_some, asI_int, asB_bl, asL_some, asN_some, ite3_t, ite3_f, bl_1, bl_lenT, bl_lenR, bl_lenL, bl_lenS, bl_tuple, bl_list, bl_abs, bl_intI, bl_intB, bl_max, bl_min, op_eqSf, op_eqSt, op_eqIf, op_eqIt, op_eqTf, op_eqTt, op_eqRf, op_eqRt, op_eqNf, op_eqNt, eqD_int, eqD_nil, pl_int, pl_nil, pl_non, pl_rnil, pl_bl, sl_tupE, sl_rolE, keep_ref, keep_tup, keep_rol, tp_int, tp_tup, tp_rol, tp_str, tp_bl, tp_non, tp_ref, oFd, oMd, oPw, oShl, oLt, oLe, oGt, oGe, op_in, op_cp, wipe_nil, wipe_cons, mset_same, true_and, and_true, isN_int, ex_lstF, ex_repF, ex_lgF1, ex_lgF2, ex_tupRg1, ex_tupRg2, ex_frz, ex_slF, ex_slM, sl_tupF, sl_rolF, op_iiF, op_ssF, op_ttF, op_rrF, op_rrM, op_mmF, op_repF, li_rol, li_ref, bl_listF, bl_allF, bl_anyF, asT_some, asJ_some, op_eqBf, op_eqBt, isN_non, Bool.not_true, Bool.not_false, rep2]
    refine ⟨Nat.zero_le _, ?_⟩
    rw [op_eqLt]
    refine ⟨hpf, by rw [tp_rol, pl_rnil]; trivial, ?_⟩
    rw [tp_rol, eqD_rem14, hfe]
    (try simp only [ex_c, ex_var, ex_op, ex_un, ex_b, ex_and, ex_or, ex_not, ex_andV, ex_orV, ex_notV, ex_if, ex_chain, ex_nil, ex_cons, ex_tup, ex_lst, ex_call, ex_callP, ex_cb, ex_bm, ex_rep, ex_sl, ex_noPart, ex_part, ex_yes, it_items, it_rng1, it_rng2, tg_name, tg_sub, tg_tup, tg_cons, tg_nil, gs_0, gs_s, ss_0, ss_s, op_ii, op_ss, op_tt, op_mm, op_sb, op_ng, op_iNf, op_iNt, op_lle, op_ixT, op_ixR, op_ixL, op_putE, op_appE, it_tupE, it_rolE, it_refE, lstOf_l, exL, asS_some, asI_int, asB_bl, asL_some, asN_some, ite3_t, ite3_f, bl_1, bl_lenT, bl_lenR, bl_lenL, bl_lenS, bl_tuple, bl_list, bl_abs, bl_intI, bl_intB, bl_max, bl_min, op_eqSf, op_eqSt, op_eqIf, op_eqIt, op_eqTf, op_eqTt, op_eqRf, op_eqRt, op_eqNf, op_eqNt, eqD_int, eqD_nil, pl_int, pl_nil, pl_non, pl_rnil, pl_bl, sl_tupE, sl_rolE, keep_ref, keep_tup, keep_rol, tp_int, tp_tup, tp_rol, tp_str, tp_bl, tp_non, tp_ref, oFd, oMd, oPw, oShl, oLt, oLe, oGt, oGe, op_in, op_cp, wipe_nil, wipe_cons, mset_same, true_and, and_true, isN_int, ex_lstF, ex_repF, ex_lgF1, ex_lgF2, ex_tupRg1, ex_tupRg2, ex_frz, ex_slF, ex_slM, sl_tupF, sl_rolF, op_iiF, op_ssF, op_ttF, op_rrF, op_rrM, op_mmF, op_repF, li_rol, li_ref, bl_listF, bl_allF, bl_anyF, asT_some, asJ_some, op_eqBf, op_eqBt, isN_non, Bool.not_true, Bool.not_false, rep2, Bool.not_false])
    rw [st_ret]
    simp only [ex_c, ex_var, ex_op, ex_un, ex_b, ex_and, ex_or, ex_not, ex_andV, ex_orV, ex_notV, ex_if, ex_chain, ex_nil, ex_cons, ex_tup, ex_lst, ex_call, ex_callP, ex_cb, ex_bm, ex_rep, ex_sl, ex_noPart, ex_part, ex_yes, it_items, it_rng1, it_rng2, tg_name, tg_sub, tg_tup, tg_cons, tg_nil, gs_0, gs_s, ss_0, ss_s, op_ii, op_ss, op_tt, op_mm, op_sb, op_ng, op_iNf, op_iNt, op_lle, op_ixT, op_ixR, op_ixL, op_putE, op_appE, it_tupE, it_rolE, it_refE, lstOf_l, exL, asS_some, asI_int, asB_bl, asL_some, asN_some, ite3_t, ite3_f, bl_1, bl_lenT, bl_lenR, bl_lenL, bl_lenS, bl_tuple, bl_list, bl_abs, bl_intI, bl_intB, bl_max, bl_min, op_eqSf, op_eqSt, op_eqIf, op_eqIt, op_eqTf, op_eqTt, op_eqRf, op_eqRt, op_eqNf, op_eqNt, eqD_int, eqD_nil, pl_int, pl_nil, pl_non, pl_rnil, pl_bl, sl_tupE, sl_rolE, keep_ref, keep_tup, keep_rol, tp_int, tp_tup, tp_rol, tp_str, tp_bl, tp_non, tp_ref, oFd, oMd, oPw, oShl, oLt, oLe, oGt, oGe, op_in, op_cp, wipe_nil, wipe_cons, mset_same, true_and, and_true, isN_int, ex_lstF, ex_repF, ex_lgF1, ex_lgF2, ex_tupRg1, ex_tupRg2, ex_frz, ex_slF, ex_slM, sl_tupF, sl_rolF, op_iiF, op_ssF, op_ttF, op_rrF, op_rrM, op_mmF, op_repF, li_rol, li_ref, bl_listF, bl_allF, bl_anyF, asT_some, asJ_some, op_eqBf, op_eqBt, isN_non, Bool.not_true, Bool.not_false, rep2]
    exact ⟨by show 2 ≤ sizeLine; omega, sh (.shape hTn (ringV_no hal)) _⟩
  have hf := Classical.not_not.mp hf
  obtain ⟨l, e1, e2, e3⟩ := ils_all (filter_none hf)
  rw [hf]
  (try simp only [ex_c, ex_var, ex_op, ex_un, ex_b, ex_and, ex_or, ex_not, ex_andV, ex_orV, ex_notV, ex_if, ex_chain, ex_nil, ex_cons, ex_tup, ex_lst, ex_call, ex_callP, ex_cb, ex_bm, ex_rep, ex_sl, ex_noPart, ex_part, ex_yes, it_items, it_rng1, it_rng2, tg_name, tg_sub, tg_tup, tg_cons, tg_nil, gs_0, gs_s, ss_0, ss_s, op_ii, op_ss, op_tt, op_mm, op_sb, op_ng, op_iNf, op_iNt, op_lle, op_ixT, op_ixR, op_ixL, op_putE, op_appE, it_tupE, it_rolE, it_refE, lstOf_l, exL, asS_some, asI_int, asB_bl, asL_some, asN_some, ite3_t, ite3_f, bl_1, bl_lenT, bl_lenR, bl_lenL, bl_lenS, bl_tuple, bl_list, bl_abs, bl_intI, bl_intB, bl_max, bl_min, op_eqSf, op_eqSt, op_eqIf, op_eqIt, op_eqTf, op_eqTt, op_eqRf, op_eqRt, op_eqNf, op_eqNt, eqD_int, eqD_nil, pl_int, pl_nil, pl_non, pl_rnil, pl_bl, sl_tupE, sl_rolE, keep_ref, keep_tup, keep_rol, tp_int, tp_tup, tp_rol, tp_str, tp_bl, tp_non, tp_ref, oFd, oMd, oPw, oShl, oLt, oLe, oGt, oGe, op_in, op_cp, wipe_nil, wipe_cons, mset_same, true_and, and_true, isN_int, ex_lstF, ex_repF, ex_lgF1, ex_lgF2, ex_tupRg1, ex_tupRg2, ex_frz, ex_slF, ex_slM, sl_tupF, sl_rolF, op_iiF, op_ssF, op_ttF, op_rrF, op_rrM, op_mmF, op_repF, li_rol, li_ref, bl_listF, bl_allF, bl_anyF, asT_some, asJ_some, op_eqBf, op_eqBt, isN_non, Bool.not_true, Bool.not_false, rep2])
  try dsimp only
  rw [st_seq, st_if]
  simp only [ex_c, ex_var, ex_op, ex_un, ex_b, ex_and, ex_or, ex_not, ex_andV, ex_orV, ex_notV, ex_if, ex_chain, ex_nil, ex_cons, ex_tup, ex_lst, ex_call, ex_callP, ex_cb, ex_bm, ex_rep, ex_sl, ex_noPart, ex_part, ex_yes, it_items, it_rng1, it_rng2, tg_name, tg_sub, tg_tup, tg_cons, tg_nil, gs_0, gs_s, ss_0, ss_s, op_ii, op_ss, op_tt, op_mm, op_sb, op_ng, op_iNf, op_iNt, op_lle, op_ixT, op_ixR, op_ixL, op_putE, op_appE, it_tupE, it_rolE, it_refE, lstOf_l, exL, asS_some, asI_int, asB_bl, asL_some, asN_some, ite3_t, ite3_f, bl_1, bl_lenT, bl_lenR, bl_lenL, bl_lenS, bl_tuple, bl_list, bl_abs, bl_intI, bl_intB, bl_max, bl_min, op_eqSf, op_eqSt, op_eqIf, op_eqIt, op_eqTf, op_eqTt, op_eqRf, op_eqRt, op_eqNf, op_eqNt, eqD_int, eqD_nil, pl_int, pl_nil, pl_non, pl_rnil, pl_bl, sl_tupE, sl_rolE, keep_ref, keep_tup, keep_rol, tp_int, tp_tup, tp_rol, tp_str, tp_bl, tp_non, tp_ref, oFd, oMd, oPw, oShl, oLt, oLe, oGt, oGe, op_in, op_cp, wipe_nil, wipe_cons, mset_same, true_and, and_true, isN_int, ex_lstF, ex_repF, ex_lgF1, ex_lgF2, ex_tupRg1, ex_tupRg2, ex_frz, ex_slF, ex_slM, sl_tupF, sl_rolF, op_iiF, op_ssF, op_ttF, op_rrF, op_rrM, op_mmF, op_repF, li_rol, li_ref, bl_listF, bl_allF, bl_anyF, asT_some, asJ_some, op_eqBf, op_eqBt, isN_non, Bool.not_true, Bool.not_false, rep2]
  refine ⟨Nat.zero_le _, ?_⟩
  rw [op_eqLt]
  refine ⟨by rw [pl_rnil]; trivial, by rw [tp_rol, pl_rnil]; trivial, ?_⟩
  rw [tp_rol, eqD_rem14]
  subst e2
  have hll : ((l.map D.int).length : Int) = (l.length : Int) := by rw [List.length_map]
  rw [List.length_map] at hl
  (try simp only [ex_c, ex_var, ex_op, ex_un, ex_b, ex_and, ex_or, ex_not, ex_andV, ex_orV, ex_notV, ex_if, ex_chain, ex_nil, ex_cons, ex_tup, ex_lst, ex_call, ex_callP, ex_cb, ex_bm, ex_rep, ex_sl, ex_noPart, ex_part, ex_yes, it_items, it_rng1, it_rng2, tg_name, tg_sub, tg_tup, tg_cons, tg_nil, gs_0, gs_s, ss_0, ss_s, op_ii, op_ss, op_tt, op_mm, op_sb, op_ng, op_iNf, op_iNt, op_lle, op_ixT, op_ixR, op_ixL, op_putE, op_appE, it_tupE, it_rolE, it_refE, lstOf_l, exL, asS_some, asI_int, asB_bl, asL_some, asN_some, ite3_t, ite3_f, bl_1, bl_lenT, bl_lenR, bl_lenL, bl_lenS, bl_tuple, bl_list, bl_abs, bl_intI, bl_intB, bl_max, bl_min, op_eqSf, op_eqSt, op_eqIf, op_eqIt, op_eqTf, op_eqTt, op_eqRf, op_eqRt, op_eqNf, op_eqNt, eqD_int, eqD_nil, pl_int, pl_nil, pl_non, pl_rnil, pl_bl, sl_tupE, sl_rolE, keep_ref, keep_tup, keep_rol, tp_int, tp_tup, tp_rol, tp_str, tp_bl, tp_non, tp_ref, oFd, oMd, oPw, oShl, oLt, oLe, oGt, oGe, op_in, op_cp, wipe_nil, wipe_cons, mset_same, true_and, and_true, isN_int, ex_lstF, ex_repF, ex_lgF1, ex_lgF2, ex_tupRg1, ex_tupRg2, ex_frz, ex_slF, ex_slM, sl_tupF, sl_rolF, op_iiF, op_ssF, op_ttF, op_rrF, op_rrM, op_mmF, op_repF, li_rol, li_ref, bl_listF, bl_allF, bl_anyF, asT_some, asJ_some, op_eqBf, op_eqBt, isN_non, Bool.not_true, Bool.not_false, rep2, List.isEmpty_nil, Bool.not_true, ex_lenSet, tupI_ints, hll])
  refine ⟨by omega, fun c hc => ?_⟩
  (try simp only [ex_c, ex_var, ex_op, ex_un, ex_b, ex_and, ex_or, ex_not, ex_andV, ex_orV, ex_notV, ex_if, ex_chain, ex_nil, ex_cons, ex_tup, ex_lst, ex_call, ex_callP, ex_cb, ex_bm, ex_rep, ex_sl, ex_noPart, ex_part, ex_yes, it_items, it_rng1, it_rng2, tg_name, tg_sub, tg_tup, tg_cons, tg_nil, gs_0, gs_s, ss_0, ss_s, op_ii, op_ss, op_tt, op_mm, op_sb, op_ng, op_iNf, op_iNt, op_lle, op_ixT, op_ixR, op_ixL, op_putE, op_appE, it_tupE, it_rolE, it_refE, lstOf_l, exL, asS_some, asI_int, asB_bl, asL_some, asN_some, ite3_t, ite3_f, bl_1, bl_lenT, bl_lenR, bl_lenL, bl_lenS, bl_tuple, bl_list, bl_abs, bl_intI, bl_intB, bl_max, bl_min, op_eqSf, op_eqSt, op_eqIf, op_eqIt, op_eqTf, op_eqTt, op_eqRf, op_eqRt, op_eqNf, op_eqNt, eqD_int, eqD_nil, pl_int, pl_nil, pl_non, pl_rnil, pl_bl, sl_tupE, sl_rolE, keep_ref, keep_tup, keep_rol, tp_int, tp_tup, tp_rol, tp_str, tp_bl, tp_non, tp_ref, oFd, oMd, oPw, oShl, oLt, oLe, oGt, oGe, op_in, op_cp, wipe_nil, wipe_cons, mset_same, true_and, and_true, isN_int, ex_lstF, ex_repF, ex_lgF1, ex_lgF2, ex_tupRg1, ex_tupRg2, ex_frz, ex_slF, ex_slM, sl_tupF, sl_rolF, op_iiF, op_ssF, op_ttF, op_rrF, op_rrM, op_mmF, op_repF, li_rol, li_ref, bl_listF, bl_allF, bl_anyF, asT_some, asJ_some, op_eqBf, op_eqBt, isN_non, Bool.not_true, Bool.not_false, rep2])
  have lne : l ≠ [] := fun e => by rw [e] at hne; cases hne
  by_cases nd : ¬ l.Nodup
  · have hcn : ¬ (c : Int) = (l.length : Int) := fun e => nd (hc.iff.mp (by omega))
    rw [decide_eq_false hcn]
    (try simp only [ex_c, ex_var, ex_op, ex_un, ex_b, ex_and, ex_or, ex_not, ex_andV, ex_orV, ex_notV, ex_if, ex_chain, ex_nil, ex_cons, ex_tup, ex_lst, ex_call, ex_callP, ex_cb, ex_bm, ex_rep, ex_sl, ex_noPart, ex_part, ex_yes, it_items, it_rng1, it_rng2, tg_name, tg_sub, tg_tup, tg_cons, tg_nil, gs_0, gs_s, ss_0, ss_s, op_ii, op_ss, op_tt, op_mm, op_sb, op_ng, op_iNf, op_iNt, op_lle, op_ixT, op_ixR, op_ixL, op_putE, op_appE, it_tupE, it_rolE, it_refE, lstOf_l, exL, asS_some, asI_int, asB_bl, asL_some, asN_some, ite3_t, ite3_f, bl_1, bl_lenT, bl_lenR, bl_lenL, bl_lenS, bl_tuple, bl_list, bl_abs, bl_intI, bl_intB, bl_max, bl_min, op_eqSf, op_eqSt, op_eqIf, op_eqIt, op_eqTf, op_eqTt, op_eqRf, op_eqRt, op_eqNf, op_eqNt, eqD_int, eqD_nil, pl_int, pl_nil, pl_non, pl_rnil, pl_bl, sl_tupE, sl_rolE, keep_ref, keep_tup, keep_rol, tp_int, tp_tup, tp_rol, tp_str, tp_bl, tp_non, tp_ref, oFd, oMd, oPw, oShl, oLt, oLe, oGt, oGe, op_in, op_cp, wipe_nil, wipe_cons, mset_same, true_and, and_true, isN_int, ex_lstF, ex_repF, ex_lgF1, ex_lgF2, ex_tupRg1, ex_tupRg2, ex_frz, ex_slF, ex_slM, sl_tupF, sl_rolF, op_iiF, op_ssF, op_ttF, op_rrF, op_rrM, op_mmF, op_repF, li_rol, li_ref, bl_listF, bl_allF, bl_anyF, asT_some, asJ_some, op_eqBf, op_eqBt, isN_non, Bool.not_true, Bool.not_false, rep2, Bool.not_false])
    rw [st_ret]
    simp only [ex_c, ex_var, ex_op, ex_un, ex_b, ex_and, ex_or, ex_not, ex_andV, ex_orV, ex_notV, ex_if, ex_chain, ex_nil, ex_cons, ex_tup, ex_lst, ex_call, ex_callP, ex_cb, ex_bm, ex_rep, ex_sl, ex_noPart, ex_part, ex_yes, it_items, it_rng1, it_rng2, tg_name, tg_sub, tg_tup, tg_cons, tg_nil, gs_0, gs_s, ss_0, ss_s, op_ii, op_ss, op_tt, op_mm, op_sb, op_ng, op_iNf, op_iNt, op_lle, op_ixT, op_ixR, op_ixL, op_putE, op_appE, it_tupE, it_rolE, it_refE, lstOf_l, exL, asS_some, asI_int, asB_bl, asL_some, asN_some, ite3_t, ite3_f, bl_1, bl_lenT, bl_lenR, bl_lenL, bl_lenS, bl_tuple, bl_list, bl_abs, bl_intI, bl_intB, bl_max, bl_min, op_eqSf, op_eqSt, op_eqIf, op_eqIt, op_eqTf, op_eqTt, op_eqRf, op_eqRt, op_eqNf, op_eqNt, eqD_int, eqD_nil, pl_int, pl_nil, pl_non, pl_rnil, pl_bl, sl_tupE, sl_rolE, keep_ref, keep_tup, keep_rol, tp_int, tp_tup, tp_rol, tp_str, tp_bl, tp_non, tp_ref, oFd, oMd, oPw, oShl, oLt, oLe, oGt, oGe, op_in, op_cp, wipe_nil, wipe_cons, mset_same, true_and, and_true, isN_int, ex_lstF, ex_repF, ex_lgF1, ex_lgF2, ex_tupRg1, ex_tupRg2, ex_frz, ex_slF, ex_slM, sl_tupF, sl_rolF, op_iiF, op_ssF, op_ttF, op_rrF, op_rrM, op_mmF, op_repF, li_rol, li_ref, bl_listF, bl_allF, bl_anyF, asT_some, asJ_some, op_eqBf, op_eqBt, isN_non, Bool.not_true, Bool.not_false, rep2]
    refine ⟨by show 2 ≤ sizeLine; omega, sh (.shape hTn ?_) _⟩
    unfold ringV
    simp only [e1]
    rw [if_neg (by simp [nd])]
  have nd := Classical.not_not.mp nd
  rw [hc.iff.mpr nd]
  (try simp only [ex_c, ex_var, ex_op, ex_un, ex_b, ex_and, ex_or, ex_not, ex_andV, ex_orV, ex_notV, ex_if, ex_chain, ex_nil, ex_cons, ex_tup, ex_lst, ex_call, ex_callP, ex_cb, ex_bm, ex_rep, ex_sl, ex_noPart, ex_part, ex_yes, it_items, it_rng1, it_rng2, tg_name, tg_sub, tg_tup, tg_cons, tg_nil, gs_0, gs_s, ss_0, ss_s, op_ii, op_ss, op_tt, op_mm, op_sb, op_ng, op_iNf, op_iNt, op_lle, op_ixT, op_ixR, op_ixL, op_putE, op_appE, it_tupE, it_rolE, it_refE, lstOf_l, exL, asS_some, asI_int, asB_bl, asL_some, asN_some, ite3_t, ite3_f, bl_1, bl_lenT, bl_lenR, bl_lenL, bl_lenS, bl_tuple, bl_list, bl_abs, bl_intI, bl_intB, bl_max, bl_min, op_eqSf, op_eqSt, op_eqIf, op_eqIt, op_eqTf, op_eqTt, op_eqRf, op_eqRt, op_eqNf, op_eqNt, eqD_int, eqD_nil, pl_int, pl_nil, pl_non, pl_rnil, pl_bl, sl_tupE, sl_rolE, keep_ref, keep_tup, keep_rol, tp_int, tp_tup, tp_rol, tp_str, tp_bl, tp_non, tp_ref, oFd, oMd, oPw, oShl, oLt, oLe, oGt, oGe, op_in, op_cp, wipe_nil, wipe_cons, mset_same, true_and, and_true, isN_int, ex_lstF, ex_repF, ex_lgF1, ex_lgF2, ex_tupRg1, ex_tupRg2, ex_frz, ex_slF, ex_slM, sl_tupF, sl_rolF, op_iiF, op_ssF, op_ttF, op_rrF, op_rrM, op_mmF, op_repF, li_rol, li_ref, bl_listF, bl_allF, bl_anyF, asT_some, asJ_some, op_eqBf, op_eqBt, isN_non, Bool.not_true, Bool.not_false, rep2, decide_true, Bool.not_true])
  rw [st_next]
  have hr : ringV n (.tup (l.map D.int)) = some l := by
    unfold ringV
    simp only [e1, e3]
    have : l.isEmpty = false := by cases l with
      | nil => exact absurd rfl lne
      | cons _ _ => rfl
    simp [this, nd]
  obtain ⟨e, ne, nd', lt⟩ := ringV_nats hr
  have tell : ∀ v, Told (at2 T) (natsOf l) v → ∀ M, Q (toldD v) M := fun v h M => q v (.ring l v hTn hr h) M
  have hlr : (natsOf l).length = l.length := List.length_map _
  rw [e]
  generalize natsOf l = rs at e ne nd' lt tell hlr
  have hl0 : 0 < rs.length := List.length_pos_iff.mpr ne
  have hlen : ((natL rs).length : Int) = (rs.length : Int) := by rw [natL_len]
  have hgd : ∀ k, k < rs.length → rs.getD k 0 < n := fun k hk => by
    rw [List.getD_eq_getElem?_getD, List.getElem?_eq_getElem hk]; exact lt _ (List.getElem_mem hk)
  try dsimp only
  rw [st_seq, st_set]
  simp only [ex_c, ex_var, ex_op, ex_un, ex_b, ex_and, ex_or, ex_not, ex_andV, ex_orV, ex_notV, ex_if, ex_chain, ex_nil, ex_cons, ex_tup, ex_lst, ex_call, ex_callP, ex_cb, ex_bm, ex_rep, ex_sl, ex_noPart, ex_part, ex_yes, it_items, it_rng1, it_rng2, tg_name, tg_sub, tg_tup, tg_cons, tg_nil, gs_0, gs_s, ss_0, ss_s, op_ii, op_ss, op_tt, op_mm, op_sb, op_ng, op_iNf, op_iNt, op_lle, op_ixT, op_ixR, op_ixL, op_putE, op_appE, it_tupE, it_rolE, it_refE, lstOf_l, exL, asS_some, asI_int, asB_bl, asL_some, asN_some, ite3_t, ite3_f, bl_1, bl_lenT, bl_lenR, bl_lenL, bl_lenS, bl_tuple, bl_list, bl_abs, bl_intI, bl_intB, bl_max, bl_min, op_eqSf, op_eqSt, op_eqIf, op_eqIt, op_eqTf, op_eqTt, op_eqRf, op_eqRt, op_eqNf, op_eqNt, eqD_int, eqD_nil, pl_int, pl_nil, pl_non, pl_rnil, pl_bl, sl_tupE, sl_rolE, keep_ref, keep_tup, keep_rol, tp_int, tp_tup, tp_rol, tp_str, tp_bl, tp_non, tp_ref, oFd, oMd, oPw, oShl, oLt, oLe, oGt, oGe, op_in, op_cp, wipe_nil, wipe_cons, mset_same, true_and, and_true, isN_int, ex_lstF, ex_repF, ex_lgF1, ex_lgF2, ex_tupRg1, ex_tupRg2, ex_frz, ex_slF, ex_slM, sl_tupF, sl_rolF, op_iiF, op_ssF, op_ttF, op_rrF, op_rrM, op_mmF, op_repF, li_rol, li_ref, bl_listF, bl_allF, bl_anyF, asT_some, asJ_some, op_eqBf, op_eqBt, isN_non, Bool.not_true, Bool.not_false, rep2]
  try dsimp only
  rw [st_seq, st_for]
  simp only [ex_c, ex_var, ex_op, ex_un, ex_b, ex_and, ex_or, ex_not, ex_andV, ex_orV, ex_notV, ex_if, ex_chain, ex_nil, ex_cons, ex_tup, ex_lst, ex_call, ex_callP, ex_cb, ex_bm, ex_rep, ex_sl, ex_noPart, ex_part, ex_yes, it_items, it_rng1, it_rng2, tg_name, tg_sub, tg_tup, tg_cons, tg_nil, gs_0, gs_s, ss_0, ss_s, op_ii, op_ss, op_tt, op_mm, op_sb, op_ng, op_iNf, op_iNt, op_lle, op_ixT, op_ixR, op_ixL, op_putE, op_appE, it_tupE, it_rolE, it_refE, lstOf_l, exL, asS_some, asI_int, asB_bl, asL_some, asN_some, ite3_t, ite3_f, bl_1, bl_lenT, bl_lenR, bl_lenL, bl_lenS, bl_tuple, bl_list, bl_abs, bl_intI, bl_intB, bl_max, bl_min, op_eqSf, op_eqSt, op_eqIf, op_eqIt, op_eqTf, op_eqTt, op_eqRf, op_eqRt, op_eqNf, op_eqNt, eqD_int, eqD_nil, pl_int, pl_nil, pl_non, pl_rnil, pl_bl, sl_tupE, sl_rolE, keep_ref, keep_tup, keep_rol, tp_int, tp_tup, tp_rol, tp_str, tp_bl, tp_non, tp_ref, oFd, oMd, oPw, oShl, oLt, oLe, oGt, oGe, op_in, op_cp, wipe_nil, wipe_cons, mset_same, true_and, and_true, isN_int, ex_lstF, ex_repF, ex_lgF1, ex_lgF2, ex_tupRg1, ex_tupRg2, ex_frz, ex_slF, ex_slM, sl_tupF, sl_rolF, op_iiF, op_ssF, op_ttF, op_rrF, op_rrM, op_mmF, op_repF, li_rol, li_ref, bl_listF, bl_allF, bl_anyF, asT_some, asJ_some, op_eqBf, op_eqBt, isN_non, Bool.not_true, Bool.not_false, rep2, hlen, Int.toNat_natCast]
  refine ⟨by omega, by omega, ?_⟩
  refine for_rg (fun k τ M => k ≤ rs.length ∧ (∀ j, j < k → endK (at2 T) rs j ≠ none) ∧ ∃ x5 x6, τ = [some (tabD T), some (.tup (natL rs)), some (.rol []), none, some (.int (sumK (at2 T) rs k)), x5, x6]) ?_ ?_ ⟨Nat.zero_le _, (fun j h => absurd h (Nat.not_lt_zero _)), _, _, rfl⟩
  · rintro k τ M hkr ⟨_, hall, x5, x6, rfl⟩ Y hY
    have hz0 : (0 : Int) + (k : Nat) = (k : Nat) := by omega
    have md := md_in (x := ((k : Nat) : Int) + 1) (n := (rs.length : Int)) (by omega)
    have hm : (((k : Nat) : Int) + 1).fmod (rs.length : Int) = (((k + 1) % rs.length : Nat) : Int) := by
      rw [Int.fmod_eq_emod_of_nonneg _ (by omega), Int.natCast_emod, Int.natCast_add]; rfl
    have e0 : atI (natL rs) ((k : Nat) : Int) = some (.int (rs.getD k 0 : Nat)) := fnN_at hkr
    have e2 : atI (natL rs) (((k + 1) % rs.length : Nat) : Int) = some (.int (rs.getD ((k + 1) % rs.length) 0 : Nat)) := fnN_at (Nat.mod_lt _ hl0)
    obtain ⟨row, _, _, h2, h3, _⟩ := tT.sq.get (p := (rs.getD k 0 : Nat)) (q := (rs.getD ((k + 1) % rs.length) 0 : Nat)) (by omega) (by have := hgd k hkr; omega) (by omega) (by have := hgd _ (Nat.mod_lt (k + 1) hl0); omega)
    rw [Int.toNat_natCast, Int.toNat_natCast] at h3
    have h3 : atI (row.map oD) ((rs.getD ((k + 1) % rs.length) 0 : Nat) : Int) = some (oD (endK (at2 T) rs k)) := h3
    rw [tg_name, hz0, st_seq, st_set]
    simp only [ex_c, ex_var, ex_op, ex_un, ex_b, ex_and, ex_or, ex_not, ex_andV, ex_orV, ex_notV, ex_if, ex_chain, ex_nil, ex_cons, ex_tup, ex_lst, ex_call, ex_callP, ex_cb, ex_bm, ex_rep, ex_sl, ex_noPart, ex_part, ex_yes, it_items, it_rng1, it_rng2, tg_name, tg_sub, tg_tup, tg_cons, tg_nil, gs_0, gs_s, ss_0, ss_s, op_ii, op_ss, op_tt, op_mm, op_sb, op_ng, op_iNf, op_iNt, op_lle, op_ixT, op_ixR, op_ixL, op_putE, op_appE, it_tupE, it_rolE, it_refE, lstOf_l, exL, asS_some, asI_int, asB_bl, asL_some, asN_some, ite3_t, ite3_f, bl_1, bl_lenT, bl_lenR, bl_lenL, bl_lenS, bl_tuple, bl_list, bl_abs, bl_intI, bl_intB, bl_max, bl_min, op_eqSf, op_eqSt, op_eqIf, op_eqIt, op_eqTf, op_eqTt, op_eqRf, op_eqRt, op_eqNf, op_eqNt, eqD_int, eqD_nil, pl_int, pl_nil, pl_non, pl_rnil, pl_bl, sl_tupE, sl_rolE, keep_ref, keep_tup, keep_rol, tp_int, tp_tup, tp_rol, tp_str, tp_bl, tp_non, tp_ref, oFd, oMd, oPw, oShl, oLt, oLe, oGt, oGe, op_in, op_cp, wipe_nil, wipe_cons, mset_same, true_and, and_true, isN_int, ex_lstF, ex_repF, ex_lgF1, ex_lgF2, ex_tupRg1, ex_tupRg2, ex_frz, ex_slF, ex_slM, sl_tupF, sl_rolF, op_iiF, op_ssF, op_ttF, op_rrF, op_rrM, op_mmF, op_repF, li_rol, li_ref, bl_listF, bl_allF, bl_anyF, asT_some, asJ_some, op_eqBf, op_eqBt, isN_non, Bool.not_true, Bool.not_false, rep2, e0, tabD, h2, hlen]
    refine ⟨by omega, ?_⟩
    rw [hm]
    (try simp only [ex_c, ex_var, ex_op, ex_un, ex_b, ex_and, ex_or, ex_not, ex_andV, ex_orV, ex_notV, ex_if, ex_chain, ex_nil, ex_cons, ex_tup, ex_lst, ex_call, ex_callP, ex_cb, ex_bm, ex_rep, ex_sl, ex_noPart, ex_part, ex_yes, it_items, it_rng1, it_rng2, tg_name, tg_sub, tg_tup, tg_cons, tg_nil, gs_0, gs_s, ss_0, ss_s, op_ii, op_ss, op_tt, op_mm, op_sb, op_ng, op_iNf, op_iNt, op_lle, op_ixT, op_ixR, op_ixL, op_putE, op_appE, it_tupE, it_rolE, it_refE, lstOf_l, exL, asS_some, asI_int, asB_bl, asL_some, asN_some, ite3_t, ite3_f, bl_1, bl_lenT, bl_lenR, bl_lenL, bl_lenS, bl_tuple, bl_list, bl_abs, bl_intI, bl_intB, bl_max, bl_min, op_eqSf, op_eqSt, op_eqIf, op_eqIt, op_eqTf, op_eqTt, op_eqRf, op_eqRt, op_eqNf, op_eqNt, eqD_int, eqD_nil, pl_int, pl_nil, pl_non, pl_rnil, pl_bl, sl_tupE, sl_rolE, keep_ref, keep_tup, keep_rol, tp_int, tp_tup, tp_rol, tp_str, tp_bl, tp_non, tp_ref, oFd, oMd, oPw, oShl, oLt, oLe, oGt, oGe, op_in, op_cp, wipe_nil, wipe_cons, mset_same, true_and, and_true, isN_int, ex_lstF, ex_repF, ex_lgF1, ex_lgF2, ex_tupRg1, ex_tupRg2, ex_frz, ex_slF, ex_slM, sl_tupF, sl_rolF, op_iiF, op_ssF, op_ttF, op_rrF, op_rrM, op_mmF, op_repF, li_rol, li_ref, bl_listF, bl_allF, bl_anyF, asT_some, asJ_some, op_eqBf, op_eqBt, isN_non, Bool.not_true, Bool.not_false, rep2, e2, h3])
    try dsimp only
    rw [st_seq, st_if]
    cases he : endK (at2 T) rs k with
    | none =>
      simp only [ex_c, ex_var, ex_op, ex_un, ex_b, ex_and, ex_or, ex_not, ex_andV, ex_orV, ex_notV, ex_if, ex_chain, ex_nil, ex_cons, ex_tup, ex_lst, ex_call, ex_callP, ex_cb, ex_bm, ex_rep, ex_sl, ex_noPart, ex_part, ex_yes, it_items, it_rng1, it_rng2, tg_name, tg_sub, tg_tup, tg_cons, tg_nil, gs_0, gs_s, ss_0, ss_s, op_ii, op_ss, op_tt, op_mm, op_sb, op_ng, op_iNf, op_iNt, op_lle, op_ixT, op_ixR, op_ixL, op_putE, op_appE, it_tupE, it_rolE, it_refE, lstOf_l, exL, asS_some, asI_int, asB_bl, asL_some, asN_some, ite3_t, ite3_f, bl_1, bl_lenT, bl_lenR, bl_lenL, bl_lenS, bl_tuple, bl_list, bl_abs, bl_intI, bl_intB, bl_max, bl_min, op_eqSf, op_eqSt, op_eqIf, op_eqIt, op_eqTf, op_eqTt, op_eqRf, op_eqRt, op_eqNf, op_eqNt, eqD_int, eqD_nil, pl_int, pl_nil, pl_non, pl_rnil, pl_bl, sl_tupE, sl_rolE, keep_ref, keep_tup, keep_rol, tp_int, tp_tup, tp_rol, tp_str, tp_bl, tp_non, tp_ref, oFd, oMd, oPw, oShl, oLt, oLe, oGt, oGe, op_in, op_cp, wipe_nil, wipe_cons, mset_same, true_and, and_true, isN_int, ex_lstF, ex_repF, ex_lgF1, ex_lgF2, ex_tupRg1, ex_tupRg2, ex_frz, ex_slF, ex_slM, sl_tupF, sl_rolF, op_iiF, op_ssF, op_ttF, op_rrF, op_rrM, op_mmF, op_repF, li_rol, li_ref, bl_listF, bl_allF, bl_anyF, asT_some, asJ_some, op_eqBf, op_eqBt, isN_non, Bool.not_true, Bool.not_false, rep2, oD, isN_non]
      rw [st_ret]
      simp only [ex_c, ex_var, ex_op, ex_un, ex_b, ex_and, ex_or, ex_not, ex_andV, ex_orV, ex_notV, ex_if, ex_chain, ex_nil, ex_cons, ex_tup, ex_lst, ex_call, ex_callP, ex_cb, ex_bm, ex_rep, ex_sl, ex_noPart, ex_part, ex_yes, it_items, it_rng1, it_rng2, tg_name, tg_sub, tg_tup, tg_cons, tg_nil, gs_0, gs_s, ss_0, ss_s, op_ii, op_ss, op_tt, op_mm, op_sb, op_ng, op_iNf, op_iNt, op_lle, op_ixT, op_ixR, op_ixL, op_putE, op_appE, it_tupE, it_rolE, it_refE, lstOf_l, exL, asS_some, asI_int, asB_bl, asL_some, asN_some, ite3_t, ite3_f, bl_1, bl_lenT, bl_lenR, bl_lenL, bl_lenS, bl_tuple, bl_list, bl_abs, bl_intI, bl_intB, bl_max, bl_min, op_eqSf, op_eqSt, op_eqIf, op_eqIt, op_eqTf, op_eqTt, op_eqRf, op_eqRt, op_eqNf, op_eqNt, eqD_int, eqD_nil, pl_int, pl_nil, pl_non, pl_rnil, pl_bl, sl_tupE, sl_rolE, keep_ref, keep_tup, keep_rol, tp_int, tp_tup, tp_rol, tp_str, tp_bl, tp_non, tp_ref, oFd, oMd, oPw, oShl, oLt, oLe, oGt, oGe, op_in, op_cp, wipe_nil, wipe_cons, mset_same, true_and, and_true, isN_int, ex_lstF, ex_repF, ex_lgF1, ex_lgF2, ex_tupRg1, ex_tupRg2, ex_frz, ex_slF, ex_slM, sl_tupF, sl_rolF, op_iiF, op_ssF, op_ttF, op_rrF, op_rrM, op_mmF, op_repF, li_rol, li_ref, bl_listF, bl_allF, bl_anyF, asT_some, asJ_some, op_eqBf, op_eqBt, isN_non, Bool.not_true, Bool.not_false, rep2]
      exact ⟨by show 2 ≤ sizeLine; omega, tell _ (.gap k hkr hall he) _⟩
    | some x =>
      simp only [ex_c, ex_var, ex_op, ex_un, ex_b, ex_and, ex_or, ex_not, ex_andV, ex_orV, ex_notV, ex_if, ex_chain, ex_nil, ex_cons, ex_tup, ex_lst, ex_call, ex_callP, ex_cb, ex_bm, ex_rep, ex_sl, ex_noPart, ex_part, ex_yes, it_items, it_rng1, it_rng2, tg_name, tg_sub, tg_tup, tg_cons, tg_nil, gs_0, gs_s, ss_0, ss_s, op_ii, op_ss, op_tt, op_mm, op_sb, op_ng, op_iNf, op_iNt, op_lle, op_ixT, op_ixR, op_ixL, op_putE, op_appE, it_tupE, it_rolE, it_refE, lstOf_l, exL, asS_some, asI_int, asB_bl, asL_some, asN_some, ite3_t, ite3_f, bl_1, bl_lenT, bl_lenR, bl_lenL, bl_lenS, bl_tuple, bl_list, bl_abs, bl_intI, bl_intB, bl_max, bl_min, op_eqSf, op_eqSt, op_eqIf, op_eqIt, op_eqTf, op_eqTt, op_eqRf, op_eqRt, op_eqNf, op_eqNt, eqD_int, eqD_nil, pl_int, pl_nil, pl_non, pl_rnil, pl_bl, sl_tupE, sl_rolE, keep_ref, keep_tup, keep_rol, tp_int, tp_tup, tp_rol, tp_str, tp_bl, tp_non, tp_ref, oFd, oMd, oPw, oShl, oLt, oLe, oGt, oGe, op_in, op_cp, wipe_nil, wipe_cons, mset_same, true_and, and_true, isN_int, ex_lstF, ex_repF, ex_lgF1, ex_lgF2, ex_tupRg1, ex_tupRg2, ex_frz, ex_slF, ex_slM, sl_tupF, sl_rolF, op_iiF, op_ssF, op_ttF, op_rrF, op_rrM, op_mmF, op_repF, li_rol, li_ref, bl_listF, bl_allF, bl_anyF, asT_some, asJ_some, op_eqBf, op_eqBt, isN_non, Bool.not_true, Bool.not_false, rep2, oD, isN_int]
      rw [st_next]
      try dsimp only
      rw [st_set]
      simp only [ex_c, ex_var, ex_op, ex_un, ex_b, ex_and, ex_or, ex_not, ex_andV, ex_orV, ex_notV, ex_if, ex_chain, ex_nil, ex_cons, ex_tup, ex_lst, ex_call, ex_callP, ex_cb, ex_bm, ex_rep, ex_sl, ex_noPart, ex_part, ex_yes, it_items, it_rng1, it_rng2, tg_name, tg_sub, tg_tup, tg_cons, tg_nil, gs_0, gs_s, ss_0, ss_s, op_ii, op_ss, op_tt, op_mm, op_sb, op_ng, op_iNf, op_iNt, op_lle, op_ixT, op_ixR, op_ixL, op_putE, op_appE, it_tupE, it_rolE, it_refE, lstOf_l, exL, asS_some, asI_int, asB_bl, asL_some, asN_some, ite3_t, ite3_f, bl_1, bl_lenT, bl_lenR, bl_lenL, bl_lenS, bl_tuple, bl_list, bl_abs, bl_intI, bl_intB, bl_max, bl_min, op_eqSf, op_eqSt, op_eqIf, op_eqIt, op_eqTf, op_eqTt, op_eqRf, op_eqRt, op_eqNf, op_eqNt, eqD_int, eqD_nil, pl_int, pl_nil, pl_non, pl_rnil, pl_bl, sl_tupE, sl_rolE, keep_ref, keep_tup, keep_rol, tp_int, tp_tup, tp_rol, tp_str, tp_bl, tp_non, tp_ref, oFd, oMd, oPw, oShl, oLt, oLe, oGt, oGe, op_in, op_cp, wipe_nil, wipe_cons, mset_same, true_and, and_true, isN_int, ex_lstF, ex_repF, ex_lgF1, ex_lgF2, ex_tupRg1, ex_tupRg2, ex_frz, ex_slF, ex_slM, sl_tupF, sl_rolF, op_iiF, op_ssF, op_ttF, op_rrF, op_rrM, op_mmF, op_repF, li_rol, li_ref, bl_listF, bl_allF, bl_anyF, asT_some, asJ_some, op_eqBf, op_eqBt, isN_non, Bool.not_true, Bool.not_false, rep2]
      have es : sumK (at2 T) rs k + x = sumK (at2 T) rs (k + 1) := by
        show _ = sumK (at2 T) rs k + (endK (at2 T) rs k).getD 0
        rw [he]; rfl
      rw [es]
      refine hY _ _ ⟨hkr, fun j hj => ?_, _, _, rfl⟩
      rcases Nat.lt_or_ge j k with z | z
      · exact hall j z
      · have : j = k := by omega
        rw [this, he]; exact fun z => nomatch z
  · rintro τ M ⟨_, hall, x5, x6, rfl⟩
    try dsimp only
    rw [st_ret]
    simp only [ex_c, ex_var, ex_op, ex_un, ex_b, ex_and, ex_or, ex_not, ex_andV, ex_orV, ex_notV, ex_if, ex_chain, ex_nil, ex_cons, ex_tup, ex_lst, ex_call, ex_callP, ex_cb, ex_bm, ex_rep, ex_sl, ex_noPart, ex_part, ex_yes, it_items, it_rng1, it_rng2, tg_name, tg_sub, tg_tup, tg_cons, tg_nil, gs_0, gs_s, ss_0, ss_s, op_ii, op_ss, op_tt, op_mm, op_sb, op_ng, op_iNf, op_iNt, op_lle, op_ixT, op_ixR, op_ixL, op_putE, op_appE, it_tupE, it_rolE, it_refE, lstOf_l, exL, asS_some, asI_int, asB_bl, asL_some, asN_some, ite3_t, ite3_f, bl_1, bl_lenT, bl_lenR, bl_lenL, bl_lenS, bl_tuple, bl_list, bl_abs, bl_intI, bl_intB, bl_max, bl_min, op_eqSf, op_eqSt, op_eqIf, op_eqIt, op_eqTf, op_eqTt, op_eqRf, op_eqRt, op_eqNf, op_eqNt, eqD_int, eqD_nil, pl_int, pl_nil, pl_non, pl_rnil, pl_bl, sl_tupE, sl_rolE, keep_ref, keep_tup, keep_rol, tp_int, tp_tup, tp_rol, tp_str, tp_bl, tp_non, tp_ref, oFd, oMd, oPw, oShl, oLt, oLe, oGt, oGe, op_in, op_cp, wipe_nil, wipe_cons, mset_same, true_and, and_true, isN_int, ex_lstF, ex_repF, ex_lgF1, ex_lgF2, ex_tupRg1, ex_tupRg2, ex_frz, ex_slF, ex_slM, sl_tupF, sl_rolF, op_iiF, op_ssF, op_ttF, op_rrF, op_rrM, op_mmF, op_repF, li_rol, li_ref, bl_listF, bl_allF, bl_anyF, asT_some, asJ_some, op_eqBf, op_eqBt, isN_non, Bool.not_true, Bool.not_false, rep2]
    refine ite3_by (fun h => ?_) (fun h => ?_)
    · exact tell _ (.ok hall (of_decide_eq_true h)) _
    · exact ⟨by show 2 ≤ sizeLine; omega, tell _ (.sum hall (by have := of_decide_eq_false h; omega)) _⟩
def Vd (k : Nat) (d : D) : Prop := Tm 3 400 d ∧ ∀ ds, d = .tup ds → ds.length ≤ k ∧ ∀ x ∈ ds, Tm 2 10 x
theorem vdT {k : Nat} {ds : List D} (hl : ds.length ≤ k) (hk : k ≤ 20) (h : ∀ x ∈ ds, Tm 2 10 x) : Vd k (.tup ds) :=
  ⟨(Tm.tup (h := 2) (n := 10) (m := 20) h (by omega)).mono (by decide) (by decide), fun es e => by cases e; exact ⟨hl, h⟩⟩
theorem vdR {k : Nat} {ds : List D} (hl : ds.length ≤ 20) (h : ∀ x ∈ ds, Tm 2 10 x) : Vd k (.rol ds) :=
  ⟨(Tm.rol (h := 2) (n := 10) (m := 20) h hl).mono (by decide) (by decide), fun es e => nomatch e⟩
theorem vd0 {k h n : Nat} {d : D} (t : Tm h n d) (h3 : h ≤ 3) (hn : n ≤ 400) (hd : ∀ ds, d ≠ .tup ds) : Vd k d := ⟨t.mono h3 hn, fun es e => absurd e (hd es)⟩
theorem Vd.pls {k : Nat} {d : D} (h : Vd k d) (hk : k ≤ 1000) : PlS d := ⟨h.1.pl (by decide), fun ds e => Nat.le_trans (h.2 ds e).1 hk⟩
theorem tm_s0 : Tm 0 5 (.str ("" : Str)) := ⟨by decide +kernel, Nat.le_refl _, by decide +kernel, by decide +kernel, by decide +kernel⟩
theorem tm_sa : Tm 0 5 (.str ("a" : Str)) := ⟨by decide +kernel, Nat.le_refl _, by decide +kernel, by decide +kernel, by decide +kernel⟩
theorem tm_sz : Tm 0 5 (.str ("0" : Str)) := ⟨by decide +kernel, Nat.le_refl _, by decide +kernel, by decide +kernel, by decide +kernel⟩
theorem tm_sh : Tm 0 10 (.str ("shape" : Str)) := ⟨by decide +kernel, Nat.le_refl _, by decide +kernel, by decide +kernel, by decide +kernel⟩
theorem tm_en : Tm 0 10 (.str ("end" : Str)) := ⟨by decide +kernel, Nat.le_refl _, by decide +kernel, by decide +kernel, by decide +kernel⟩
theorem tm_su : Tm 0 10 (.str ("sum" : Str)) := ⟨by decide +kernel, Nat.le_refl _, by decide +kernel, by decide +kernel, by decide +kernel⟩
theorem tm_n {i : Nat} (h : i ≤ 1000) : Tm 0 10 (.int (i : Nat)) := (Tm.int (Nat.lt_of_le_of_lt (show ((i : Nat) : Int).natAbs ≤ 1000 by omega) (by decide))).mono (Nat.le_refl _) (by decide)
theorem natL_vd {k : Nat} {f : List Nat} (hl : f.length ≤ k) (hk : k ≤ 20) (h : ∀ v ∈ f, v ≤ 1000) : Vd k (.tup (natL f)) := vdT (by rw [natL_len]; exact hl) hk fun x hx => by
  obtain ⟨v, hv, rfl⟩ := List.mem_map.mp hx
  exact (tm_n (h v hv)).mono (by decide) (by decide)
theorem told_sh {n : Nat} {T : Tab} {d : D} {v : Option (Str × Nat)} (hd : PlS d) (h : ToldV n T d v) : Sh (toldD v) := by
  have two : ∀ {w : Str} {k : Nat}, Tm 0 10 (.str w) → k ≤ 1000 → Sh (toldD (some (w, k))) := fun {w k} t hk => by
    refine (Tm.tup (h := 0) (n := 10) (m := 2) (fun d hd => ?_) (Nat.le_refl _)).fits (by decide) (by decide)
    simp only [List.mem_cons, List.not_mem_nil, or_false] at hd
    rcases hd with rfl | rfl
    · exact t
    · exact tm_n hk
  cases h with
  | nilT => exact Tm.bl.fits (by decide) (by decide)
  | nilF => exact two tm_sh (by decide)
  | shape => exact two tm_sh (by decide)
  | ring l v h1 h2 h3 =>
    obtain ⟨e, _⟩ := ringV_nats h2
    have hl := hd.2 _ e
    rw [natL_len] at hl
    cases h3 with
    | gap k g1 => exact two tm_en (by omega)
    | sum => exact two tm_su (by decide)
    | ok => exact Tm.bl.fits (by decide) (by decide)
theorem told_top {v : Option (Str × Nat)} {M : Mp} : L3.top M (toldD v) = toldD v := by
  cases v with
  | none => rfl
  | some x => obtain ⟨w, k⟩ := x; rfl
def SWalked (sp : Sp3) : Prop := ∀ (a : Addr) (b n : Nat) (T : Tab) (M : Mp) (Q : VK3) (E : XK3), Fd b M a → b < 2 ^ 28 → 0 < n → n ≤ 7 → TabB 13 n T → (∀ d M', Vd 9 d → Fd (b + 20) M' a → Gr a M M' → Q d M') → sp [.ref a, tabD T] M Q E
theorem s_walked {s1 : Sp3} (k1 : SDraw7 s1) : SWalked (spOf 2 7 (r__law_walked s1)) := by
  refine fun a b n T Ma Q E f hb hn0 hn tT q => ⟨rfl, ?_⟩
  show r__law_walked s1 E _ [some (.ref a), some (tabD T), none, none, none, none, none] Ma
  have big : (1000000 : Nat) ≤ sizeLine := by decide
  have hTl : ((T.map rowD).length : Int) = (n : Int) := by rw [List.length_map, tT.rows]
  unfold r__law_walked
  rw [st_seq, st_set]
  simp only [ex_c, ex_var, ex_op, ex_un, ex_b, ex_and, ex_or, ex_not, ex_andV, ex_orV, ex_notV, ex_if, ex_chain, ex_nil, ex_cons, ex_tup, ex_lst, ex_call, ex_callP, ex_cb, ex_bm, ex_rep, ex_sl, ex_noPart, ex_part, ex_yes, it_items, it_rng1, it_rng2, tg_name, tg_sub, tg_tup, tg_cons, tg_nil, gs_0, gs_s, ss_0, ss_s, op_ii, op_ss, op_tt, op_mm, op_sb, op_ng, op_iNf, op_iNt, op_lle, op_ixT, op_ixR, op_ixL, op_putE, op_appE, it_tupE, it_rolE, it_refE, lstOf_l, exL, asS_some, asI_int, asB_bl, asL_some, asN_some, ite3_t, ite3_f, bl_1, bl_lenT, bl_lenR, bl_lenL, bl_lenS, bl_tuple, bl_list, bl_abs, bl_intI, bl_intB, bl_max, bl_min, op_eqSf, op_eqSt, op_eqIf, op_eqIt, op_eqTf, op_eqTt, op_eqRf, op_eqRt, op_eqNf, op_eqNt, eqD_int, eqD_nil, pl_int, pl_nil, pl_non, pl_rnil, pl_bl, sl_tupE, sl_rolE, keep_ref, keep_tup, keep_rol, tp_int, tp_tup, tp_rol, tp_str, tp_bl, tp_non, tp_ref, oFd, oMd, oPw, oShl, oLt, oLe, oGt, oGe, op_in, op_cp, wipe_nil, wipe_cons, mset_same, true_and, and_true, isN_int, ex_lstF, ex_repF, ex_lgF1, ex_lgF2, ex_tupRg1, ex_tupRg2, ex_frz, ex_slF, ex_slM, sl_tupF, sl_rolF, op_iiF, op_ssF, op_ttF, op_rrF, op_rrM, op_mmF, op_repF, li_rol, li_ref, bl_listF, bl_allF, bl_anyF, asT_some, asJ_some, op_eqBf, op_eqBt, isN_non, Bool.not_true, Bool.not_false, rep2, tabD, hTl]
  refine k1 _ b _ _ _ _ f (by omega) (by omega) (by omega) fun p0 M1 p00 p01 f1 o1 => ?_
  (try simp only [ex_c, ex_var, ex_op, ex_un, ex_b, ex_and, ex_or, ex_not, ex_andV, ex_orV, ex_notV, ex_if, ex_chain, ex_nil, ex_cons, ex_tup, ex_lst, ex_call, ex_callP, ex_cb, ex_bm, ex_rep, ex_sl, ex_noPart, ex_part, ex_yes, it_items, it_rng1, it_rng2, tg_name, tg_sub, tg_tup, tg_cons, tg_nil, gs_0, gs_s, ss_0, ss_s, op_ii, op_ss, op_tt, op_mm, op_sb, op_ng, op_iNf, op_iNt, op_lle, op_ixT, op_ixR, op_ixL, op_putE, op_appE, it_tupE, it_rolE, it_refE, lstOf_l, exL, asS_some, asI_int, asB_bl, asL_some, asN_some, ite3_t, ite3_f, bl_1, bl_lenT, bl_lenR, bl_lenL, bl_lenS, bl_tuple, bl_list, bl_abs, bl_intI, bl_intB, bl_max, bl_min, op_eqSf, op_eqSt, op_eqIf, op_eqIt, op_eqTf, op_eqTt, op_eqRf, op_eqRt, op_eqNf, op_eqNt, eqD_int, eqD_nil, pl_int, pl_nil, pl_non, pl_rnil, pl_bl, sl_tupE, sl_rolE, keep_ref, keep_tup, keep_rol, tp_int, tp_tup, tp_rol, tp_str, tp_bl, tp_non, tp_ref, oFd, oMd, oPw, oShl, oLt, oLe, oGt, oGe, op_in, op_cp, wipe_nil, wipe_cons, mset_same, true_and, and_true, isN_int, ex_lstF, ex_repF, ex_lgF1, ex_lgF2, ex_tupRg1, ex_tupRg2, ex_frz, ex_slF, ex_slM, sl_tupF, sl_rolF, op_iiF, op_ssF, op_ttF, op_rrF, op_rrM, op_mmF, op_repF, li_rol, li_ref, bl_listF, bl_allF, bl_anyF, asT_some, asJ_some, op_eqBf, op_eqBt, isN_non, Bool.not_true, Bool.not_false, rep2])
  refine ⟨by show 1 ≤ sizeLine; omega, fun l hl => ?_⟩
  have hla := f1.ne hl
  obtain ⟨p, rfl⟩ : ∃ p : Nat, p0 = p := ⟨p0.toNat, by omega⟩
  have hla0 : Ma l = none := by rw [← o1 l hla]; exact hl
  have f2 := f1.put (o := .lst [.int (p : Nat)]) hla
  have g2 : Gr a Ma (mset M1 l (.lst [.int (p : Nat)])) := o1.gr.put hla0
  have m2 : mset M1 l (.lst [.int (p : Nat)]) l = some (.lst (natL [p])) := mset_same
  generalize mset M1 l (.lst [.int (p : Nat)]) = M2 at f2 g2 m2
  try dsimp only
  rw [st_seq, st_for]
  simp only [ex_c, ex_var, ex_op, ex_un, ex_b, ex_and, ex_or, ex_not, ex_andV, ex_orV, ex_notV, ex_if, ex_chain, ex_nil, ex_cons, ex_tup, ex_lst, ex_call, ex_callP, ex_cb, ex_bm, ex_rep, ex_sl, ex_noPart, ex_part, ex_yes, it_items, it_rng1, it_rng2, tg_name, tg_sub, tg_tup, tg_cons, tg_nil, gs_0, gs_s, ss_0, ss_s, op_ii, op_ss, op_tt, op_mm, op_sb, op_ng, op_iNf, op_iNt, op_lle, op_ixT, op_ixR, op_ixL, op_putE, op_appE, it_tupE, it_rolE, it_refE, lstOf_l, exL, asS_some, asI_int, asB_bl, asL_some, asN_some, ite3_t, ite3_f, bl_1, bl_lenT, bl_lenR, bl_lenL, bl_lenS, bl_tuple, bl_list, bl_abs, bl_intI, bl_intB, bl_max, bl_min, op_eqSf, op_eqSt, op_eqIf, op_eqIt, op_eqTf, op_eqTt, op_eqRf, op_eqRt, op_eqNf, op_eqNt, eqD_int, eqD_nil, pl_int, pl_nil, pl_non, pl_rnil, pl_bl, sl_tupE, sl_rolE, keep_ref, keep_tup, keep_rol, tp_int, tp_tup, tp_rol, tp_str, tp_bl, tp_non, tp_ref, oFd, oMd, oPw, oShl, oLt, oLe, oGt, oGe, op_in, op_cp, wipe_nil, wipe_cons, mset_same, true_and, and_true, isN_int, ex_lstF, ex_repF, ex_lgF1, ex_lgF2, ex_tupRg1, ex_tupRg2, ex_frz, ex_slF, ex_slM, sl_tupF, sl_rolF, op_iiF, op_ssF, op_ttF, op_rrF, op_rrM, op_mmF, op_repF, li_rol, li_ref, bl_listF, bl_allF, bl_anyF, asT_some, asJ_some, op_eqBf, op_eqBt, isN_non, Bool.not_true, Bool.not_false, rep2, tabD, hTl]
  refine k1 _ (b + 1) _ _ _ _ f2 (by omega) (by omega) (by omega) fun c M3 c0 c1 f3 o3 => ?_
  (try simp only [ex_c, ex_var, ex_op, ex_un, ex_b, ex_and, ex_or, ex_not, ex_andV, ex_orV, ex_notV, ex_if, ex_chain, ex_nil, ex_cons, ex_tup, ex_lst, ex_call, ex_callP, ex_cb, ex_bm, ex_rep, ex_sl, ex_noPart, ex_part, ex_yes, it_items, it_rng1, it_rng2, tg_name, tg_sub, tg_tup, tg_cons, tg_nil, gs_0, gs_s, ss_0, ss_s, op_ii, op_ss, op_tt, op_mm, op_sb, op_ng, op_iNf, op_iNt, op_lle, op_ixT, op_ixR, op_ixL, op_putE, op_appE, it_tupE, it_rolE, it_refE, lstOf_l, exL, asS_some, asI_int, asB_bl, asL_some, asN_some, ite3_t, ite3_f, bl_1, bl_lenT, bl_lenR, bl_lenL, bl_lenS, bl_tuple, bl_list, bl_abs, bl_intI, bl_intB, bl_max, bl_min, op_eqSf, op_eqSt, op_eqIf, op_eqIt, op_eqTf, op_eqTt, op_eqRf, op_eqRt, op_eqNf, op_eqNt, eqD_int, eqD_nil, pl_int, pl_nil, pl_non, pl_rnil, pl_bl, sl_tupE, sl_rolE, keep_ref, keep_tup, keep_rol, tp_int, tp_tup, tp_rol, tp_str, tp_bl, tp_non, tp_ref, oFd, oMd, oPw, oShl, oLt, oLe, oGt, oGe, op_in, op_cp, wipe_nil, wipe_cons, mset_same, true_and, and_true, isN_int, ex_lstF, ex_repF, ex_lgF1, ex_lgF2, ex_tupRg1, ex_tupRg2, ex_frz, ex_slF, ex_slM, sl_tupF, sl_rolF, op_iiF, op_ssF, op_ttF, op_rrF, op_rrM, op_mmF, op_repF, li_rol, li_ref, bl_listF, bl_allF, bl_anyF, asT_some, asJ_some, op_eqBf, op_eqBt, isN_non, Bool.not_true, Bool.not_false, rep2])
  refine ⟨by omega, by omega, ?_⟩
  refine for_rg (fun i τ M => i ≤ c.toNat ∧ (∃ rs : List Nat, ∃ r : Nat, M l = some (.lst (natL (rs ++ [r]))) ∧ rs.length ≤ i ∧ (∀ v ∈ rs ++ [r], v < n)) ∧ Fd (b + 2 + i) M a ∧ Gr a Ma M ∧ ∃ x3 x4 x5 x6, τ = [some (.ref a), some (tabD T), some (.ref l), x3, x4, x5, x6]) ?_ ?_
    ⟨Nat.zero_le _, ⟨[], p, (o3 l hla).trans m2, Nat.zero_le _, fun v hv => by rw [List.nil_append, List.mem_singleton] at hv; rw [hv]; omega⟩, f3, g2.trans o3.gr, _, _, _, _, rfl⟩
  · rintro i τ M hi ⟨_, ⟨rs, r, hM, hrl, hrs⟩, f, g, x3, x4, x5, x6, rfl⟩ X hX
    have hr : r < n := hrs r (List.mem_append_right _ (List.mem_singleton.mpr rfl))
    have hat : atI (natL (rs ++ [r])) (-1) = some (.int (r : Nat)) := by unfold natL; rw [List.map_append]; exact atI_end
    obtain ⟨row, hrow⟩ : ∃ row, T[r]? = some row := ⟨_, List.getElem?_eq_getElem (show r < T.length by rw [tT.rows]; exact hr)⟩
    have hrowl := tT.cols row (List.mem_of_getElem? hrow)
    have hatT : atI (T.map rowD) ((r : Nat) : Int) = some (rowD row) := atI_nat (by rw [List.getElem?_map, hrow]; rfl)
    rw [tg_name, st_seq, st_set]
    simp only [ex_c, ex_var, ex_op, ex_un, ex_b, ex_and, ex_or, ex_not, ex_andV, ex_orV, ex_notV, ex_if, ex_chain, ex_nil, ex_cons, ex_tup, ex_lst, ex_call, ex_callP, ex_cb, ex_bm, ex_rep, ex_sl, ex_noPart, ex_part, ex_yes, it_items, it_rng1, it_rng2, tg_name, tg_sub, tg_tup, tg_cons, tg_nil, gs_0, gs_s, ss_0, ss_s, op_ii, op_ss, op_tt, op_mm, op_sb, op_ng, op_iNf, op_iNt, op_lle, op_ixT, op_ixR, op_ixL, op_putE, op_appE, it_tupE, it_rolE, it_refE, lstOf_l, exL, asS_some, asI_int, asB_bl, asL_some, asN_some, ite3_t, ite3_f, bl_1, bl_lenT, bl_lenR, bl_lenL, bl_lenS, bl_tuple, bl_list, bl_abs, bl_intI, bl_intB, bl_max, bl_min, op_eqSf, op_eqSt, op_eqIf, op_eqIt, op_eqTf, op_eqTt, op_eqRf, op_eqRt, op_eqNf, op_eqNt, eqD_int, eqD_nil, pl_int, pl_nil, pl_non, pl_rnil, pl_bl, sl_tupE, sl_rolE, keep_ref, keep_tup, keep_rol, tp_int, tp_tup, tp_rol, tp_str, tp_bl, tp_non, tp_ref, oFd, oMd, oPw, oShl, oLt, oLe, oGt, oGe, op_in, op_cp, wipe_nil, wipe_cons, mset_same, true_and, and_true, isN_int, ex_lstF, ex_repF, ex_lgF1, ex_lgF2, ex_tupRg1, ex_tupRg2, ex_frz, ex_slF, ex_slM, sl_tupF, sl_rolF, op_iiF, op_ssF, op_ttF, op_rrF, op_rrM, op_mmF, op_repF, li_rol, li_ref, bl_listF, bl_allF, bl_anyF, asT_some, asJ_some, op_eqBf, op_eqBt, isN_non, Bool.not_true, Bool.not_false, rep2, hM, tabD, hat, hatT]
    try dsimp only
    rw [st_seq, st_set]
    simp only [ex_c, ex_var, ex_op, ex_un, ex_b, ex_and, ex_or, ex_not, ex_andV, ex_orV, ex_notV, ex_if, ex_chain, ex_nil, ex_cons, ex_tup, ex_lst, ex_call, ex_callP, ex_cb, ex_bm, ex_rep, ex_sl, ex_noPart, ex_part, ex_yes, it_items, it_rng1, it_rng2, tg_name, tg_sub, tg_tup, tg_cons, tg_nil, gs_0, gs_s, ss_0, ss_s, op_ii, op_ss, op_tt, op_mm, op_sb, op_ng, op_iNf, op_iNt, op_lle, op_ixT, op_ixR, op_ixL, op_putE, op_appE, it_tupE, it_rolE, it_refE, lstOf_l, exL, asS_some, asI_int, asB_bl, asL_some, asN_some, ite3_t, ite3_f, bl_1, bl_lenT, bl_lenR, bl_lenL, bl_lenS, bl_tuple, bl_list, bl_abs, bl_intI, bl_intB, bl_max, bl_min, op_eqSf, op_eqSt, op_eqIf, op_eqIt, op_eqTf, op_eqTt, op_eqRf, op_eqRt, op_eqNf, op_eqNt, eqD_int, eqD_nil, pl_int, pl_nil, pl_non, pl_rnil, pl_bl, sl_tupE, sl_rolE, keep_ref, keep_tup, keep_rol, tp_int, tp_tup, tp_rol, tp_str, tp_bl, tp_non, tp_ref, oFd, oMd, oPw, oShl, oLt, oLe, oGt, oGe, op_in, op_cp, wipe_nil, wipe_cons, mset_same, true_and, and_true, isN_int, ex_lstF, ex_repF, ex_lgF1, ex_lgF2, ex_tupRg1, ex_tupRg2, ex_frz, ex_slF, ex_slM, sl_tupF, sl_rolF, op_iiF, op_ssF, op_ttF, op_rrF, op_rrM, op_mmF, op_repF, li_rol, li_ref, bl_listF, bl_allF, bl_anyF, asT_some, asJ_some, op_eqBf, op_eqBt, isN_non, Bool.not_true, Bool.not_false, rep2, ex_lcF, hTl, tabD, Int.toNat_natCast]
    refine ⟨by omega, by omega, ?_⟩
    show lcW _ _ _ _ _ _ ((List.range n).map fun (j : Nat) => D.int (0 + (j : Nat))) [] _
    have hfl : (natL (rs ++ [r])).all flat = true := by
      unfold natL
      rw [List.all_map]
      exact List.all_eq_true.mpr fun x _ => rfl
    refine lc_if (fun (j : Nat) => D.int (0 + (j : Nat))) (fun j => (!(row.getD j none).isNone) && !((natL (rs ++ [r])).any fun y => eqF y (.int (j : Nat)))) (fun j : Nat => D.int (j : Nat)) True.intro (List.range n) (by rw [List.length_range]; omega) (fun j hj K K2 h1 h2 => ?_) ?_
    · have hj : j < n := List.mem_range.mp hj
      have hz0 : (0 : Int) + (j : Nat) = (j : Nat) := by omega
      have hatr : atI (row.map oD) ((j : Nat) : Int) = some (oD (row.getD j none)) := atI_nat (by rw [List.getElem?_map, List.getElem?_eq_getElem (by omega), List.getD_eq_getElem?_getD, List.getElem?_eq_getElem (by omega)]; rfl)
      simp only [ex_c, ex_var, ex_op, ex_un, ex_b, ex_and, ex_or, ex_not, ex_andV, ex_orV, ex_notV, ex_if, ex_chain, ex_nil, ex_cons, ex_tup, ex_lst, ex_call, ex_callP, ex_cb, ex_bm, ex_rep, ex_sl, ex_noPart, ex_part, ex_yes, it_items, it_rng1, it_rng2, tg_name, tg_sub, tg_tup, tg_cons, tg_nil, gs_0, gs_s, ss_0, ss_s, op_ii, op_ss, op_tt, op_mm, op_sb, op_ng, op_iNf, op_iNt, op_lle, op_ixT, op_ixR, op_ixL, op_putE, op_appE, it_tupE, it_rolE, it_refE, lstOf_l, exL, asS_some, asI_int, asB_bl, asL_some, asN_some, ite3_t, ite3_f, bl_1, bl_lenT, bl_lenR, bl_lenL, bl_lenS, bl_tuple, bl_list, bl_abs, bl_intI, bl_intB, bl_max, bl_min, op_eqSf, op_eqSt, op_eqIf, op_eqIt, op_eqTf, op_eqTt, op_eqRf, op_eqRt, op_eqNf, op_eqNt, eqD_int, eqD_nil, pl_int, pl_nil, pl_non, pl_rnil, pl_bl, sl_tupE, sl_rolE, keep_ref, keep_tup, keep_rol, tp_int, tp_tup, tp_rol, tp_str, tp_bl, tp_non, tp_ref, oFd, oMd, oPw, oShl, oLt, oLe, oGt, oGe, op_in, op_cp, wipe_nil, wipe_cons, mset_same, true_and, and_true, isN_int, ex_lstF, ex_repF, ex_lgF1, ex_lgF2, ex_tupRg1, ex_tupRg2, ex_frz, ex_slF, ex_slM, sl_tupF, sl_rolF, op_iiF, op_ssF, op_ttF, op_rrF, op_rrM, op_mmF, op_repF, li_rol, li_ref, bl_listF, bl_allF, bl_anyF, asT_some, asJ_some, op_eqBf, op_eqBt, isN_non, Bool.not_true, Bool.not_false, rep2, hz0, rowD, hatr, isN_oD, hM]
      refine ite3_by (fun h => ?_) (fun h => ?_)
      · rw [h, Bool.true_and] at h1 h2
        show asL (items M (.ref l)) _
        rw [items_ref hM, asL_some]
        refine ⟨rfl, hfl, ?_⟩
        show ite3 (!((natL (rs ++ [r])).any fun y => eqF y (.int (j : Nat)))) _ _
        refine ite3_by (fun h => h1 h) (fun h => h2 h)
      · rw [h, Bool.false_and] at h2
        exact h2 rfl
    obtain ⟨us, hus, hul, hun⟩ : ∃ us : List Nat, (((List.range n).filter fun j => (!(row.getD j none).isNone) && !((natL (rs ++ [r])).any fun y => eqF y (.int (j : Nat)))).map fun j : Nat => D.int (j : Nat)) = natL us ∧ us.length ≤ n ∧ ∀ v ∈ us, v < n :=
      ⟨_, rfl, Nat.le_trans (List.length_filter_le _ _) (by rw [List.length_range]; exact Nat.le_refl _), fun v hv => List.mem_range.mp (List.mem_filter.mp hv).1⟩
    rw [hus]
    (try simp only [ex_c, ex_var, ex_op, ex_un, ex_b, ex_and, ex_or, ex_not, ex_andV, ex_orV, ex_notV, ex_if, ex_chain, ex_nil, ex_cons, ex_tup, ex_lst, ex_call, ex_callP, ex_cb, ex_bm, ex_rep, ex_sl, ex_noPart, ex_part, ex_yes, it_items, it_rng1, it_rng2, tg_name, tg_sub, tg_tup, tg_cons, tg_nil, gs_0, gs_s, ss_0, ss_s, op_ii, op_ss, op_tt, op_mm, op_sb, op_ng, op_iNf, op_iNt, op_lle, op_ixT, op_ixR, op_ixL, op_putE, op_appE, it_tupE, it_rolE, it_refE, lstOf_l, exL, asS_some, asI_int, asB_bl, asL_some, asN_some, ite3_t, ite3_f, bl_1, bl_lenT, bl_lenR, bl_lenL, bl_lenS, bl_tuple, bl_list, bl_abs, bl_intI, bl_intB, bl_max, bl_min, op_eqSf, op_eqSt, op_eqIf, op_eqIt, op_eqTf, op_eqTt, op_eqRf, op_eqRt, op_eqNf, op_eqNt, eqD_int, eqD_nil, pl_int, pl_nil, pl_non, pl_rnil, pl_bl, sl_tupE, sl_rolE, keep_ref, keep_tup, keep_rol, tp_int, tp_tup, tp_rol, tp_str, tp_bl, tp_non, tp_ref, oFd, oMd, oPw, oShl, oLt, oLe, oGt, oGe, op_in, op_cp, wipe_nil, wipe_cons, mset_same, true_and, and_true, isN_int, ex_lstF, ex_repF, ex_lgF1, ex_lgF2, ex_tupRg1, ex_tupRg2, ex_frz, ex_slF, ex_slM, sl_tupF, sl_rolF, op_iiF, op_ssF, op_ttF, op_rrF, op_rrM, op_mmF, op_repF, li_rol, li_ref, bl_listF, bl_allF, bl_anyF, asT_some, asJ_some, op_eqBf, op_eqBt, isN_non, Bool.not_true, Bool.not_false, rep2])
    try dsimp only
    rw [st_if]
    have htu : Tm 1 100 (.rol (natL us)) := (Tm.rol (h := 0) (n := 10) (m := 7) (fun d hd => by
      obtain ⟨v, hv, rfl⟩ := List.mem_map.mp hd
      exact tm_n (by have := hun v hv; omega)) (by rw [natL_len]; omega)).mono (by decide) (by decide)
    simp only [ex_c, ex_var, ex_op, ex_un, ex_b, ex_and, ex_or, ex_not, ex_andV, ex_orV, ex_notV, ex_if, ex_chain, ex_nil, ex_cons, ex_tup, ex_lst, ex_call, ex_callP, ex_cb, ex_bm, ex_rep, ex_sl, ex_noPart, ex_part, ex_yes, it_items, it_rng1, it_rng2, tg_name, tg_sub, tg_tup, tg_cons, tg_nil, gs_0, gs_s, ss_0, ss_s, op_ii, op_ss, op_tt, op_mm, op_sb, op_ng, op_iNf, op_iNt, op_lle, op_ixT, op_ixR, op_ixL, op_putE, op_appE, it_tupE, it_rolE, it_refE, lstOf_l, exL, asS_some, asI_int, asB_bl, asL_some, asN_some, ite3_t, ite3_f, bl_1, bl_lenT, bl_lenR, bl_lenL, bl_lenS, bl_tuple, bl_list, bl_abs, bl_intI, bl_intB, bl_max, bl_min, op_eqSf, op_eqSt, op_eqIf, op_eqIt, op_eqTf, op_eqTt, op_eqRf, op_eqRt, op_eqNf, op_eqNt, eqD_int, eqD_nil, pl_int, pl_nil, pl_non, pl_rnil, pl_bl, sl_tupE, sl_rolE, keep_ref, keep_tup, keep_rol, tp_int, tp_tup, tp_rol, tp_str, tp_bl, tp_non, tp_ref, oFd, oMd, oPw, oShl, oLt, oLe, oGt, oGe, op_in, op_cp, wipe_nil, wipe_cons, mset_same, true_and, and_true, isN_int, ex_lstF, ex_repF, ex_lgF1, ex_lgF2, ex_tupRg1, ex_tupRg2, ex_frz, ex_slF, ex_slM, sl_tupF, sl_rolF, op_iiF, op_ssF, op_ttF, op_rrF, op_rrM, op_mmF, op_repF, li_rol, li_ref, bl_listF, bl_allF, bl_anyF, asT_some, asJ_some, op_eqBf, op_eqBt, isN_non, Bool.not_true, Bool.not_false, rep2]
    refine ⟨Nat.zero_le _, ?_⟩
    rw [op_eqLt]
    refine ⟨htu.pl (by decide), by rw [tp_rol, pl_rnil]; trivial, ?_⟩
    rw [tp_rol, eqD_rem14]
    (try simp only [ex_c, ex_var, ex_op, ex_un, ex_b, ex_and, ex_or, ex_not, ex_andV, ex_orV, ex_notV, ex_if, ex_chain, ex_nil, ex_cons, ex_tup, ex_lst, ex_call, ex_callP, ex_cb, ex_bm, ex_rep, ex_sl, ex_noPart, ex_part, ex_yes, it_items, it_rng1, it_rng2, tg_name, tg_sub, tg_tup, tg_cons, tg_nil, gs_0, gs_s, ss_0, ss_s, op_ii, op_ss, op_tt, op_mm, op_sb, op_ng, op_iNf, op_iNt, op_lle, op_ixT, op_ixR, op_ixL, op_putE, op_appE, it_tupE, it_rolE, it_refE, lstOf_l, exL, asS_some, asI_int, asB_bl, asL_some, asN_some, ite3_t, ite3_f, bl_1, bl_lenT, bl_lenR, bl_lenL, bl_lenS, bl_tuple, bl_list, bl_abs, bl_intI, bl_intB, bl_max, bl_min, op_eqSf, op_eqSt, op_eqIf, op_eqIt, op_eqTf, op_eqTt, op_eqRf, op_eqRt, op_eqNf, op_eqNt, eqD_int, eqD_nil, pl_int, pl_nil, pl_non, pl_rnil, pl_bl, sl_tupE, sl_rolE, keep_ref, keep_tup, keep_rol, tp_int, tp_tup, tp_rol, tp_str, tp_bl, tp_non, tp_ref, oFd, oMd, oPw, oShl, oLt, oLe, oGt, oGe, op_in, op_cp, wipe_nil, wipe_cons, mset_same, true_and, and_true, isN_int, ex_lstF, ex_repF, ex_lgF1, ex_lgF2, ex_tupRg1, ex_tupRg2, ex_frz, ex_slF, ex_slM, sl_tupF, sl_rolF, op_iiF, op_ssF, op_ttF, op_rrF, op_rrM, op_mmF, op_repF, li_rol, li_ref, bl_listF, bl_allF, bl_anyF, asT_some, asJ_some, op_eqBf, op_eqBt, isN_non, Bool.not_true, Bool.not_false, rep2])
    refine ite3_by (fun h => ?_) (fun h => ?_)
    · have hpos : 0 < us.length := by
        cases us with
        | nil => exact absurd h (by simp [natL])
        | cons _ _ => exact Nat.succ_pos _
      rw [st_drop]
      simp only [ex_c, ex_var, ex_op, ex_un, ex_b, ex_and, ex_or, ex_not, ex_andV, ex_orV, ex_notV, ex_if, ex_chain, ex_nil, ex_cons, ex_tup, ex_lst, ex_call, ex_callP, ex_cb, ex_bm, ex_rep, ex_sl, ex_noPart, ex_part, ex_yes, it_items, it_rng1, it_rng2, tg_name, tg_sub, tg_tup, tg_cons, tg_nil, gs_0, gs_s, ss_0, ss_s, op_ii, op_ss, op_tt, op_mm, op_sb, op_ng, op_iNf, op_iNt, op_lle, op_ixT, op_ixR, op_ixL, op_putE, op_appE, it_tupE, it_rolE, it_refE, lstOf_l, exL, asS_some, asI_int, asB_bl, asL_some, asN_some, ite3_t, ite3_f, bl_1, bl_lenT, bl_lenR, bl_lenL, bl_lenS, bl_tuple, bl_list, bl_abs, bl_intI, bl_intB, bl_max, bl_min, op_eqSf, op_eqSt, op_eqIf, op_eqIt, op_eqTf, op_eqTt, op_eqRf, op_eqRt, op_eqNf, op_eqNt, eqD_int, eqD_nil, pl_int, pl_nil, pl_non, pl_rnil, pl_bl, sl_tupE, sl_rolE, keep_ref, keep_tup, keep_rol, tp_int, tp_tup, tp_rol, tp_str, tp_bl, tp_non, tp_ref, oFd, oMd, oPw, oShl, oLt, oLe, oGt, oGe, op_in, op_cp, wipe_nil, wipe_cons, mset_same, true_and, and_true, isN_int, ex_lstF, ex_repF, ex_lgF1, ex_lgF2, ex_tupRg1, ex_tupRg2, ex_frz, ex_slF, ex_slM, sl_tupF, sl_rolF, op_iiF, op_ssF, op_ttF, op_rrF, op_rrM, op_mmF, op_repF, li_rol, li_ref, bl_listF, bl_allF, bl_anyF, asT_some, asJ_some, op_eqBf, op_eqBt, isN_non, Bool.not_true, Bool.not_false, rep2, hM, natL_len]
      refine k1 _ (b + 2 + i) _ _ _ _ f (by omega) (by omega) (by omega) fun u M4 u0 u1 f4 o4 => ?_
      obtain ⟨w, hw, hwn⟩ : ∃ w : Nat, atI (natL us) u = some (.int (w : Nat)) ∧ w < n := by
        have hi : u.toNat < us.length := by omega
        have := fnN_at hi
        rw [Int.toNat_of_nonneg u0] at this
        refine ⟨_, this, ?_⟩
        unfold fnN
        rw [List.getD_eq_getElem?_getD, List.getElem?_eq_getElem hi]
        exact hun _ (List.getElem_mem hi)
      have hM4 := (o4 l hla).trans hM
      (try simp only [ex_c, ex_var, ex_op, ex_un, ex_b, ex_and, ex_or, ex_not, ex_andV, ex_orV, ex_notV, ex_if, ex_chain, ex_nil, ex_cons, ex_tup, ex_lst, ex_call, ex_callP, ex_cb, ex_bm, ex_rep, ex_sl, ex_noPart, ex_part, ex_yes, it_items, it_rng1, it_rng2, tg_name, tg_sub, tg_tup, tg_cons, tg_nil, gs_0, gs_s, ss_0, ss_s, op_ii, op_ss, op_tt, op_mm, op_sb, op_ng, op_iNf, op_iNt, op_lle, op_ixT, op_ixR, op_ixL, op_putE, op_appE, it_tupE, it_rolE, it_refE, lstOf_l, exL, asS_some, asI_int, asB_bl, asL_some, asN_some, ite3_t, ite3_f, bl_1, bl_lenT, bl_lenR, bl_lenL, bl_lenS, bl_tuple, bl_list, bl_abs, bl_intI, bl_intB, bl_max, bl_min, op_eqSf, op_eqSt, op_eqIf, op_eqIt, op_eqTf, op_eqTt, op_eqRf, op_eqRt, op_eqNf, op_eqNt, eqD_int, eqD_nil, pl_int, pl_nil, pl_non, pl_rnil, pl_bl, sl_tupE, sl_rolE, keep_ref, keep_tup, keep_rol, tp_int, tp_tup, tp_rol, tp_str, tp_bl, tp_non, tp_ref, oFd, oMd, oPw, oShl, oLt, oLe, oGt, oGe, op_in, op_cp, wipe_nil, wipe_cons, mset_same, true_and, and_true, isN_int, ex_lstF, ex_repF, ex_lgF1, ex_lgF2, ex_tupRg1, ex_tupRg2, ex_frz, ex_slF, ex_slM, sl_tupF, sl_rolF, op_iiF, op_ssF, op_ttF, op_rrF, op_rrM, op_mmF, op_repF, li_rol, li_ref, bl_listF, bl_allF, bl_anyF, asT_some, asJ_some, op_eqBf, op_eqBt, isN_non, Bool.not_true, Bool.not_false, rep2, hw, hM4, natL_len])
      refine ⟨by rw [List.length_append]; show _ + 1 < sizeLine; omega, hX _ _ ⟨hi, ⟨rs ++ [r], w, ?_, by rw [List.length_append]; show _ + 1 ≤ _; omega, fun v hv => ?_⟩, (f4.put hla).mono (by omega), (g.trans o4.gr).put hla0, _, _, _, _, rfl⟩⟩
      · rw [mset_same]; unfold natL; rw [List.map_append (l₁ := rs ++ [r])]; rfl
      · rcases List.mem_append.mp hv with h | h
        · exact hrs v h
        · rw [List.mem_singleton] at h; rw [h]; exact hwn
    · rw [st_next]
      exact hX _ _ ⟨hi, ⟨rs, r, hM, by omega, hrs⟩, f.mono (by omega), g, _, _, _, _, rfl⟩
  · rintro τ M ⟨_, ⟨rs, r, hM, hrl, hrs⟩, f, g, x3, x4, x5, x6, rfl⟩
    try dsimp only
    rw [st_ret]
    simp only [ex_c, ex_var, ex_op, ex_un, ex_b, ex_and, ex_or, ex_not, ex_andV, ex_orV, ex_notV, ex_if, ex_chain, ex_nil, ex_cons, ex_tup, ex_lst, ex_call, ex_callP, ex_cb, ex_bm, ex_rep, ex_sl, ex_noPart, ex_part, ex_yes, it_items, it_rng1, it_rng2, tg_name, tg_sub, tg_tup, tg_cons, tg_nil, gs_0, gs_s, ss_0, ss_s, op_ii, op_ss, op_tt, op_mm, op_sb, op_ng, op_iNf, op_iNt, op_lle, op_ixT, op_ixR, op_ixL, op_putE, op_appE, it_tupE, it_rolE, it_refE, lstOf_l, exL, asS_some, asI_int, asB_bl, asL_some, asN_some, ite3_t, ite3_f, bl_1, bl_lenT, bl_lenR, bl_lenL, bl_lenS, bl_tuple, bl_list, bl_abs, bl_intI, bl_intB, bl_max, bl_min, op_eqSf, op_eqSt, op_eqIf, op_eqIt, op_eqTf, op_eqTt, op_eqRf, op_eqRt, op_eqNf, op_eqNt, eqD_int, eqD_nil, pl_int, pl_nil, pl_non, pl_rnil, pl_bl, sl_tupE, sl_rolE, keep_ref, keep_tup, keep_rol, tp_int, tp_tup, tp_rol, tp_str, tp_bl, tp_non, tp_ref, oFd, oMd, oPw, oShl, oLt, oLe, oGt, oGe, op_in, op_cp, wipe_nil, wipe_cons, mset_same, true_and, and_true, isN_int, ex_lstF, ex_repF, ex_lgF1, ex_lgF2, ex_tupRg1, ex_tupRg2, ex_frz, ex_slF, ex_slM, sl_tupF, sl_rolF, op_iiF, op_ssF, op_ttF, op_rrF, op_rrM, op_mmF, op_repF, li_rol, li_ref, bl_listF, bl_allF, bl_anyF, asT_some, asJ_some, op_eqBf, op_eqBt, isN_non, Bool.not_true, Bool.not_false, rep2, hM]
    exact q _ _ (natL_vd (by rw [List.length_append]; show _ + 1 ≤ 9; omega) (by decide) fun v hv => by have := hrs v hv; omega) (f.mono (by omega)) g
def SBent (sp : Sp3) : Prop := ∀ (a : Addr) (b n : Nat) (d : D) (M : Mp) (Q : VK3) (E : XK3), Fd b M a → b < 2 ^ 28 → 0 < n → n ≤ 7 → Vd 9 d → (∀ d' M', Vd 20 d' → Fd (b + 3) M' a → Only a M M' → Q d' M') → sp [.ref a, d, .int n] M Q E
theorem cut_len' {ds : List D} {lo hi : Option Int} : (L3.cutD ds lo hi).length ≤ ds.length := by
  unfold L3.cutD
  rw [List.length_take, List.length_drop]
  omega
theorem cp30 : CPow 10 30 := ⟨by decide, by decide, by decide⟩
theorem s_bent {s1 : Sp3} (k1 : SDraw7 s1) : SBent (spOf 3 6 (r__law_bent s1)) := by
  refine fun a b n d Ma Q E f hb hn0 hn hd q => ⟨rfl, ?_⟩
  have big : (1000000 : Nat) ≤ sizeLine := by decide
  show r__law_bent s1 E _ [some (.ref a), some d, some (.int n), none, none, none] Ma
  unfold r__law_bent
  have tI : ∀ {i : Int}, i.natAbs ≤ 10 ^ 31 → Tm 2 10 (.int i) := fun h => (Tm.int (Nat.lt_of_le_of_lt h (by decide))).mono (by decide) (by decide)
  have tN : Tm 2 10 .non := Tm.non.mono (by decide) (by decide)
  have tB : ∀ {b : Bool}, Tm 2 10 (.bl b) := Tm.bl.mono (by decide) (by decide)
  have one : ∀ {x : D}, Tm 0 5 x → Tm 2 10 (.tup [x]) := fun {x} t => (Tm.tup (h := 0) (n := 5) (m := 1) (fun y hy => by rw [List.mem_singleton] at hy; rw [hy]; exact t) (Nat.le_refl _)).mono (by decide) (by decide)
  have one' : ∀ {x : D}, Tm 2 10 x → Vd 20 (.tup [x]) := fun {x} t => vdT (by show 1 ≤ 20; decide) (by decide) fun y hy => by rw [List.mem_singleton] at hy; rw [hy]; exact t
  have e0 : Tm 2 10 (.tup []) := (Tm.tup (h := 0) (n := 0) (m := 0) (ds := []) (fun x hx => (nomatch hx)) (Nat.le_refl _)).mono (by decide) (by decide)
  have first : wRet (wOp oIx (wLstF (wCons (wC .non) (wCons (wLstF wNil) (wCons (wTup (wCons (wC (.int 0)) wNil)) (wCons (wTup (wCons (wTup wNil) wNil)) (wCons (wC (.str ("" : PySem.Str))) (wCons (wC (.int 0)) (wCons (wTup (wCons (wC (.bl true)) wNil)) (wCons (wTup (wCons (wC (.str ("a" : PySem.Str))) wNil)) wNil))))))))) (wCall s1 E (wCons (wVar 0) (wCons (wC (.int 8)) wNil)))) { nx := fun x M' => Q D.non M', rt := Q } [some (.ref a), some d, some (.int n), none, none, none] Ma := by
    rw [st_ret]
    simp only [ex_c, ex_var, ex_op, ex_un, ex_b, ex_and, ex_or, ex_not, ex_andV, ex_orV, ex_notV, ex_if, ex_chain, ex_nil, ex_cons, ex_tup, ex_lst, ex_call, ex_callP, ex_cb, ex_bm, ex_rep, ex_sl, ex_noPart, ex_part, ex_yes, it_items, it_rng1, it_rng2, tg_name, tg_sub, tg_tup, tg_cons, tg_nil, gs_0, gs_s, ss_0, ss_s, op_ii, op_ss, op_tt, op_mm, op_sb, op_ng, op_iNf, op_iNt, op_lle, op_ixT, op_ixR, op_ixL, op_putE, op_appE, it_tupE, it_rolE, it_refE, lstOf_l, exL, asS_some, asI_int, asB_bl, asL_some, asN_some, ite3_t, ite3_f, bl_1, bl_lenT, bl_lenR, bl_lenL, bl_lenS, bl_tuple, bl_list, bl_abs, bl_intI, bl_intB, bl_max, bl_min, op_eqSf, op_eqSt, op_eqIf, op_eqIt, op_eqTf, op_eqTt, op_eqRf, op_eqRt, op_eqNf, op_eqNt, eqD_int, eqD_nil, pl_int, pl_nil, pl_non, pl_rnil, pl_bl, sl_tupE, sl_rolE, keep_ref, keep_tup, keep_rol, tp_int, tp_tup, tp_rol, tp_str, tp_bl, tp_non, tp_ref, oFd, oMd, oPw, oShl, oLt, oLe, oGt, oGe, op_in, op_cp, wipe_nil, wipe_cons, mset_same, true_and, and_true, isN_int, ex_lstF, ex_repF, ex_lgF1, ex_lgF2, ex_tupRg1, ex_tupRg2, ex_frz, ex_slF, ex_slM, sl_tupF, sl_rolF, op_iiF, op_ssF, op_ttF, op_rrF, op_rrM, op_mmF, op_repF, li_rol, li_ref, bl_listF, bl_allF, bl_anyF, asT_some, asJ_some, op_eqBf, op_eqBt, isN_non, Bool.not_true, Bool.not_false, rep2]
    refine ⟨Nat.zero_le _, by show 1 ≤ sizeLine; omega, Nat.zero_le _, by show 1 ≤ sizeLine; omega, by show 1 ≤ sizeLine; omega, by show 1 ≤ sizeLine; omega, by show 8 ≤ sizeLine; omega, k1 _ b _ _ _ _ f (by omega) (by decide) (by decide) fun u M1 u0 u1 f1 o1 => ?_⟩
    have hu : u = 0 ∨ u = 1 ∨ u = 2 ∨ u = 3 ∨ u = 4 ∨ u = 5 ∨ u = 6 ∨ u = 7 := by omega
    obtain ⟨x, hx, hv⟩ : ∃ x, atI [D.non, .rol [], .tup [.int 0], .tup [.tup []], .str ("" : Str), .int 0, .tup [.bl true], .tup [.str ("a" : Str)]] u = some x ∧ Vd 20 x := by
      rcases hu with rfl | rfl | rfl | rfl | rfl | rfl | rfl | rfl
      · exact ⟨_, rfl, vd0 tN (by decide) (by decide) (fun _ e => nomatch e)⟩
      · exact ⟨_, rfl, vdR (Nat.zero_le _) (fun x hx => nomatch hx)⟩
      · exact ⟨_, rfl, one' (tI (by decide))⟩
      · exact ⟨_, rfl, one' e0⟩
      · exact ⟨_, rfl, vd0 tm_s0 (by decide) (by decide) (fun _ e => nomatch e)⟩
      · exact ⟨_, rfl, vd0 (tI (i := 0) (by decide)) (by decide) (by decide) (fun _ e => nomatch e)⟩
      · exact ⟨_, rfl, one' tB⟩
      · exact ⟨_, rfl, one' (tm_sa.mono (by decide) (by decide))⟩
    (try simp only [ex_c, ex_var, ex_op, ex_un, ex_b, ex_and, ex_or, ex_not, ex_andV, ex_orV, ex_notV, ex_if, ex_chain, ex_nil, ex_cons, ex_tup, ex_lst, ex_call, ex_callP, ex_cb, ex_bm, ex_rep, ex_sl, ex_noPart, ex_part, ex_yes, it_items, it_rng1, it_rng2, tg_name, tg_sub, tg_tup, tg_cons, tg_nil, gs_0, gs_s, ss_0, ss_s, op_ii, op_ss, op_tt, op_mm, op_sb, op_ng, op_iNf, op_iNt, op_lle, op_ixT, op_ixR, op_ixL, op_putE, op_appE, it_tupE, it_rolE, it_refE, lstOf_l, exL, asS_some, asI_int, asB_bl, asL_some, asN_some, ite3_t, ite3_f, bl_1, bl_lenT, bl_lenR, bl_lenL, bl_lenS, bl_tuple, bl_list, bl_abs, bl_intI, bl_intB, bl_max, bl_min, op_eqSf, op_eqSt, op_eqIf, op_eqIt, op_eqTf, op_eqTt, op_eqRf, op_eqRt, op_eqNf, op_eqNt, eqD_int, eqD_nil, pl_int, pl_nil, pl_non, pl_rnil, pl_bl, sl_tupE, sl_rolE, keep_ref, keep_tup, keep_rol, tp_int, tp_tup, tp_rol, tp_str, tp_bl, tp_non, tp_ref, oFd, oMd, oPw, oShl, oLt, oLe, oGt, oGe, op_in, op_cp, wipe_nil, wipe_cons, mset_same, true_and, and_true, isN_int, ex_lstF, ex_repF, ex_lgF1, ex_lgF2, ex_tupRg1, ex_tupRg2, ex_frz, ex_slF, ex_slM, sl_tupF, sl_rolF, op_iiF, op_ssF, op_ttF, op_rrF, op_rrM, op_mmF, op_repF, li_rol, li_ref, bl_listF, bl_allF, bl_anyF, asT_some, asJ_some, op_eqBf, op_eqBt, isN_non, Bool.not_true, Bool.not_false, rep2, hx])
    exact q x _ hv (f1.mono (by omega)) o1
  rw [st_seq, st_if]
  by_cases ht : ¬ ∃ ds, d = .tup ds
  · simp only [ex_c, ex_var, ex_op, ex_un, ex_b, ex_and, ex_or, ex_not, ex_andV, ex_orV, ex_notV, ex_if, ex_chain, ex_nil, ex_cons, ex_tup, ex_lst, ex_call, ex_callP, ex_cb, ex_bm, ex_rep, ex_sl, ex_noPart, ex_part, ex_yes, it_items, it_rng1, it_rng2, tg_name, tg_sub, tg_tup, tg_cons, tg_nil, gs_0, gs_s, ss_0, ss_s, op_ii, op_ss, op_tt, op_mm, op_sb, op_ng, op_iNf, op_iNt, op_lle, op_ixT, op_ixR, op_ixL, op_putE, op_appE, it_tupE, it_rolE, it_refE, lstOf_l, exL, asS_some, asI_int, asB_bl, asL_some, asN_some, ite3_t, ite3_f, bl_1, bl_lenT, bl_lenR, bl_lenL, bl_lenS, bl_tuple, bl_list, bl_abs, bl_intI, bl_intB, bl_max, bl_min, op_eqSf, op_eqSt, op_eqIf, op_eqIt, op_eqTf, op_eqTt, op_eqRf, op_eqRt, op_eqNf, op_eqNt, eqD_int, eqD_nil, pl_int, pl_nil, pl_non, pl_rnil, pl_bl, sl_tupE, sl_rolE, keep_ref, keep_tup, keep_rol, tp_int, tp_tup, tp_rol, tp_str, tp_bl, tp_non, tp_ref, oFd, oMd, oPw, oShl, oLt, oLe, oGt, oGe, op_in, op_cp, wipe_nil, wipe_cons, mset_same, true_and, and_true, isN_int, ex_lstF, ex_repF, ex_lgF1, ex_lgF2, ex_tupRg1, ex_tupRg2, ex_frz, ex_slF, ex_slM, sl_tupF, sl_rolF, op_iiF, op_ssF, op_ttF, op_rrF, op_rrM, op_mmF, op_repF, li_rol, li_ref, bl_listF, bl_allF, bl_anyF, asT_some, asJ_some, op_eqBf, op_eqBt, isN_non, Bool.not_true, Bool.not_false, rep2, isi_tn (hd.pls (by decide)).1.p ht, Bool.not_false]
    exact first
  obtain ⟨ds, rfl⟩ := Classical.not_not.mp ht
  obtain ⟨hl, hx⟩ := hd.2 ds rfl
  simp only [ex_c, ex_var, ex_op, ex_un, ex_b, ex_and, ex_or, ex_not, ex_andV, ex_orV, ex_notV, ex_if, ex_chain, ex_nil, ex_cons, ex_tup, ex_lst, ex_call, ex_callP, ex_cb, ex_bm, ex_rep, ex_sl, ex_noPart, ex_part, ex_yes, it_items, it_rng1, it_rng2, tg_name, tg_sub, tg_tup, tg_cons, tg_nil, gs_0, gs_s, ss_0, ss_s, op_ii, op_ss, op_tt, op_mm, op_sb, op_ng, op_iNf, op_iNt, op_lle, op_ixT, op_ixR, op_ixL, op_putE, op_appE, it_tupE, it_rolE, it_refE, lstOf_l, exL, asS_some, asI_int, asB_bl, asL_some, asN_some, ite3_t, ite3_f, bl_1, bl_lenT, bl_lenR, bl_lenL, bl_lenS, bl_tuple, bl_list, bl_abs, bl_intI, bl_intB, bl_max, bl_min, op_eqSf, op_eqSt, op_eqIf, op_eqIt, op_eqTf, op_eqTt, op_eqRf, op_eqRt, op_eqNf, op_eqNt, eqD_int, eqD_nil, pl_int, pl_nil, pl_non, pl_rnil, pl_bl, sl_tupE, sl_rolE, keep_ref, keep_tup, keep_rol, tp_int, tp_tup, tp_rol, tp_str, tp_bl, tp_non, tp_ref, oFd, oMd, oPw, oShl, oLt, oLe, oGt, oGe, op_in, op_cp, wipe_nil, wipe_cons, mset_same, true_and, and_true, isN_int, ex_lstF, ex_repF, ex_lgF1, ex_lgF2, ex_tupRg1, ex_tupRg2, ex_frz, ex_slF, ex_slM, sl_tupF, sl_rolF, op_iiF, op_ssF, op_ttF, op_rrF, op_rrM, op_mmF, op_repF, li_rol, li_ref, bl_listF, bl_allF, bl_anyF, asT_some, asJ_some, op_eqBf, op_eqBt, isN_non, Bool.not_true, Bool.not_false, rep2, isi_T kb_tt, Bool.not_true, eqD_nil]
  refine ⟨Nat.zero_le _, (hd.pls (by decide)).1, ite3_by (fun h => first) (fun h => ?_)⟩
  have hpos : 0 < ds.length := by
    cases ds with
    | nil => cases h
    | cons _ _ => exact Nat.succ_pos _
  have hcut : ∀ {lo hi : Option Int}, ∀ x ∈ L3.cutD ds lo hi, Tm 2 10 x := fun x hxc => hx x (cut_mem hxc)
  have hcl : ∀ {lo hi : Option Int}, (L3.cutD ds lo hi).length ≤ 9 := fun {lo hi} => Nat.le_trans cut_len' hl
  have app : ∀ {xs ys : List D}, xs.length ≤ 10 → ys.length ≤ 10 → (∀ x ∈ xs, Tm 2 10 x) → (∀ x ∈ ys, Tm 2 10 x) → Vd 20 (.tup (xs ++ ys)) := fun {xs ys} h1 h2 h3 h4 => vdT (by rw [List.length_append]; omega) (by decide) fun x hx => by
    rcases List.mem_append.mp hx with z | z
    · exact h3 x z
    · exact h4 x z
  rw [st_next]
  try dsimp only
  rw [st_seq, st_set]
  simp only [ex_c, ex_var, ex_op, ex_un, ex_b, ex_and, ex_or, ex_not, ex_andV, ex_orV, ex_notV, ex_if, ex_chain, ex_nil, ex_cons, ex_tup, ex_lst, ex_call, ex_callP, ex_cb, ex_bm, ex_rep, ex_sl, ex_noPart, ex_part, ex_yes, it_items, it_rng1, it_rng2, tg_name, tg_sub, tg_tup, tg_cons, tg_nil, gs_0, gs_s, ss_0, ss_s, op_ii, op_ss, op_tt, op_mm, op_sb, op_ng, op_iNf, op_iNt, op_lle, op_ixT, op_ixR, op_ixL, op_putE, op_appE, it_tupE, it_rolE, it_refE, lstOf_l, exL, asS_some, asI_int, asB_bl, asL_some, asN_some, ite3_t, ite3_f, bl_1, bl_lenT, bl_lenR, bl_lenL, bl_lenS, bl_tuple, bl_list, bl_abs, bl_intI, bl_intB, bl_max, bl_min, op_eqSf, op_eqSt, op_eqIf, op_eqIt, op_eqTf, op_eqTt, op_eqRf, op_eqRt, op_eqNf, op_eqNt, eqD_int, eqD_nil, pl_int, pl_nil, pl_non, pl_rnil, pl_bl, sl_tupE, sl_rolE, keep_ref, keep_tup, keep_rol, tp_int, tp_tup, tp_rol, tp_str, tp_bl, tp_non, tp_ref, oFd, oMd, oPw, oShl, oLt, oLe, oGt, oGe, op_in, op_cp, wipe_nil, wipe_cons, mset_same, true_and, and_true, isN_int, ex_lstF, ex_repF, ex_lgF1, ex_lgF2, ex_tupRg1, ex_tupRg2, ex_frz, ex_slF, ex_slM, sl_tupF, sl_rolF, op_iiF, op_ssF, op_ttF, op_rrF, op_rrM, op_mmF, op_repF, li_rol, li_ref, bl_listF, bl_allF, bl_anyF, asT_some, asJ_some, op_eqBf, op_eqBt, isN_non, Bool.not_true, Bool.not_false, rep2]
  refine k1 _ b _ _ _ _ f (by omega) (by omega) (by omega) fun at0 M1 a0 a1 f1 o1 => ?_
  try dsimp only
  rw [st_seq, st_set]
  simp only [ex_c, ex_var, ex_op, ex_un, ex_b, ex_and, ex_or, ex_not, ex_andV, ex_orV, ex_notV, ex_if, ex_chain, ex_nil, ex_cons, ex_tup, ex_lst, ex_call, ex_callP, ex_cb, ex_bm, ex_rep, ex_sl, ex_noPart, ex_part, ex_yes, it_items, it_rng1, it_rng2, tg_name, tg_sub, tg_tup, tg_cons, tg_nil, gs_0, gs_s, ss_0, ss_s, op_ii, op_ss, op_tt, op_mm, op_sb, op_ng, op_iNf, op_iNt, op_lle, op_ixT, op_ixR, op_ixL, op_putE, op_appE, it_tupE, it_rolE, it_refE, lstOf_l, exL, asS_some, asI_int, asB_bl, asL_some, asN_some, ite3_t, ite3_f, bl_1, bl_lenT, bl_lenR, bl_lenL, bl_lenS, bl_tuple, bl_list, bl_abs, bl_intI, bl_intB, bl_max, bl_min, op_eqSf, op_eqSt, op_eqIf, op_eqIt, op_eqTf, op_eqTt, op_eqRf, op_eqRt, op_eqNf, op_eqNt, eqD_int, eqD_nil, pl_int, pl_nil, pl_non, pl_rnil, pl_bl, sl_tupE, sl_rolE, keep_ref, keep_tup, keep_rol, tp_int, tp_tup, tp_rol, tp_str, tp_bl, tp_non, tp_ref, oFd, oMd, oPw, oShl, oLt, oLe, oGt, oGe, op_in, op_cp, wipe_nil, wipe_cons, mset_same, true_and, and_true, isN_int, ex_lstF, ex_repF, ex_lgF1, ex_lgF2, ex_tupRg1, ex_tupRg2, ex_frz, ex_slF, ex_slM, sl_tupF, sl_rolF, op_iiF, op_ssF, op_ttF, op_rrF, op_rrM, op_mmF, op_repF, li_rol, li_ref, bl_listF, bl_allF, bl_anyF, asT_some, asJ_some, op_eqBf, op_eqBt, isN_non, Bool.not_true, Bool.not_false, rep2]
  refine k1 _ (b + 1) _ _ _ _ f1 (by omega) (by decide) (by decide) fun way M2 w0 w1 f2 o2 => ?_
  have o12 := o1.trans o2
  try dsimp only
  rw [st_seq, st_if]
  simp only [ex_c, ex_var, ex_op, ex_un, ex_b, ex_and, ex_or, ex_not, ex_andV, ex_orV, ex_notV, ex_if, ex_chain, ex_nil, ex_cons, ex_tup, ex_lst, ex_call, ex_callP, ex_cb, ex_bm, ex_rep, ex_sl, ex_noPart, ex_part, ex_yes, it_items, it_rng1, it_rng2, tg_name, tg_sub, tg_tup, tg_cons, tg_nil, gs_0, gs_s, ss_0, ss_s, op_ii, op_ss, op_tt, op_mm, op_sb, op_ng, op_iNf, op_iNt, op_lle, op_ixT, op_ixR, op_ixL, op_putE, op_appE, it_tupE, it_rolE, it_refE, lstOf_l, exL, asS_some, asI_int, asB_bl, asL_some, asN_some, ite3_t, ite3_f, bl_1, bl_lenT, bl_lenR, bl_lenL, bl_lenS, bl_tuple, bl_list, bl_abs, bl_intI, bl_intB, bl_max, bl_min, op_eqSf, op_eqSt, op_eqIf, op_eqIt, op_eqTf, op_eqTt, op_eqRf, op_eqRt, op_eqNf, op_eqNt, eqD_int, eqD_nil, pl_int, pl_nil, pl_non, pl_rnil, pl_bl, sl_tupE, sl_rolE, keep_ref, keep_tup, keep_rol, tp_int, tp_tup, tp_rol, tp_str, tp_bl, tp_non, tp_ref, oFd, oMd, oPw, oShl, oLt, oLe, oGt, oGe, op_in, op_cp, wipe_nil, wipe_cons, mset_same, true_and, and_true, isN_int, ex_lstF, ex_repF, ex_lgF1, ex_lgF2, ex_tupRg1, ex_tupRg2, ex_frz, ex_slF, ex_slM, sl_tupF, sl_rolF, op_iiF, op_ssF, op_ttF, op_rrF, op_rrM, op_mmF, op_repF, li_rol, li_ref, bl_listF, bl_allF, bl_anyF, asT_some, asJ_some, op_eqBf, op_eqBt, isN_non, Bool.not_true, Bool.not_false, rep2]
  refine ite3_by (fun h => ?_) (fun h => ?_)
  · rw [st_ret]
    simp only [ex_c, ex_var, ex_op, ex_un, ex_b, ex_and, ex_or, ex_not, ex_andV, ex_orV, ex_notV, ex_if, ex_chain, ex_nil, ex_cons, ex_tup, ex_lst, ex_call, ex_callP, ex_cb, ex_bm, ex_rep, ex_sl, ex_noPart, ex_part, ex_yes, it_items, it_rng1, it_rng2, tg_name, tg_sub, tg_tup, tg_cons, tg_nil, gs_0, gs_s, ss_0, ss_s, op_ii, op_ss, op_tt, op_mm, op_sb, op_ng, op_iNf, op_iNt, op_lle, op_ixT, op_ixR, op_ixL, op_putE, op_appE, it_tupE, it_rolE, it_refE, lstOf_l, exL, asS_some, asI_int, asB_bl, asL_some, asN_some, ite3_t, ite3_f, bl_1, bl_lenT, bl_lenR, bl_lenL, bl_lenS, bl_tuple, bl_list, bl_abs, bl_intI, bl_intB, bl_max, bl_min, op_eqSf, op_eqSt, op_eqIf, op_eqIt, op_eqTf, op_eqTt, op_eqRf, op_eqRt, op_eqNf, op_eqNt, eqD_int, eqD_nil, pl_int, pl_nil, pl_non, pl_rnil, pl_bl, sl_tupE, sl_rolE, keep_ref, keep_tup, keep_rol, tp_int, tp_tup, tp_rol, tp_str, tp_bl, tp_non, tp_ref, oFd, oMd, oPw, oShl, oLt, oLe, oGt, oGe, op_in, op_cp, wipe_nil, wipe_cons, mset_same, true_and, and_true, isN_int, ex_lstF, ex_repF, ex_lgF1, ex_lgF2, ex_tupRg1, ex_tupRg2, ex_frz, ex_slF, ex_slM, sl_tupF, sl_rolF, op_iiF, op_ssF, op_ttF, op_rrF, op_rrM, op_mmF, op_repF, li_rol, li_ref, bl_listF, bl_allF, bl_anyF, asT_some, asJ_some, op_eqBf, op_eqBt, isN_non, Bool.not_true, Bool.not_false, rep2]
    exact ⟨by have := hcl (lo := some at0) (hi := none); have := hcl (lo := none) (hi := some at0); omega, q _ _ (app (Nat.le_trans hcl (by decide)) (Nat.le_trans hcl (by decide)) hcut hcut) (f2.mono (by omega)) o12⟩
  rw [st_next]
  try dsimp only
  rw [st_seq, st_if]
  simp only [ex_c, ex_var, ex_op, ex_un, ex_b, ex_and, ex_or, ex_not, ex_andV, ex_orV, ex_notV, ex_if, ex_chain, ex_nil, ex_cons, ex_tup, ex_lst, ex_call, ex_callP, ex_cb, ex_bm, ex_rep, ex_sl, ex_noPart, ex_part, ex_yes, it_items, it_rng1, it_rng2, tg_name, tg_sub, tg_tup, tg_cons, tg_nil, gs_0, gs_s, ss_0, ss_s, op_ii, op_ss, op_tt, op_mm, op_sb, op_ng, op_iNf, op_iNt, op_lle, op_ixT, op_ixR, op_ixL, op_putE, op_appE, it_tupE, it_rolE, it_refE, lstOf_l, exL, asS_some, asI_int, asB_bl, asL_some, asN_some, ite3_t, ite3_f, bl_1, bl_lenT, bl_lenR, bl_lenL, bl_lenS, bl_tuple, bl_list, bl_abs, bl_intI, bl_intB, bl_max, bl_min, op_eqSf, op_eqSt, op_eqIf, op_eqIt, op_eqTf, op_eqTt, op_eqRf, op_eqRt, op_eqNf, op_eqNt, eqD_int, eqD_nil, pl_int, pl_nil, pl_non, pl_rnil, pl_bl, sl_tupE, sl_rolE, keep_ref, keep_tup, keep_rol, tp_int, tp_tup, tp_rol, tp_str, tp_bl, tp_non, tp_ref, oFd, oMd, oPw, oShl, oLt, oLe, oGt, oGe, op_in, op_cp, wipe_nil, wipe_cons, mset_same, true_and, and_true, isN_int, ex_lstF, ex_repF, ex_lgF1, ex_lgF2, ex_tupRg1, ex_tupRg2, ex_frz, ex_slF, ex_slM, sl_tupF, sl_rolF, op_iiF, op_ssF, op_ttF, op_rrF, op_rrM, op_mmF, op_repF, li_rol, li_ref, bl_listF, bl_allF, bl_anyF, asT_some, asJ_some, op_eqBf, op_eqBt, isN_non, Bool.not_true, Bool.not_false, rep2]
  refine ite3_by (fun h => ?_) (fun h => ?_)
  · rw [st_ret]
    simp only [ex_c, ex_var, ex_op, ex_un, ex_b, ex_and, ex_or, ex_not, ex_andV, ex_orV, ex_notV, ex_if, ex_chain, ex_nil, ex_cons, ex_tup, ex_lst, ex_call, ex_callP, ex_cb, ex_bm, ex_rep, ex_sl, ex_noPart, ex_part, ex_yes, it_items, it_rng1, it_rng2, tg_name, tg_sub, tg_tup, tg_cons, tg_nil, gs_0, gs_s, ss_0, ss_s, op_ii, op_ss, op_tt, op_mm, op_sb, op_ng, op_iNf, op_iNt, op_lle, op_ixT, op_ixR, op_ixL, op_putE, op_appE, it_tupE, it_rolE, it_refE, lstOf_l, exL, asS_some, asI_int, asB_bl, asL_some, asN_some, ite3_t, ite3_f, bl_1, bl_lenT, bl_lenR, bl_lenL, bl_lenS, bl_tuple, bl_list, bl_abs, bl_intI, bl_intB, bl_max, bl_min, op_eqSf, op_eqSt, op_eqIf, op_eqIt, op_eqTf, op_eqTt, op_eqRf, op_eqRt, op_eqNf, op_eqNt, eqD_int, eqD_nil, pl_int, pl_nil, pl_non, pl_rnil, pl_bl, sl_tupE, sl_rolE, keep_ref, keep_tup, keep_rol, tp_int, tp_tup, tp_rol, tp_str, tp_bl, tp_non, tp_ref, oFd, oMd, oPw, oShl, oLt, oLe, oGt, oGe, op_in, op_cp, wipe_nil, wipe_cons, mset_same, true_and, and_true, isN_int, ex_lstF, ex_repF, ex_lgF1, ex_lgF2, ex_tupRg1, ex_tupRg2, ex_frz, ex_slF, ex_slM, sl_tupF, sl_rolF, op_iiF, op_ssF, op_ttF, op_rrF, op_rrM, op_mmF, op_repF, li_rol, li_ref, bl_listF, bl_allF, bl_anyF, asT_some, asJ_some, op_eqBf, op_eqBt, isN_non, Bool.not_true, Bool.not_false, rep2]
    exact ⟨by have := hcl (lo := some (at0 + 1)) (hi := none); have := hcl (lo := none) (hi := some at0); omega, q _ _ (app (Nat.le_trans hcl (by decide)) (Nat.le_trans hcl (by decide)) hcut hcut) (f2.mono (by omega)) o12⟩
  rw [st_next]
  try dsimp only
  rw [st_seq, st_if]
  simp only [ex_c, ex_var, ex_op, ex_un, ex_b, ex_and, ex_or, ex_not, ex_andV, ex_orV, ex_notV, ex_if, ex_chain, ex_nil, ex_cons, ex_tup, ex_lst, ex_call, ex_callP, ex_cb, ex_bm, ex_rep, ex_sl, ex_noPart, ex_part, ex_yes, it_items, it_rng1, it_rng2, tg_name, tg_sub, tg_tup, tg_cons, tg_nil, gs_0, gs_s, ss_0, ss_s, op_ii, op_ss, op_tt, op_mm, op_sb, op_ng, op_iNf, op_iNt, op_lle, op_ixT, op_ixR, op_ixL, op_putE, op_appE, it_tupE, it_rolE, it_refE, lstOf_l, exL, asS_some, asI_int, asB_bl, asL_some, asN_some, ite3_t, ite3_f, bl_1, bl_lenT, bl_lenR, bl_lenL, bl_lenS, bl_tuple, bl_list, bl_abs, bl_intI, bl_intB, bl_max, bl_min, op_eqSf, op_eqSt, op_eqIf, op_eqIt, op_eqTf, op_eqTt, op_eqRf, op_eqRt, op_eqNf, op_eqNt, eqD_int, eqD_nil, pl_int, pl_nil, pl_non, pl_rnil, pl_bl, sl_tupE, sl_rolE, keep_ref, keep_tup, keep_rol, tp_int, tp_tup, tp_rol, tp_str, tp_bl, tp_non, tp_ref, oFd, oMd, oPw, oShl, oLt, oLe, oGt, oGe, op_in, op_cp, wipe_nil, wipe_cons, mset_same, true_and, and_true, isN_int, ex_lstF, ex_repF, ex_lgF1, ex_lgF2, ex_tupRg1, ex_tupRg2, ex_frz, ex_slF, ex_slM, sl_tupF, sl_rolF, op_iiF, op_ssF, op_ttF, op_rrF, op_rrM, op_mmF, op_repF, li_rol, li_ref, bl_listF, bl_allF, bl_anyF, asT_some, asJ_some, op_eqBf, op_eqBt, isN_non, Bool.not_true, Bool.not_false, rep2]
  refine ite3_by (fun h => ?_) (fun h => ?_)
  · rw [st_ret]
    simp only [ex_c, ex_var, ex_op, ex_un, ex_b, ex_and, ex_or, ex_not, ex_andV, ex_orV, ex_notV, ex_if, ex_chain, ex_nil, ex_cons, ex_tup, ex_lst, ex_call, ex_callP, ex_cb, ex_bm, ex_rep, ex_sl, ex_noPart, ex_part, ex_yes, it_items, it_rng1, it_rng2, tg_name, tg_sub, tg_tup, tg_cons, tg_nil, gs_0, gs_s, ss_0, ss_s, op_ii, op_ss, op_tt, op_mm, op_sb, op_ng, op_iNf, op_iNt, op_lle, op_ixT, op_ixR, op_ixL, op_putE, op_appE, it_tupE, it_rolE, it_refE, lstOf_l, exL, asS_some, asI_int, asB_bl, asL_some, asN_some, ite3_t, ite3_f, bl_1, bl_lenT, bl_lenR, bl_lenL, bl_lenS, bl_tuple, bl_list, bl_abs, bl_intI, bl_intB, bl_max, bl_min, op_eqSf, op_eqSt, op_eqIf, op_eqIt, op_eqTf, op_eqTt, op_eqRf, op_eqRt, op_eqNf, op_eqNt, eqD_int, eqD_nil, pl_int, pl_nil, pl_non, pl_rnil, pl_bl, sl_tupE, sl_rolE, keep_ref, keep_tup, keep_rol, tp_int, tp_tup, tp_rol, tp_str, tp_bl, tp_non, tp_ref, oFd, oMd, oPw, oShl, oLt, oLe, oGt, oGe, op_in, op_cp, wipe_nil, wipe_cons, mset_same, true_and, and_true, isN_int, ex_lstF, ex_repF, ex_lgF1, ex_lgF2, ex_tupRg1, ex_tupRg2, ex_frz, ex_slF, ex_slM, sl_tupF, sl_rolF, op_iiF, op_ssF, op_ttF, op_rrF, op_rrM, op_mmF, op_repF, li_rol, li_ref, bl_listF, bl_allF, bl_anyF, asT_some, asJ_some, op_eqBf, op_eqBt, isN_non, Bool.not_true, Bool.not_false, rep2]
    exact ⟨by have := hcl (lo := some at0) (hi := some (at0 + 1)); omega, q _ _ (app (by omega) (Nat.le_trans hcl (by decide)) hx hcut) (f2.mono (by omega)) o12⟩
  rw [st_next]
  try dsimp only
  rw [st_seq, st_if]
  simp only [ex_c, ex_var, ex_op, ex_un, ex_b, ex_and, ex_or, ex_not, ex_andV, ex_orV, ex_notV, ex_if, ex_chain, ex_nil, ex_cons, ex_tup, ex_lst, ex_call, ex_callP, ex_cb, ex_bm, ex_rep, ex_sl, ex_noPart, ex_part, ex_yes, it_items, it_rng1, it_rng2, tg_name, tg_sub, tg_tup, tg_cons, tg_nil, gs_0, gs_s, ss_0, ss_s, op_ii, op_ss, op_tt, op_mm, op_sb, op_ng, op_iNf, op_iNt, op_lle, op_ixT, op_ixR, op_ixL, op_putE, op_appE, it_tupE, it_rolE, it_refE, lstOf_l, exL, asS_some, asI_int, asB_bl, asL_some, asN_some, ite3_t, ite3_f, bl_1, bl_lenT, bl_lenR, bl_lenL, bl_lenS, bl_tuple, bl_list, bl_abs, bl_intI, bl_intB, bl_max, bl_min, op_eqSf, op_eqSt, op_eqIf, op_eqIt, op_eqTf, op_eqTt, op_eqRf, op_eqRt, op_eqNf, op_eqNt, eqD_int, eqD_nil, pl_int, pl_nil, pl_non, pl_rnil, pl_bl, sl_tupE, sl_rolE, keep_ref, keep_tup, keep_rol, tp_int, tp_tup, tp_rol, tp_str, tp_bl, tp_non, tp_ref, oFd, oMd, oPw, oShl, oLt, oLe, oGt, oGe, op_in, op_cp, wipe_nil, wipe_cons, mset_same, true_and, and_true, isN_int, ex_lstF, ex_repF, ex_lgF1, ex_lgF2, ex_tupRg1, ex_tupRg2, ex_frz, ex_slF, ex_slM, sl_tupF, sl_rolF, op_iiF, op_ssF, op_ttF, op_rrF, op_rrM, op_mmF, op_repF, li_rol, li_ref, bl_listF, bl_allF, bl_anyF, asT_some, asJ_some, op_eqBf, op_eqBt, isN_non, Bool.not_true, Bool.not_false, rep2]
  refine ite3_by (fun h => ?_) (fun h => ?_)
  · rw [st_ret]
    simp only [ex_c, ex_var, ex_op, ex_un, ex_b, ex_and, ex_or, ex_not, ex_andV, ex_orV, ex_notV, ex_if, ex_chain, ex_nil, ex_cons, ex_tup, ex_lst, ex_call, ex_callP, ex_cb, ex_bm, ex_rep, ex_sl, ex_noPart, ex_part, ex_yes, it_items, it_rng1, it_rng2, tg_name, tg_sub, tg_tup, tg_cons, tg_nil, gs_0, gs_s, ss_0, ss_s, op_ii, op_ss, op_tt, op_mm, op_sb, op_ng, op_iNf, op_iNt, op_lle, op_ixT, op_ixR, op_ixL, op_putE, op_appE, it_tupE, it_rolE, it_refE, lstOf_l, exL, asS_some, asI_int, asB_bl, asL_some, asN_some, ite3_t, ite3_f, bl_1, bl_lenT, bl_lenR, bl_lenL, bl_lenS, bl_tuple, bl_list, bl_abs, bl_intI, bl_intB, bl_max, bl_min, op_eqSf, op_eqSt, op_eqIf, op_eqIt, op_eqTf, op_eqTt, op_eqRf, op_eqRt, op_eqNf, op_eqNt, eqD_int, eqD_nil, pl_int, pl_nil, pl_non, pl_rnil, pl_bl, sl_tupE, sl_rolE, keep_ref, keep_tup, keep_rol, tp_int, tp_tup, tp_rol, tp_str, tp_bl, tp_non, tp_ref, oFd, oMd, oPw, oShl, oLt, oLe, oGt, oGe, op_in, op_cp, wipe_nil, wipe_cons, mset_same, true_and, and_true, isN_int, ex_lstF, ex_repF, ex_lgF1, ex_lgF2, ex_tupRg1, ex_tupRg2, ex_frz, ex_slF, ex_slM, sl_tupF, sl_rolF, op_iiF, op_ssF, op_ttF, op_rrF, op_rrM, op_mmF, op_repF, li_rol, li_ref, bl_listF, bl_allF, bl_anyF, asT_some, asJ_some, op_eqBf, op_eqBt, isN_non, Bool.not_true, Bool.not_false, rep2]
    exact q _ _ (vdR (by omega) hx) (f2.mono (by omega)) o12
  rw [st_next]
  try dsimp only
  rw [st_seq, st_if]
  simp only [ex_c, ex_var, ex_op, ex_un, ex_b, ex_and, ex_or, ex_not, ex_andV, ex_orV, ex_notV, ex_if, ex_chain, ex_nil, ex_cons, ex_tup, ex_lst, ex_call, ex_callP, ex_cb, ex_bm, ex_rep, ex_sl, ex_noPart, ex_part, ex_yes, it_items, it_rng1, it_rng2, tg_name, tg_sub, tg_tup, tg_cons, tg_nil, gs_0, gs_s, ss_0, ss_s, op_ii, op_ss, op_tt, op_mm, op_sb, op_ng, op_iNf, op_iNt, op_lle, op_ixT, op_ixR, op_ixL, op_putE, op_appE, it_tupE, it_rolE, it_refE, lstOf_l, exL, asS_some, asI_int, asB_bl, asL_some, asN_some, ite3_t, ite3_f, bl_1, bl_lenT, bl_lenR, bl_lenL, bl_lenS, bl_tuple, bl_list, bl_abs, bl_intI, bl_intB, bl_max, bl_min, op_eqSf, op_eqSt, op_eqIf, op_eqIt, op_eqTf, op_eqTt, op_eqRf, op_eqRt, op_eqNf, op_eqNt, eqD_int, eqD_nil, pl_int, pl_nil, pl_non, pl_rnil, pl_bl, sl_tupE, sl_rolE, keep_ref, keep_tup, keep_rol, tp_int, tp_tup, tp_rol, tp_str, tp_bl, tp_non, tp_ref, oFd, oMd, oPw, oShl, oLt, oLe, oGt, oGe, op_in, op_cp, wipe_nil, wipe_cons, mset_same, true_and, and_true, isN_int, ex_lstF, ex_repF, ex_lgF1, ex_lgF2, ex_tupRg1, ex_tupRg2, ex_frz, ex_slF, ex_slM, sl_tupF, sl_rolF, op_iiF, op_ssF, op_ttF, op_rrF, op_rrM, op_mmF, op_repF, li_rol, li_ref, bl_listF, bl_allF, bl_anyF, asT_some, asJ_some, op_eqBf, op_eqBt, isN_non, Bool.not_true, Bool.not_false, rep2]
  refine ite3_by (fun h => ?_) (fun h => ?_)
  · rw [st_ret]
    simp only [ex_c, ex_var, ex_op, ex_un, ex_b, ex_and, ex_or, ex_not, ex_andV, ex_orV, ex_notV, ex_if, ex_chain, ex_nil, ex_cons, ex_tup, ex_lst, ex_call, ex_callP, ex_cb, ex_bm, ex_rep, ex_sl, ex_noPart, ex_part, ex_yes, it_items, it_rng1, it_rng2, tg_name, tg_sub, tg_tup, tg_cons, tg_nil, gs_0, gs_s, ss_0, ss_s, op_ii, op_ss, op_tt, op_mm, op_sb, op_ng, op_iNf, op_iNt, op_lle, op_ixT, op_ixR, op_ixL, op_putE, op_appE, it_tupE, it_rolE, it_refE, lstOf_l, exL, asS_some, asI_int, asB_bl, asL_some, asN_some, ite3_t, ite3_f, bl_1, bl_lenT, bl_lenR, bl_lenL, bl_lenS, bl_tuple, bl_list, bl_abs, bl_intI, bl_intB, bl_max, bl_min, op_eqSf, op_eqSt, op_eqIf, op_eqIt, op_eqTf, op_eqTt, op_eqRf, op_eqRt, op_eqNf, op_eqNt, eqD_int, eqD_nil, pl_int, pl_nil, pl_non, pl_rnil, pl_bl, sl_tupE, sl_rolE, keep_ref, keep_tup, keep_rol, tp_int, tp_tup, tp_rol, tp_str, tp_bl, tp_non, tp_ref, oFd, oMd, oPw, oShl, oLt, oLe, oGt, oGe, op_in, op_cp, wipe_nil, wipe_cons, mset_same, true_and, and_true, isN_int, ex_lstF, ex_repF, ex_lgF1, ex_lgF2, ex_tupRg1, ex_tupRg2, ex_frz, ex_slF, ex_slM, sl_tupF, sl_rolF, op_iiF, op_ssF, op_ttF, op_rrF, op_rrM, op_mmF, op_repF, li_rol, li_ref, bl_listF, bl_allF, bl_anyF, asT_some, asJ_some, op_eqBf, op_eqBt, isN_non, Bool.not_true, Bool.not_false, rep2, ex_revF, rv_tup]
    exact q _ _ (vdT (by rw [List.length_reverse]; omega) (by decide) fun x h => hx x (List.mem_reverse.mp h)) (f2.mono (by omega)) o12
  rw [st_next]
  try dsimp only
  rw [st_seq, st_set]
  simp only [ex_c, ex_var, ex_op, ex_un, ex_b, ex_and, ex_or, ex_not, ex_andV, ex_orV, ex_notV, ex_if, ex_chain, ex_nil, ex_cons, ex_tup, ex_lst, ex_call, ex_callP, ex_cb, ex_bm, ex_rep, ex_sl, ex_noPart, ex_part, ex_yes, it_items, it_rng1, it_rng2, tg_name, tg_sub, tg_tup, tg_cons, tg_nil, gs_0, gs_s, ss_0, ss_s, op_ii, op_ss, op_tt, op_mm, op_sb, op_ng, op_iNf, op_iNt, op_lle, op_ixT, op_ixR, op_ixL, op_putE, op_appE, it_tupE, it_rolE, it_refE, lstOf_l, exL, asS_some, asI_int, asB_bl, asL_some, asN_some, ite3_t, ite3_f, bl_1, bl_lenT, bl_lenR, bl_lenL, bl_lenS, bl_tuple, bl_list, bl_abs, bl_intI, bl_intB, bl_max, bl_min, op_eqSf, op_eqSt, op_eqIf, op_eqIt, op_eqTf, op_eqTt, op_eqRf, op_eqRt, op_eqNf, op_eqNt, eqD_int, eqD_nil, pl_int, pl_nil, pl_non, pl_rnil, pl_bl, sl_tupE, sl_rolE, keep_ref, keep_tup, keep_rol, tp_int, tp_tup, tp_rol, tp_str, tp_bl, tp_non, tp_ref, oFd, oMd, oPw, oShl, oLt, oLe, oGt, oGe, op_in, op_cp, wipe_nil, wipe_cons, mset_same, true_and, and_true, isN_int, ex_lstF, ex_repF, ex_lgF1, ex_lgF2, ex_tupRg1, ex_tupRg2, ex_frz, ex_slF, ex_slM, sl_tupF, sl_rolF, op_iiF, op_ssF, op_ttF, op_rrF, op_rrM, op_mmF, op_repF, li_rol, li_ref, bl_listF, bl_allF, bl_anyF, asT_some, asJ_some, op_eqBf, op_eqBt, isN_non, Bool.not_true, Bool.not_false, rep2]
  refine ⟨by show 1 ≤ sizeLine; omega, cp30, by show 9 ≤ sizeLine; omega, k1 _ (b + 2) _ _ _ _ f2 (by omega) (by decide) (by decide) fun u M3 u0 u1 f3 o3 => ?_⟩
  have hu : u = 0 ∨ u = 1 ∨ u = 2 ∨ u = 3 ∨ u = 4 ∨ u = 5 ∨ u = 6 ∨ u = 7 ∨ u = 8 := by omega
  have e30 : (10 : Int) ^ (30 : Int).toNat = 1000000000000000000000000000000 := by decide
  rw [e30]
  obtain ⟨x, hat, hv⟩ : ∃ x, atI [D.int (n : Nat), .int (-1), .bl true, .bl false, .non, .str ("0" : Str), .tup [.int 0], .int ((n : Nat) - 1), .int 1000000000000000000000000000000] u = some x ∧ Tm 2 10 x := by
    rcases hu with rfl | rfl | rfl | rfl | rfl | rfl | rfl | rfl | rfl
    · exact ⟨_, rfl, tI (Nat.le_trans (show ((n : Nat) : Int).natAbs ≤ 7 by omega) (by decide))⟩
    · exact ⟨_, rfl, tI (by decide)⟩
    · exact ⟨_, rfl, tB⟩
    · exact ⟨_, rfl, tB⟩
    · exact ⟨_, rfl, tN⟩
    · exact ⟨_, rfl, tm_sz.mono (by decide) (by decide)⟩
    · exact ⟨_, rfl, one ((Tm.int (i := 0) (by decide)).mono (by decide) (by decide))⟩
    · exact ⟨_, rfl, tI (Nat.le_trans (show ((n : Nat) - 1 : Int).natAbs ≤ 7 by omega) (by decide))⟩
    · exact ⟨_, rfl, tI (by decide)⟩
  (try simp only [ex_c, ex_var, ex_op, ex_un, ex_b, ex_and, ex_or, ex_not, ex_andV, ex_orV, ex_notV, ex_if, ex_chain, ex_nil, ex_cons, ex_tup, ex_lst, ex_call, ex_callP, ex_cb, ex_bm, ex_rep, ex_sl, ex_noPart, ex_part, ex_yes, it_items, it_rng1, it_rng2, tg_name, tg_sub, tg_tup, tg_cons, tg_nil, gs_0, gs_s, ss_0, ss_s, op_ii, op_ss, op_tt, op_mm, op_sb, op_ng, op_iNf, op_iNt, op_lle, op_ixT, op_ixR, op_ixL, op_putE, op_appE, it_tupE, it_rolE, it_refE, lstOf_l, exL, asS_some, asI_int, asB_bl, asL_some, asN_some, ite3_t, ite3_f, bl_1, bl_lenT, bl_lenR, bl_lenL, bl_lenS, bl_tuple, bl_list, bl_abs, bl_intI, bl_intB, bl_max, bl_min, op_eqSf, op_eqSt, op_eqIf, op_eqIt, op_eqTf, op_eqTt, op_eqRf, op_eqRt, op_eqNf, op_eqNt, eqD_int, eqD_nil, pl_int, pl_nil, pl_non, pl_rnil, pl_bl, sl_tupE, sl_rolE, keep_ref, keep_tup, keep_rol, tp_int, tp_tup, tp_rol, tp_str, tp_bl, tp_non, tp_ref, oFd, oMd, oPw, oShl, oLt, oLe, oGt, oGe, op_in, op_cp, wipe_nil, wipe_cons, mset_same, true_and, and_true, isN_int, ex_lstF, ex_repF, ex_lgF1, ex_lgF2, ex_tupRg1, ex_tupRg2, ex_frz, ex_slF, ex_slM, sl_tupF, sl_rolF, op_iiF, op_ssF, op_ttF, op_rrF, op_rrM, op_mmF, op_repF, li_rol, li_ref, bl_listF, bl_allF, bl_anyF, asT_some, asJ_some, op_eqBf, op_eqBt, isN_non, Bool.not_true, Bool.not_false, rep2, hat])
  try dsimp only
  rw [st_ret]
  simp only [ex_c, ex_var, ex_op, ex_un, ex_b, ex_and, ex_or, ex_not, ex_andV, ex_orV, ex_notV, ex_if, ex_chain, ex_nil, ex_cons, ex_tup, ex_lst, ex_call, ex_callP, ex_cb, ex_bm, ex_rep, ex_sl, ex_noPart, ex_part, ex_yes, it_items, it_rng1, it_rng2, tg_name, tg_sub, tg_tup, tg_cons, tg_nil, gs_0, gs_s, ss_0, ss_s, op_ii, op_ss, op_tt, op_mm, op_sb, op_ng, op_iNf, op_iNt, op_lle, op_ixT, op_ixR, op_ixL, op_putE, op_appE, it_tupE, it_rolE, it_refE, lstOf_l, exL, asS_some, asI_int, asB_bl, asL_some, asN_some, ite3_t, ite3_f, bl_1, bl_lenT, bl_lenR, bl_lenL, bl_lenS, bl_tuple, bl_list, bl_abs, bl_intI, bl_intB, bl_max, bl_min, op_eqSf, op_eqSt, op_eqIf, op_eqIt, op_eqTf, op_eqTt, op_eqRf, op_eqRt, op_eqNf, op_eqNt, eqD_int, eqD_nil, pl_int, pl_nil, pl_non, pl_rnil, pl_bl, sl_tupE, sl_rolE, keep_ref, keep_tup, keep_rol, tp_int, tp_tup, tp_rol, tp_str, tp_bl, tp_non, tp_ref, oFd, oMd, oPw, oShl, oLt, oLe, oGt, oGe, op_in, op_cp, wipe_nil, wipe_cons, mset_same, true_and, and_true, isN_int, ex_lstF, ex_repF, ex_lgF1, ex_lgF2, ex_tupRg1, ex_tupRg2, ex_frz, ex_slF, ex_slM, sl_tupF, sl_rolF, op_iiF, op_ssF, op_ttF, op_rrF, op_rrM, op_mmF, op_repF, li_rol, li_ref, bl_listF, bl_allF, bl_anyF, asT_some, asJ_some, op_eqBf, op_eqBt, isN_non, Bool.not_true, Bool.not_false, rep2]
  have c1 := hcl (lo := none) (hi := some at0)
  have c2 := hcl (lo := some (at0 + 1)) (hi := none)
  refine ⟨by show 1 ≤ sizeLine; omega, by show _ + 1 ≤ sizeLine; omega, by rw [List.length_append]; show _ + 1 + _ ≤ sizeLine; omega, q _ _ (app (by rw [List.length_append]; show _ + 1 ≤ 10; omega) (by omega) (fun y hy => ?_) hcut) f3 (o12.trans o3)⟩
  rcases List.mem_append.mp hy with z | z
  · exact hcut y z
  · rw [List.mem_singleton] at z; rw [z]; exact hv
theorem m_law {s1 s2 s3 s4 s5 s6 s7 s8 : Sp3} (k1 : SFeed7 s1) (k2 : SDraw7 s2) (k3 : STab7 s3) (k4 : SRing s4) (k40 : SRing0 s4) (k5 : SWalked s5) (k6 : SBent s6) (k7 : STold s7) (k8 : STold s8) (ns : List Int) :
    spOf 1 10 (r_law s1 s2 s3 s4 s5 s6 s7 s8) [.rol (ns.map D.int)] M0 (fun v _ => v = .bl true) (fun _ _ _ => False) := by
  refine ⟨rfl, ?_⟩
  show r_law s1 s2 s3 s4 s5 s6 s7 s8 _ _ [some (.rol (ns.map D.int)), none, none, none, none, none, none, none, none, none] M0
  unfold r_law
  have big : (1000000 : Nat) ≤ sizeLine := by decide
  rw [st_seq, st_set]
  simp only [ex_c, ex_var, ex_op, ex_un, ex_b, ex_and, ex_or, ex_not, ex_andV, ex_orV, ex_notV, ex_if, ex_chain, ex_nil, ex_cons, ex_tup, ex_lst, ex_call, ex_callP, ex_cb, ex_bm, ex_rep, ex_sl, ex_noPart, ex_part, ex_yes, it_items, it_rng1, it_rng2, tg_name, tg_sub, tg_tup, tg_cons, tg_nil, gs_0, gs_s, ss_0, ss_s, op_ii, op_ss, op_tt, op_mm, op_sb, op_ng, op_iNf, op_iNt, op_lle, op_ixT, op_ixR, op_ixL, op_putE, op_appE, it_tupE, it_rolE, it_refE, lstOf_l, exL, asS_some, asI_int, asB_bl, asL_some, asN_some, ite3_t, ite3_f, bl_1, bl_lenT, bl_lenR, bl_lenL, bl_lenS, bl_tuple, bl_list, bl_abs, bl_intI, bl_intB, bl_max, bl_min, op_eqSf, op_eqSt, op_eqIf, op_eqIt, op_eqTf, op_eqTt, op_eqRf, op_eqRt, op_eqNf, op_eqNt, eqD_int, eqD_nil, pl_int, pl_nil, pl_non, pl_rnil, pl_bl, sl_tupE, sl_rolE, keep_ref, keep_tup, keep_rol, tp_int, tp_tup, tp_rol, tp_str, tp_bl, tp_non, tp_ref, oFd, oMd, oPw, oShl, oLt, oLe, oGt, oGe, op_in, op_cp, wipe_nil, wipe_cons, mset_same, true_and, and_true, isN_int, ex_lstF, ex_repF, ex_lgF1, ex_lgF2, ex_tupRg1, ex_tupRg2, ex_frz, ex_slF, ex_slM, sl_tupF, sl_rolF, op_iiF, op_ssF, op_ttF, op_rrF, op_rrM, op_mmF, op_repF, li_rol, li_ref, bl_listF, bl_allF, bl_anyF, asT_some, asJ_some, op_eqBf, op_eqBt, isN_non, Bool.not_true, Bool.not_false, rep2]
  refine k1 _ _ _ _ fun a M1 _ f _ => ?_
  try dsimp only
  rw [st_seq, st_for]
  simp only [ex_c, ex_var, ex_op, ex_un, ex_b, ex_and, ex_or, ex_not, ex_andV, ex_orV, ex_notV, ex_if, ex_chain, ex_nil, ex_cons, ex_tup, ex_lst, ex_call, ex_callP, ex_cb, ex_bm, ex_rep, ex_sl, ex_noPart, ex_part, ex_yes, it_items, it_rng1, it_rng2, tg_name, tg_sub, tg_tup, tg_cons, tg_nil, gs_0, gs_s, ss_0, ss_s, op_ii, op_ss, op_tt, op_mm, op_sb, op_ng, op_iNf, op_iNt, op_lle, op_ixT, op_ixR, op_ixL, op_putE, op_appE, it_tupE, it_rolE, it_refE, lstOf_l, exL, asS_some, asI_int, asB_bl, asL_some, asN_some, ite3_t, ite3_f, bl_1, bl_lenT, bl_lenR, bl_lenL, bl_lenS, bl_tuple, bl_list, bl_abs, bl_intI, bl_intB, bl_max, bl_min, op_eqSf, op_eqSt, op_eqIf, op_eqIt, op_eqTf, op_eqTt, op_eqRf, op_eqRt, op_eqNf, op_eqNt, eqD_int, eqD_nil, pl_int, pl_nil, pl_non, pl_rnil, pl_bl, sl_tupE, sl_rolE, keep_ref, keep_tup, keep_rol, tp_int, tp_tup, tp_rol, tp_str, tp_bl, tp_non, tp_ref, oFd, oMd, oPw, oShl, oLt, oLe, oGt, oGe, op_in, op_cp, wipe_nil, wipe_cons, mset_same, true_and, and_true, isN_int, ex_lstF, ex_repF, ex_lgF1, ex_lgF2, ex_tupRg1, ex_tupRg2, ex_frz, ex_slF, ex_slM, sl_tupF, sl_rolF, op_iiF, op_ssF, op_ttF, op_rrF, op_rrM, op_mmF, op_repF, li_rol, li_ref, bl_listF, bl_allF, bl_anyF, asT_some, asJ_some, op_eqBf, op_eqBt, isN_non, Bool.not_true, Bool.not_false, rep2]
  obtain ⟨c, hc, hc0, hc1⟩ : ∃ c : Int, (if (if (8 : Int) < ((ns.map D.int).length : Int) then 8 else ((ns.map D.int).length : Int)) > 3 then (if (8 : Int) < ((ns.map D.int).length : Int) then 8 else ((ns.map D.int).length : Int)) else 3 : Int) = c ∧ 0 ≤ c ∧ c ≤ 8 := ⟨_, rfl, by split <;> split at * <;> omega, by split <;> split at * <;> omega⟩
  rw [hc]
  refine ⟨by omega, by omega, ?_⟩
  have hl : c.toNat ≤ 8 := by omega
  refine for_rg (fun i τ M => i ≤ c.toNat ∧ Fd (1000 * i) M a ∧ ∃ x2 x3 x4 x5 x6 x7 x8 x9, τ = [some (.rol (ns.map D.int)), some (.ref a), x2, x3, x4, x5, x6, x7, x8, x9]) ?_ ?_ ⟨Nat.zero_le _, f.mono (by omega), _, _, _, _, _, _, _, _, rfl⟩
  · rintro i τ M hi ⟨_, f, x2, x3, x4, x5, x6, x7, x8, x9, rfl⟩ X hX
    rw [tg_name, st_seq, st_set]
    simp only [ex_c, ex_var, ex_op, ex_un, ex_b, ex_and, ex_or, ex_not, ex_andV, ex_orV, ex_notV, ex_if, ex_chain, ex_nil, ex_cons, ex_tup, ex_lst, ex_call, ex_callP, ex_cb, ex_bm, ex_rep, ex_sl, ex_noPart, ex_part, ex_yes, it_items, it_rng1, it_rng2, tg_name, tg_sub, tg_tup, tg_cons, tg_nil, gs_0, gs_s, ss_0, ss_s, op_ii, op_ss, op_tt, op_mm, op_sb, op_ng, op_iNf, op_iNt, op_lle, op_ixT, op_ixR, op_ixL, op_putE, op_appE, it_tupE, it_rolE, it_refE, lstOf_l, exL, asS_some, asI_int, asB_bl, asL_some, asN_some, ite3_t, ite3_f, bl_1, bl_lenT, bl_lenR, bl_lenL, bl_lenS, bl_tuple, bl_list, bl_abs, bl_intI, bl_intB, bl_max, bl_min, op_eqSf, op_eqSt, op_eqIf, op_eqIt, op_eqTf, op_eqTt, op_eqRf, op_eqRt, op_eqNf, op_eqNt, eqD_int, eqD_nil, pl_int, pl_nil, pl_non, pl_rnil, pl_bl, sl_tupE, sl_rolE, keep_ref, keep_tup, keep_rol, tp_int, tp_tup, tp_rol, tp_str, tp_bl, tp_non, tp_ref, oFd, oMd, oPw, oShl, oLt, oLe, oGt, oGe, op_in, op_cp, wipe_nil, wipe_cons, mset_same, true_and, and_true, isN_int, ex_lstF, ex_repF, ex_lgF1, ex_lgF2, ex_tupRg1, ex_tupRg2, ex_frz, ex_slF, ex_slM, sl_tupF, sl_rolF, op_iiF, op_ssF, op_ttF, op_rrF, op_rrM, op_mmF, op_repF, li_rol, li_ref, bl_listF, bl_allF, bl_anyF, asT_some, asJ_some, op_eqBf, op_eqBt, isN_non, Bool.not_true, Bool.not_false, rep2]
    refine k2 _ (1000 * i) _ _ _ _ f (by omega) (by decide) (by decide) fun r M2 r0 r1 f2 _ => ?_
    obtain ⟨n, hn⟩ : ∃ n : Nat, 1 + r = n := ⟨(1 + r).toNat, by omega⟩
    (try simp only [ex_c, ex_var, ex_op, ex_un, ex_b, ex_and, ex_or, ex_not, ex_andV, ex_orV, ex_notV, ex_if, ex_chain, ex_nil, ex_cons, ex_tup, ex_lst, ex_call, ex_callP, ex_cb, ex_bm, ex_rep, ex_sl, ex_noPart, ex_part, ex_yes, it_items, it_rng1, it_rng2, tg_name, tg_sub, tg_tup, tg_cons, tg_nil, gs_0, gs_s, ss_0, ss_s, op_ii, op_ss, op_tt, op_mm, op_sb, op_ng, op_iNf, op_iNt, op_lle, op_ixT, op_ixR, op_ixL, op_putE, op_appE, it_tupE, it_rolE, it_refE, lstOf_l, exL, asS_some, asI_int, asB_bl, asL_some, asN_some, ite3_t, ite3_f, bl_1, bl_lenT, bl_lenR, bl_lenL, bl_lenS, bl_tuple, bl_list, bl_abs, bl_intI, bl_intB, bl_max, bl_min, op_eqSf, op_eqSt, op_eqIf, op_eqIt, op_eqTf, op_eqTt, op_eqRf, op_eqRt, op_eqNf, op_eqNt, eqD_int, eqD_nil, pl_int, pl_nil, pl_non, pl_rnil, pl_bl, sl_tupE, sl_rolE, keep_ref, keep_tup, keep_rol, tp_int, tp_tup, tp_rol, tp_str, tp_bl, tp_non, tp_ref, oFd, oMd, oPw, oShl, oLt, oLe, oGt, oGe, op_in, op_cp, wipe_nil, wipe_cons, mset_same, true_and, and_true, isN_int, ex_lstF, ex_repF, ex_lgF1, ex_lgF2, ex_tupRg1, ex_tupRg2, ex_frz, ex_slF, ex_slM, sl_tupF, sl_rolF, op_iiF, op_ssF, op_ttF, op_rrF, op_rrM, op_mmF, op_repF, li_rol, li_ref, bl_listF, bl_allF, bl_anyF, asT_some, asJ_some, op_eqBf, op_eqBt, isN_non, Bool.not_true, Bool.not_false, rep2])
    rw [hn]
    have n0 : 0 < n := by omega
    have n1 : n ≤ 7 := by omega
    try dsimp only
    rw [st_seq, st_set]
    simp only [ex_c, ex_var, ex_op, ex_un, ex_b, ex_and, ex_or, ex_not, ex_andV, ex_orV, ex_notV, ex_if, ex_chain, ex_nil, ex_cons, ex_tup, ex_lst, ex_call, ex_callP, ex_cb, ex_bm, ex_rep, ex_sl, ex_noPart, ex_part, ex_yes, it_items, it_rng1, it_rng2, tg_name, tg_sub, tg_tup, tg_cons, tg_nil, gs_0, gs_s, ss_0, ss_s, op_ii, op_ss, op_tt, op_mm, op_sb, op_ng, op_iNf, op_iNt, op_lle, op_ixT, op_ixR, op_ixL, op_putE, op_appE, it_tupE, it_rolE, it_refE, lstOf_l, exL, asS_some, asI_int, asB_bl, asL_some, asN_some, ite3_t, ite3_f, bl_1, bl_lenT, bl_lenR, bl_lenL, bl_lenS, bl_tuple, bl_list, bl_abs, bl_intI, bl_intB, bl_max, bl_min, op_eqSf, op_eqSt, op_eqIf, op_eqIt, op_eqTf, op_eqTt, op_eqRf, op_eqRt, op_eqNf, op_eqNt, eqD_int, eqD_nil, pl_int, pl_nil, pl_non, pl_rnil, pl_bl, sl_tupE, sl_rolE, keep_ref, keep_tup, keep_rol, tp_int, tp_tup, tp_rol, tp_str, tp_bl, tp_non, tp_ref, oFd, oMd, oPw, oShl, oLt, oLe, oGt, oGe, op_in, op_cp, wipe_nil, wipe_cons, mset_same, true_and, and_true, isN_int, ex_lstF, ex_repF, ex_lgF1, ex_lgF2, ex_tupRg1, ex_tupRg2, ex_frz, ex_slF, ex_slM, sl_tupF, sl_rolF, op_iiF, op_ssF, op_ttF, op_rrF, op_rrM, op_mmF, op_repF, li_rol, li_ref, bl_listF, bl_allF, bl_anyF, asT_some, asJ_some, op_eqBf, op_eqBt, isN_non, Bool.not_true, Bool.not_false, rep2]
    refine k3 _ (1000 * i + 1) n _ _ _ f2 (by omega) n0 n1 fun T1 M3 tT1 f3 _ => ?_
    (try simp only [ex_c, ex_var, ex_op, ex_un, ex_b, ex_and, ex_or, ex_not, ex_andV, ex_orV, ex_notV, ex_if, ex_chain, ex_nil, ex_cons, ex_tup, ex_lst, ex_call, ex_callP, ex_cb, ex_bm, ex_rep, ex_sl, ex_noPart, ex_part, ex_yes, it_items, it_rng1, it_rng2, tg_name, tg_sub, tg_tup, tg_cons, tg_nil, gs_0, gs_s, ss_0, ss_s, op_ii, op_ss, op_tt, op_mm, op_sb, op_ng, op_iNf, op_iNt, op_lle, op_ixT, op_ixR, op_ixL, op_putE, op_appE, it_tupE, it_rolE, it_refE, lstOf_l, exL, asS_some, asI_int, asB_bl, asL_some, asN_some, ite3_t, ite3_f, bl_1, bl_lenT, bl_lenR, bl_lenL, bl_lenS, bl_tuple, bl_list, bl_abs, bl_intI, bl_intB, bl_max, bl_min, op_eqSf, op_eqSt, op_eqIf, op_eqIt, op_eqTf, op_eqTt, op_eqRf, op_eqRt, op_eqNf, op_eqNt, eqD_int, eqD_nil, pl_int, pl_nil, pl_non, pl_rnil, pl_bl, sl_tupE, sl_rolE, keep_ref, keep_tup, keep_rol, tp_int, tp_tup, tp_rol, tp_str, tp_bl, tp_non, tp_ref, oFd, oMd, oPw, oShl, oLt, oLe, oGt, oGe, op_in, op_cp, wipe_nil, wipe_cons, mset_same, true_and, and_true, isN_int, ex_lstF, ex_repF, ex_lgF1, ex_lgF2, ex_tupRg1, ex_tupRg2, ex_frz, ex_slF, ex_slM, sl_tupF, sl_rolF, op_iiF, op_ssF, op_ttF, op_rrF, op_rrM, op_mmF, op_repF, li_rol, li_ref, bl_listF, bl_allF, bl_anyF, asT_some, asJ_some, op_eqBf, op_eqBt, isN_non, Bool.not_true, Bool.not_false, rep2])
    refine k3 _ (1000 * i + 201) n _ _ _ f3 (by omega) n0 n1 fun T2 M4 tT2 f4 _ => ?_
    (try simp only [ex_c, ex_var, ex_op, ex_un, ex_b, ex_and, ex_or, ex_not, ex_andV, ex_orV, ex_notV, ex_if, ex_chain, ex_nil, ex_cons, ex_tup, ex_lst, ex_call, ex_callP, ex_cb, ex_bm, ex_rep, ex_sl, ex_noPart, ex_part, ex_yes, it_items, it_rng1, it_rng2, tg_name, tg_sub, tg_tup, tg_cons, tg_nil, gs_0, gs_s, ss_0, ss_s, op_ii, op_ss, op_tt, op_mm, op_sb, op_ng, op_iNf, op_iNt, op_lle, op_ixT, op_ixR, op_ixL, op_putE, op_appE, it_tupE, it_rolE, it_refE, lstOf_l, exL, asS_some, asI_int, asB_bl, asL_some, asN_some, ite3_t, ite3_f, bl_1, bl_lenT, bl_lenR, bl_lenL, bl_lenS, bl_tuple, bl_list, bl_abs, bl_intI, bl_intB, bl_max, bl_min, op_eqSf, op_eqSt, op_eqIf, op_eqIt, op_eqTf, op_eqTt, op_eqRf, op_eqRt, op_eqNf, op_eqNt, eqD_int, eqD_nil, pl_int, pl_nil, pl_non, pl_rnil, pl_bl, sl_tupE, sl_rolE, keep_ref, keep_tup, keep_rol, tp_int, tp_tup, tp_rol, tp_str, tp_bl, tp_non, tp_ref, oFd, oMd, oPw, oShl, oLt, oLe, oGt, oGe, op_in, op_cp, wipe_nil, wipe_cons, mset_same, true_and, and_true, isN_int, ex_lstF, ex_repF, ex_lgF1, ex_lgF2, ex_tupRg1, ex_tupRg2, ex_frz, ex_slF, ex_slM, sl_tupF, sl_rolF, op_iiF, op_ssF, op_ttF, op_rrF, op_rrM, op_mmF, op_repF, li_rol, li_ref, bl_listF, bl_allF, bl_anyF, asT_some, asJ_some, op_eqBf, op_eqBt, isN_non, Bool.not_true, Bool.not_false, rep2])
    refine ⟨Nat.zero_le _, by show 3 ≤ sizeLine; omega, k2 _ (1000 * i + 401) _ _ _ _ f4 (by omega) (by decide) (by decide) fun u M5 u0 u1 f5 _ => ?_⟩
    (try simp only [ex_c, ex_var, ex_op, ex_un, ex_b, ex_and, ex_or, ex_not, ex_andV, ex_orV, ex_notV, ex_if, ex_chain, ex_nil, ex_cons, ex_tup, ex_lst, ex_call, ex_callP, ex_cb, ex_bm, ex_rep, ex_sl, ex_noPart, ex_part, ex_yes, it_items, it_rng1, it_rng2, tg_name, tg_sub, tg_tup, tg_cons, tg_nil, gs_0, gs_s, ss_0, ss_s, op_ii, op_ss, op_tt, op_mm, op_sb, op_ng, op_iNf, op_iNt, op_lle, op_ixT, op_ixR, op_ixL, op_putE, op_appE, it_tupE, it_rolE, it_refE, lstOf_l, exL, asS_some, asI_int, asB_bl, asL_some, asN_some, ite3_t, ite3_f, bl_1, bl_lenT, bl_lenR, bl_lenL, bl_lenS, bl_tuple, bl_list, bl_abs, bl_intI, bl_intB, bl_max, bl_min, op_eqSf, op_eqSt, op_eqIf, op_eqIt, op_eqTf, op_eqTt, op_eqRf, op_eqRt, op_eqNf, op_eqNt, eqD_int, eqD_nil, pl_int, pl_nil, pl_non, pl_rnil, pl_bl, sl_tupE, sl_rolE, keep_ref, keep_tup, keep_rol, tp_int, tp_tup, tp_rol, tp_str, tp_bl, tp_non, tp_ref, oFd, oMd, oPw, oShl, oLt, oLe, oGt, oGe, op_in, op_cp, wipe_nil, wipe_cons, mset_same, true_and, and_true, isN_int, ex_lstF, ex_repF, ex_lgF1, ex_lgF2, ex_tupRg1, ex_tupRg2, ex_frz, ex_slF, ex_slM, sl_tupF, sl_rolF, op_iiF, op_ssF, op_ttF, op_rrF, op_rrM, op_mmF, op_repF, li_rol, li_ref, bl_listF, bl_allF, bl_anyF, asT_some, asJ_some, op_eqBf, op_eqBt, isN_non, Bool.not_true, Bool.not_false, rep2])
    obtain ⟨z, hz, hz0, hz1⟩ : ∃ z : Int, (if u - 5 > 0 then u - 5 else 0) = z ∧ 0 ≤ z ∧ z ≤ 2 := ⟨_, rfl, by split <;> omega, by split <;> omega⟩
    rw [hz]
    obtain ⟨T, hT, tT⟩ : ∃ T : Tab, atI [tabD T1, tabD T2, .tup []] z = some (tabD T) ∧ (T = [] ∨ (TabB 13 n T ∧ 0 < n)) := by
      have hu : z = 0 ∨ z = 1 ∨ z = 2 := by omega
      rcases hu with rfl | rfl | rfl
      · exact ⟨T1, rfl, .inr ⟨tT1, n0⟩⟩
      · exact ⟨T2, rfl, .inr ⟨tT2, n0⟩⟩
      · exact ⟨[], rfl, .inl rfl⟩
    (try simp only [ex_c, ex_var, ex_op, ex_un, ex_b, ex_and, ex_or, ex_not, ex_andV, ex_orV, ex_notV, ex_if, ex_chain, ex_nil, ex_cons, ex_tup, ex_lst, ex_call, ex_callP, ex_cb, ex_bm, ex_rep, ex_sl, ex_noPart, ex_part, ex_yes, it_items, it_rng1, it_rng2, tg_name, tg_sub, tg_tup, tg_cons, tg_nil, gs_0, gs_s, ss_0, ss_s, op_ii, op_ss, op_tt, op_mm, op_sb, op_ng, op_iNf, op_iNt, op_lle, op_ixT, op_ixR, op_ixL, op_putE, op_appE, it_tupE, it_rolE, it_refE, lstOf_l, exL, asS_some, asI_int, asB_bl, asL_some, asN_some, ite3_t, ite3_f, bl_1, bl_lenT, bl_lenR, bl_lenL, bl_lenS, bl_tuple, bl_list, bl_abs, bl_intI, bl_intB, bl_max, bl_min, op_eqSf, op_eqSt, op_eqIf, op_eqIt, op_eqTf, op_eqTt, op_eqRf, op_eqRt, op_eqNf, op_eqNt, eqD_int, eqD_nil, pl_int, pl_nil, pl_non, pl_rnil, pl_bl, sl_tupE, sl_rolE, keep_ref, keep_tup, keep_rol, tp_int, tp_tup, tp_rol, tp_str, tp_bl, tp_non, tp_ref, oFd, oMd, oPw, oShl, oLt, oLe, oGt, oGe, op_in, op_cp, wipe_nil, wipe_cons, mset_same, true_and, and_true, isN_int, ex_lstF, ex_repF, ex_lgF1, ex_lgF2, ex_tupRg1, ex_tupRg2, ex_frz, ex_slF, ex_slM, sl_tupF, sl_rolF, op_iiF, op_ssF, op_ttF, op_rrF, op_rrM, op_mmF, op_repF, li_rol, li_ref, bl_listF, bl_allF, bl_anyF, asT_some, asJ_some, op_eqBf, op_eqBt, isN_non, Bool.not_true, Bool.not_false, rep2, hT])
    have tmT : Tm 2 56 (tabD T) := by
      rcases tT with rfl | ⟨t, _⟩
      · exact (Tm.tup (h := 0) (n := 0) (m := 0) (ds := []) (fun d hd => (nomatch hd)) (Nat.le_refl _)).mono (by decide) (by decide)
      · exact (Tm.tab t (by decide)).mono (Nat.le_refl _) (Nat.mul_le_mul n1 (Nat.add_le_add_right n1 1))
    -- what is looked at, whatever the values are
    have fin : ∀ (ds : List D) (M6 : Mp) (y6 y7 y8 y9 : Option D), (∀ d ∈ ds, Vd 9 d) → ds.length ≤ 8 → Fd (1000 * i + 500) M6 a →
        wFor (wItems (wOp oAddF (wVar 5) (wLcF (wItems (wVar 5)) (wgName 8) wYes (wCall s6 X0 (wCons (wVar 1) (wCons (wVar 8) (wCons (wVar 3) wNil)))) [8]))) (wgName 7) (wSeq (wSet 9 (wCB bRepr (wCons (wTup (wCons (wVar 4) (wCons (wVar 7) wNil))) wNil)))
          (wIfS (wOr (wB (wOp (oEq true) (wCB bRepr (wCons (wCallP s7 (fun _ _ _ => False) (wCons (wVar 4) (wCons (wVar 7) wNil))) wNil)) (wCB bRepr (wCons (wCallP s8 (fun _ _ _ => False) (wCons (wVar 4) (wCons (wVar 7) wNil))) wNil)))) (wB (wOp (oEq true) (wCB bRepr (wCons (wTup (wCons (wVar 4) (wCons (wVar 7) wNil))) wNil)) (wVar 9)))) (wRet (wC (.bl false))) wNext))
          { nx := X, bk := fun τ' M' => wRet (wC (.bl true)) { nx := fun x M' => (fun v _ => v = D.bl true) D.non M', rt := fun v _ => v = D.bl true } τ' M', ct := X, rt := fun v _ => v = D.bl true }
          [some (.rol (ns.map D.int)), some (.ref a), some (.int (0 + (i : Nat))), some (.int (n : Nat)), some (tabD T), some (.rol ds), y6, y7, y8, y9] M6 := fun ds M6 y6 y7 y8 y9 hds hdl f6 => by
      rw [st_for]
      simp only [ex_c, ex_var, ex_op, ex_un, ex_b, ex_and, ex_or, ex_not, ex_andV, ex_orV, ex_notV, ex_if, ex_chain, ex_nil, ex_cons, ex_tup, ex_lst, ex_call, ex_callP, ex_cb, ex_bm, ex_rep, ex_sl, ex_noPart, ex_part, ex_yes, it_items, it_rng1, it_rng2, tg_name, tg_sub, tg_tup, tg_cons, tg_nil, gs_0, gs_s, ss_0, ss_s, op_ii, op_ss, op_tt, op_mm, op_sb, op_ng, op_iNf, op_iNt, op_lle, op_ixT, op_ixR, op_ixL, op_putE, op_appE, it_tupE, it_rolE, it_refE, lstOf_l, exL, asS_some, asI_int, asB_bl, asL_some, asN_some, ite3_t, ite3_f, bl_1, bl_lenT, bl_lenR, bl_lenL, bl_lenS, bl_tuple, bl_list, bl_abs, bl_intI, bl_intB, bl_max, bl_min, op_eqSf, op_eqSt, op_eqIf, op_eqIt, op_eqTf, op_eqTt, op_eqRf, op_eqRt, op_eqNf, op_eqNt, eqD_int, eqD_nil, pl_int, pl_nil, pl_non, pl_rnil, pl_bl, sl_tupE, sl_rolE, keep_ref, keep_tup, keep_rol, tp_int, tp_tup, tp_rol, tp_str, tp_bl, tp_non, tp_ref, oFd, oMd, oPw, oShl, oLt, oLe, oGt, oGe, op_in, op_cp, wipe_nil, wipe_cons, mset_same, true_and, and_true, isN_int, ex_lstF, ex_repF, ex_lgF1, ex_lgF2, ex_tupRg1, ex_tupRg2, ex_frz, ex_slF, ex_slM, sl_tupF, sl_rolF, op_iiF, op_ssF, op_ttF, op_rrF, op_rrM, op_mmF, op_repF, li_rol, li_ref, bl_listF, bl_allF, bl_anyF, asT_some, asJ_some, op_eqBf, op_eqBt, isN_non, Bool.not_true, Bool.not_false, rep2, ex_lcF]
      refine lc_pv (fun j acc M => (∀ d ∈ acc, Vd 20 d) ∧ acc.length = j ∧ j ≤ ds.length ∧ Fd (1000 * i + 500 + 3 * j) M a) ?_ ?_ ⟨(fun d hd => nomatch hd), rfl, Nat.zero_le _, f6⟩
      · rintro j d acc M hd ⟨hacc, hal, hj, f⟩ Z hZ
        have hlt := (List.getElem?_eq_some_iff.mp hd).1
        refine ⟨True.intro, ?_⟩
        rw [tg_name]
        simp only [ex_c, ex_var, ex_op, ex_un, ex_b, ex_and, ex_or, ex_not, ex_andV, ex_orV, ex_notV, ex_if, ex_chain, ex_nil, ex_cons, ex_tup, ex_lst, ex_call, ex_callP, ex_cb, ex_bm, ex_rep, ex_sl, ex_noPart, ex_part, ex_yes, it_items, it_rng1, it_rng2, tg_name, tg_sub, tg_tup, tg_cons, tg_nil, gs_0, gs_s, ss_0, ss_s, op_ii, op_ss, op_tt, op_mm, op_sb, op_ng, op_iNf, op_iNt, op_lle, op_ixT, op_ixR, op_ixL, op_putE, op_appE, it_tupE, it_rolE, it_refE, lstOf_l, exL, asS_some, asI_int, asB_bl, asL_some, asN_some, ite3_t, ite3_f, bl_1, bl_lenT, bl_lenR, bl_lenL, bl_lenS, bl_tuple, bl_list, bl_abs, bl_intI, bl_intB, bl_max, bl_min, op_eqSf, op_eqSt, op_eqIf, op_eqIt, op_eqTf, op_eqTt, op_eqRf, op_eqRt, op_eqNf, op_eqNt, eqD_int, eqD_nil, pl_int, pl_nil, pl_non, pl_rnil, pl_bl, sl_tupE, sl_rolE, keep_ref, keep_tup, keep_rol, tp_int, tp_tup, tp_rol, tp_str, tp_bl, tp_non, tp_ref, oFd, oMd, oPw, oShl, oLt, oLe, oGt, oGe, op_in, op_cp, wipe_nil, wipe_cons, mset_same, true_and, and_true, isN_int, ex_lstF, ex_repF, ex_lgF1, ex_lgF2, ex_tupRg1, ex_tupRg2, ex_frz, ex_slF, ex_slM, sl_tupF, sl_rolF, op_iiF, op_ssF, op_ttF, op_rrF, op_rrM, op_mmF, op_repF, li_rol, li_ref, bl_listF, bl_allF, bl_anyF, asT_some, asJ_some, op_eqBf, op_eqBt, isN_non, Bool.not_true, Bool.not_false, rep2]
        refine k6 _ (1000 * i + 500 + 3 * j) n d _ _ _ f (by omega) n0 n1 (hds d (List.mem_of_getElem? hd)) fun d' M7 hd' f7 _ => ⟨by omega, hZ _ _ ⟨fun y hy => ?_, by rw [List.length_append, hal]; rfl, hlt, f7.mono (by omega)⟩⟩
        rcases List.mem_append.mp hy with h | h
        · exact hacc y h
        · rw [List.mem_singleton] at h; rw [h]; exact hd'
      rintro acc M7 ⟨hacc, hal, _, f7⟩
      refine ⟨True.intro, ?_⟩
      (try simp only [ex_c, ex_var, ex_op, ex_un, ex_b, ex_and, ex_or, ex_not, ex_andV, ex_orV, ex_notV, ex_if, ex_chain, ex_nil, ex_cons, ex_tup, ex_lst, ex_call, ex_callP, ex_cb, ex_bm, ex_rep, ex_sl, ex_noPart, ex_part, ex_yes, it_items, it_rng1, it_rng2, tg_name, tg_sub, tg_tup, tg_cons, tg_nil, gs_0, gs_s, ss_0, ss_s, op_ii, op_ss, op_tt, op_mm, op_sb, op_ng, op_iNf, op_iNt, op_lle, op_ixT, op_ixR, op_ixL, op_putE, op_appE, it_tupE, it_rolE, it_refE, lstOf_l, exL, asS_some, asI_int, asB_bl, asL_some, asN_some, ite3_t, ite3_f, bl_1, bl_lenT, bl_lenR, bl_lenL, bl_lenS, bl_tuple, bl_list, bl_abs, bl_intI, bl_intB, bl_max, bl_min, op_eqSf, op_eqSt, op_eqIf, op_eqIt, op_eqTf, op_eqTt, op_eqRf, op_eqRt, op_eqNf, op_eqNt, eqD_int, eqD_nil, pl_int, pl_nil, pl_non, pl_rnil, pl_bl, sl_tupE, sl_rolE, keep_ref, keep_tup, keep_rol, tp_int, tp_tup, tp_rol, tp_str, tp_bl, tp_non, tp_ref, oFd, oMd, oPw, oShl, oLt, oLe, oGt, oGe, op_in, op_cp, wipe_nil, wipe_cons, mset_same, true_and, and_true, isN_int, ex_lstF, ex_repF, ex_lgF1, ex_lgF2, ex_tupRg1, ex_tupRg2, ex_frz, ex_slF, ex_slM, sl_tupF, sl_rolF, op_iiF, op_ssF, op_ttF, op_rrF, op_rrM, op_mmF, op_repF, li_rol, li_ref, bl_listF, bl_allF, bl_anyF, asT_some, asJ_some, op_eqBf, op_eqBt, isN_non, Bool.not_true, Bool.not_false, rep2])
      refine ⟨by omega, ?_⟩
      have all : ∀ d ∈ ds ++ acc, Vd 20 d := fun d hd => by
        rcases List.mem_append.mp hd with h | h
        · exact ⟨(hds d h).1, fun es e => ⟨Nat.le_trans ((hds d h).2 es e).1 (by decide), ((hds d h).2 es e).2⟩⟩
        · exact hacc d h
      generalize ds ++ acc = vs at all
      rw [← List.map_id vs]
      refine for_of id (fun j τ M => Fd (1000 * i + 600) M a ∧ ∃ y6 y7 y8 y9, τ = [some (.rol (ns.map D.int)), some (.ref a), some (.int (0 + (i : Nat))), some (.int (n : Nat)), some (tabD T), some (.rol ds), y6, y7, y8, y9]) (fun _ _ _ _ => True.intro) ?_ ?_ ⟨f7.mono (by omega), _, _, _, _, rfl⟩
      · rintro j d τ M hj ⟨f, z6, z7, z8, z9, rfl⟩ Z hZ
        have hd := all d (List.mem_of_getElem? hj)
        have hp := hd.pls (by decide)
        have st : Sh (.tup [tabD T, d]) := (Tm.tup (h := 3) (n := 400) (m := 2) (fun x hx => by
          simp only [List.mem_cons, List.not_mem_nil, or_false] at hx
          rcases hx with rfl | rfl
          · exact tmT.mono (by decide) (by decide)
          · exact hd.1) (Nat.le_refl _)).fits (by decide) (by decide)
        rw [tg_name, st_seq, st_set]
        simp only [ex_c, ex_var, ex_op, ex_un, ex_b, ex_and, ex_or, ex_not, ex_andV, ex_orV, ex_notV, ex_if, ex_chain, ex_nil, ex_cons, ex_tup, ex_lst, ex_call, ex_callP, ex_cb, ex_bm, ex_rep, ex_sl, ex_noPart, ex_part, ex_yes, it_items, it_rng1, it_rng2, tg_name, tg_sub, tg_tup, tg_cons, tg_nil, gs_0, gs_s, ss_0, ss_s, op_ii, op_ss, op_tt, op_mm, op_sb, op_ng, op_iNf, op_iNt, op_lle, op_ixT, op_ixR, op_ixL, op_putE, op_appE, it_tupE, it_rolE, it_refE, lstOf_l, exL, asS_some, asI_int, asB_bl, asL_some, asN_some, ite3_t, ite3_f, bl_1, bl_lenT, bl_lenR, bl_lenL, bl_lenS, bl_tuple, bl_list, bl_abs, bl_intI, bl_intB, bl_max, bl_min, op_eqSf, op_eqSt, op_eqIf, op_eqIt, op_eqTf, op_eqTt, op_eqRf, op_eqRt, op_eqNf, op_eqNt, eqD_int, eqD_nil, pl_int, pl_nil, pl_non, pl_rnil, pl_bl, sl_tupE, sl_rolE, keep_ref, keep_tup, keep_rol, tp_int, tp_tup, tp_rol, tp_str, tp_bl, tp_non, tp_ref, oFd, oMd, oPw, oShl, oLt, oLe, oGt, oGe, op_in, op_cp, wipe_nil, wipe_cons, mset_same, true_and, and_true, isN_int, ex_lstF, ex_repF, ex_lgF1, ex_lgF2, ex_tupRg1, ex_tupRg2, ex_frz, ex_slF, ex_slM, sl_tupF, sl_rolF, op_iiF, op_ssF, op_ttF, op_rrF, op_rrM, op_mmF, op_repF, li_rol, li_ref, bl_listF, bl_allF, bl_anyF, asT_some, asJ_some, op_eqBf, op_eqBt, isN_non, Bool.not_true, Bool.not_false, rep2, id_eq]
        refine ⟨by show 2 ≤ sizeLine; omega, ?_⟩
        rw [bl_reprE (tp_tup (i := [tabD T, d])) st]
        try dsimp only
        rw [st_if]
        simp only [ex_c, ex_var, ex_op, ex_un, ex_b, ex_and, ex_or, ex_not, ex_andV, ex_orV, ex_notV, ex_if, ex_chain, ex_nil, ex_cons, ex_tup, ex_lst, ex_call, ex_callP, ex_cb, ex_bm, ex_rep, ex_sl, ex_noPart, ex_part, ex_yes, it_items, it_rng1, it_rng2, tg_name, tg_sub, tg_tup, tg_cons, tg_nil, gs_0, gs_s, ss_0, ss_s, op_ii, op_ss, op_tt, op_mm, op_sb, op_ng, op_iNf, op_iNt, op_lle, op_ixT, op_ixR, op_ixL, op_putE, op_appE, it_tupE, it_rolE, it_refE, lstOf_l, exL, asS_some, asI_int, asB_bl, asL_some, asN_some, ite3_t, ite3_f, bl_1, bl_lenT, bl_lenR, bl_lenL, bl_lenS, bl_tuple, bl_list, bl_abs, bl_intI, bl_intB, bl_max, bl_min, op_eqSf, op_eqSt, op_eqIf, op_eqIt, op_eqTf, op_eqTt, op_eqRf, op_eqRt, op_eqNf, op_eqNt, eqD_int, eqD_nil, pl_int, pl_nil, pl_non, pl_rnil, pl_bl, sl_tupE, sl_rolE, keep_ref, keep_tup, keep_rol, tp_int, tp_tup, tp_rol, tp_str, tp_bl, tp_non, tp_ref, oFd, oMd, oPw, oShl, oLt, oLe, oGt, oGe, op_in, op_cp, wipe_nil, wipe_cons, mset_same, true_and, and_true, isN_int, ex_lstF, ex_repF, ex_lgF1, ex_lgF2, ex_tupRg1, ex_tupRg2, ex_frz, ex_slF, ex_slM, sl_tupF, sl_rolF, op_iiF, op_ssF, op_ttF, op_rrF, op_rrM, op_mmF, op_repF, li_rol, li_ref, bl_listF, bl_allF, bl_anyF, asT_some, asJ_some, op_eqBf, op_eqBt, isN_non, Bool.not_true, Bool.not_false, rep2]
        refine k7 n 13 T d _ _ (by omega) tT hp fun v hv _ => ?_
        have sv := told_sh hp hv
        (try simp only [ex_c, ex_var, ex_op, ex_un, ex_b, ex_and, ex_or, ex_not, ex_andV, ex_orV, ex_notV, ex_if, ex_chain, ex_nil, ex_cons, ex_tup, ex_lst, ex_call, ex_callP, ex_cb, ex_bm, ex_rep, ex_sl, ex_noPart, ex_part, ex_yes, it_items, it_rng1, it_rng2, tg_name, tg_sub, tg_tup, tg_cons, tg_nil, gs_0, gs_s, ss_0, ss_s, op_ii, op_ss, op_tt, op_mm, op_sb, op_ng, op_iNf, op_iNt, op_lle, op_ixT, op_ixR, op_ixL, op_putE, op_appE, it_tupE, it_rolE, it_refE, lstOf_l, exL, asS_some, asI_int, asB_bl, asL_some, asN_some, ite3_t, ite3_f, bl_1, bl_lenT, bl_lenR, bl_lenL, bl_lenS, bl_tuple, bl_list, bl_abs, bl_intI, bl_intB, bl_max, bl_min, op_eqSf, op_eqSt, op_eqIf, op_eqIt, op_eqTf, op_eqTt, op_eqRf, op_eqRt, op_eqNf, op_eqNt, eqD_int, eqD_nil, pl_int, pl_nil, pl_non, pl_rnil, pl_bl, sl_tupE, sl_rolE, keep_ref, keep_tup, keep_rol, tp_int, tp_tup, tp_rol, tp_str, tp_bl, tp_non, tp_ref, oFd, oMd, oPw, oShl, oLt, oLe, oGt, oGe, op_in, op_cp, wipe_nil, wipe_cons, mset_same, true_and, and_true, isN_int, ex_lstF, ex_repF, ex_lgF1, ex_lgF2, ex_tupRg1, ex_tupRg2, ex_frz, ex_slF, ex_slM, sl_tupF, sl_rolF, op_iiF, op_ssF, op_ttF, op_rrF, op_rrM, op_mmF, op_repF, li_rol, li_ref, bl_listF, bl_allF, bl_anyF, asT_some, asJ_some, op_eqBf, op_eqBt, isN_non, Bool.not_true, Bool.not_false, rep2, bl_reprE told_top sv])
        refine k8 n 13 T d _ _ (by omega) tT hp fun v' hv' _ => ?_
        rw [hv'.uniq hv]
        (try simp only [ex_c, ex_var, ex_op, ex_un, ex_b, ex_and, ex_or, ex_not, ex_andV, ex_orV, ex_notV, ex_if, ex_chain, ex_nil, ex_cons, ex_tup, ex_lst, ex_call, ex_callP, ex_cb, ex_bm, ex_rep, ex_sl, ex_noPart, ex_part, ex_yes, it_items, it_rng1, it_rng2, tg_name, tg_sub, tg_tup, tg_cons, tg_nil, gs_0, gs_s, ss_0, ss_s, op_ii, op_ss, op_tt, op_mm, op_sb, op_ng, op_iNf, op_iNt, op_lle, op_ixT, op_ixR, op_ixL, op_putE, op_appE, it_tupE, it_rolE, it_refE, lstOf_l, exL, asS_some, asI_int, asB_bl, asL_some, asN_some, ite3_t, ite3_f, bl_1, bl_lenT, bl_lenR, bl_lenL, bl_lenS, bl_tuple, bl_list, bl_abs, bl_intI, bl_intB, bl_max, bl_min, op_eqSf, op_eqSt, op_eqIf, op_eqIt, op_eqTf, op_eqTt, op_eqRf, op_eqRt, op_eqNf, op_eqNt, eqD_int, eqD_nil, pl_int, pl_nil, pl_non, pl_rnil, pl_bl, sl_tupE, sl_rolE, keep_ref, keep_tup, keep_rol, tp_int, tp_tup, tp_rol, tp_str, tp_bl, tp_non, tp_ref, oFd, oMd, oPw, oShl, oLt, oLe, oGt, oGe, op_in, op_cp, wipe_nil, wipe_cons, mset_same, true_and, and_true, isN_int, ex_lstF, ex_repF, ex_lgF1, ex_lgF2, ex_tupRg1, ex_tupRg2, ex_frz, ex_slF, ex_slM, sl_tupF, sl_rolF, op_iiF, op_ssF, op_ttF, op_rrF, op_rrM, op_mmF, op_repF, li_rol, li_ref, bl_listF, bl_allF, bl_anyF, asT_some, asJ_some, op_eqBf, op_eqBt, isN_non, Bool.not_true, Bool.not_false, rep2, bl_reprE told_top sv, decide_true, Bool.not_true])
        refine ⟨by show 2 ≤ sizeLine; omega, ?_⟩
        rw [bl_reprE (tp_tup (i := [tabD T, d])) st]
        (try simp only [ex_c, ex_var, ex_op, ex_un, ex_b, ex_and, ex_or, ex_not, ex_andV, ex_orV, ex_notV, ex_if, ex_chain, ex_nil, ex_cons, ex_tup, ex_lst, ex_call, ex_callP, ex_cb, ex_bm, ex_rep, ex_sl, ex_noPart, ex_part, ex_yes, it_items, it_rng1, it_rng2, tg_name, tg_sub, tg_tup, tg_cons, tg_nil, gs_0, gs_s, ss_0, ss_s, op_ii, op_ss, op_tt, op_mm, op_sb, op_ng, op_iNf, op_iNt, op_lle, op_ixT, op_ixR, op_ixL, op_putE, op_appE, it_tupE, it_rolE, it_refE, lstOf_l, exL, asS_some, asI_int, asB_bl, asL_some, asN_some, ite3_t, ite3_f, bl_1, bl_lenT, bl_lenR, bl_lenL, bl_lenS, bl_tuple, bl_list, bl_abs, bl_intI, bl_intB, bl_max, bl_min, op_eqSf, op_eqSt, op_eqIf, op_eqIt, op_eqTf, op_eqTt, op_eqRf, op_eqRt, op_eqNf, op_eqNt, eqD_int, eqD_nil, pl_int, pl_nil, pl_non, pl_rnil, pl_bl, sl_tupE, sl_rolE, keep_ref, keep_tup, keep_rol, tp_int, tp_tup, tp_rol, tp_str, tp_bl, tp_non, tp_ref, oFd, oMd, oPw, oShl, oLt, oLe, oGt, oGe, op_in, op_cp, wipe_nil, wipe_cons, mset_same, true_and, and_true, isN_int, ex_lstF, ex_repF, ex_lgF1, ex_lgF2, ex_tupRg1, ex_tupRg2, ex_frz, ex_slF, ex_slM, sl_tupF, sl_rolF, op_iiF, op_ssF, op_ttF, op_rrF, op_rrM, op_mmF, op_repF, li_rol, li_ref, bl_listF, bl_allF, bl_anyF, asT_some, asJ_some, op_eqBf, op_eqBt, isN_non, Bool.not_true, Bool.not_false, rep2, decide_true, Bool.not_true])
        rw [st_next]
        exact hZ _ _ ⟨f, _, _, _, _, rfl⟩
      · rintro τ M ⟨f, z6, z7, z8, z9, rfl⟩
        exact hX _ _ ⟨hi, f.mono (by omega), _, _, _, _, _, _, _, _, rfl⟩
    have v0 : Vd 9 (.tup []) := vdT (Nat.zero_le _) (by decide) (fun x hx => nomatch hx)
    have vn : Vd 9 .non := vd0 Tm.non (by decide) (by decide) (fun _ e => nomatch e)
    have v1 : Vd 9 (.tup [.tup []]) := vdT (by show 1 ≤ 9; decide) (by decide) fun x hx => by
      rw [List.mem_singleton] at hx
      rw [hx]
      exact (Tm.tup (h := 0) (n := 0) (m := 0) (ds := []) (fun d hd => (nomatch hd)) (Nat.le_refl _)).mono (by decide) (by decide)
    have four : ∀ {r : D}, Vd 9 r → ∀ d ∈ [r, .tup [], .non, .tup [.tup []]], Vd 9 d := fun {r} hr d hd => by
      simp only [List.mem_cons, List.not_mem_nil, or_false] at hd
      rcases hd with rfl | rfl | rfl | rfl
      · exact hr
      · exact v0
      · exact vn
      · exact v1
    rcases tT with rfl | ⟨t, _⟩
    · have e0 : tabD [] = .tup [] := rfl
      rw [e0] at fin ⊢
      try dsimp only
      rw [st_seq, st_set]
      simp only [ex_c, ex_var, ex_op, ex_un, ex_b, ex_and, ex_or, ex_not, ex_andV, ex_orV, ex_notV, ex_if, ex_chain, ex_nil, ex_cons, ex_tup, ex_lst, ex_call, ex_callP, ex_cb, ex_bm, ex_rep, ex_sl, ex_noPart, ex_part, ex_yes, it_items, it_rng1, it_rng2, tg_name, tg_sub, tg_tup, tg_cons, tg_nil, gs_0, gs_s, ss_0, ss_s, op_ii, op_ss, op_tt, op_mm, op_sb, op_ng, op_iNf, op_iNt, op_lle, op_ixT, op_ixR, op_ixL, op_putE, op_appE, it_tupE, it_rolE, it_refE, lstOf_l, exL, asS_some, asI_int, asB_bl, asL_some, asN_some, ite3_t, ite3_f, bl_1, bl_lenT, bl_lenR, bl_lenL, bl_lenS, bl_tuple, bl_list, bl_abs, bl_intI, bl_intB, bl_max, bl_min, op_eqSf, op_eqSt, op_eqIf, op_eqIt, op_eqTf, op_eqTt, op_eqRf, op_eqRt, op_eqNf, op_eqNt, eqD_int, eqD_nil, pl_int, pl_nil, pl_non, pl_rnil, pl_bl, sl_tupE, sl_rolE, keep_ref, keep_tup, keep_rol, tp_int, tp_tup, tp_rol, tp_str, tp_bl, tp_non, tp_ref, oFd, oMd, oPw, oShl, oLt, oLe, oGt, oGe, op_in, op_cp, wipe_nil, wipe_cons, mset_same, true_and, and_true, isN_int, ex_lstF, ex_repF, ex_lgF1, ex_lgF2, ex_tupRg1, ex_tupRg2, ex_frz, ex_slF, ex_slM, sl_tupF, sl_rolF, op_iiF, op_ssF, op_ttF, op_rrF, op_rrM, op_mmF, op_repF, li_rol, li_ref, bl_listF, bl_allF, bl_anyF, asT_some, asJ_some, op_eqBf, op_eqBt, isN_non, Bool.not_true, Bool.not_false, rep2]
      refine k40 _ _ fun _ => ?_
      (try simp only [ex_c, ex_var, ex_op, ex_un, ex_b, ex_and, ex_or, ex_not, ex_andV, ex_orV, ex_notV, ex_if, ex_chain, ex_nil, ex_cons, ex_tup, ex_lst, ex_call, ex_callP, ex_cb, ex_bm, ex_rep, ex_sl, ex_noPart, ex_part, ex_yes, it_items, it_rng1, it_rng2, tg_name, tg_sub, tg_tup, tg_cons, tg_nil, gs_0, gs_s, ss_0, ss_s, op_ii, op_ss, op_tt, op_mm, op_sb, op_ng, op_iNf, op_iNt, op_lle, op_ixT, op_ixR, op_ixL, op_putE, op_appE, it_tupE, it_rolE, it_refE, lstOf_l, exL, asS_some, asI_int, asB_bl, asL_some, asN_some, ite3_t, ite3_f, bl_1, bl_lenT, bl_lenR, bl_lenL, bl_lenS, bl_tuple, bl_list, bl_abs, bl_intI, bl_intB, bl_max, bl_min, op_eqSf, op_eqSt, op_eqIf, op_eqIt, op_eqTf, op_eqTt, op_eqRf, op_eqRt, op_eqNf, op_eqNt, eqD_int, eqD_nil, pl_int, pl_nil, pl_non, pl_rnil, pl_bl, sl_tupE, sl_rolE, keep_ref, keep_tup, keep_rol, tp_int, tp_tup, tp_rol, tp_str, tp_bl, tp_non, tp_ref, oFd, oMd, oPw, oShl, oLt, oLe, oGt, oGe, op_in, op_cp, wipe_nil, wipe_cons, mset_same, true_and, and_true, isN_int, ex_lstF, ex_repF, ex_lgF1, ex_lgF2, ex_tupRg1, ex_tupRg2, ex_frz, ex_slF, ex_slM, sl_tupF, sl_rolF, op_iiF, op_ssF, op_ttF, op_rrF, op_rrM, op_mmF, op_repF, li_rol, li_ref, bl_listF, bl_allF, bl_anyF, asT_some, asJ_some, op_eqBf, op_eqBt, isN_non, Bool.not_true, Bool.not_false, rep2])
      refine ⟨Nat.zero_le _, Nat.zero_le _, by show 1 ≤ sizeLine; omega, by show 4 ≤ sizeLine; omega, ?_⟩
      try dsimp only
      rw [st_seq, st_if]
      simp only [ex_c, ex_var, ex_op, ex_un, ex_b, ex_and, ex_or, ex_not, ex_andV, ex_orV, ex_notV, ex_if, ex_chain, ex_nil, ex_cons, ex_tup, ex_lst, ex_call, ex_callP, ex_cb, ex_bm, ex_rep, ex_sl, ex_noPart, ex_part, ex_yes, it_items, it_rng1, it_rng2, tg_name, tg_sub, tg_tup, tg_cons, tg_nil, gs_0, gs_s, ss_0, ss_s, op_ii, op_ss, op_tt, op_mm, op_sb, op_ng, op_iNf, op_iNt, op_lle, op_ixT, op_ixR, op_ixL, op_putE, op_appE, it_tupE, it_rolE, it_refE, lstOf_l, exL, asS_some, asI_int, asB_bl, asL_some, asN_some, ite3_t, ite3_f, bl_1, bl_lenT, bl_lenR, bl_lenL, bl_lenS, bl_tuple, bl_list, bl_abs, bl_intI, bl_intB, bl_max, bl_min, op_eqSf, op_eqSt, op_eqIf, op_eqIt, op_eqTf, op_eqTt, op_eqRf, op_eqRt, op_eqNf, op_eqNt, eqD_int, eqD_nil, pl_int, pl_nil, pl_non, pl_rnil, pl_bl, sl_tupE, sl_rolE, keep_ref, keep_tup, keep_rol, tp_int, tp_tup, tp_rol, tp_str, tp_bl, tp_non, tp_ref, oFd, oMd, oPw, oShl, oLt, oLe, oGt, oGe, op_in, op_cp, wipe_nil, wipe_cons, mset_same, true_and, and_true, isN_int, ex_lstF, ex_repF, ex_lgF1, ex_lgF2, ex_tupRg1, ex_tupRg2, ex_frz, ex_slF, ex_slM, sl_tupF, sl_rolF, op_iiF, op_ssF, op_ttF, op_rrF, op_rrM, op_mmF, op_repF, li_rol, li_ref, bl_listF, bl_allF, bl_anyF, asT_some, asJ_some, op_eqBf, op_eqBt, isN_non, Bool.not_true, Bool.not_false, rep2, ne_nil]
      refine ⟨Nat.zero_le _, ?_⟩
      rw [st_next]
      exact fin _ _ _ _ _ _ (four v0) (by show 4 ≤ 8; decide) (f5.mono (by omega))
    · have go : ∀ (r : D) (y6 y7 y8 y9 : Option D), Vd 9 r → wSeq (wIfS (wB (wOp (oEq true) (wVar 4) (wTup wNil))) (wSet 5 (wOp oAddF (wVar 5) (wLcF (wRng1 (wCons (wC (.int 4)) wNil)) (wgName 6) wYes (wCall s5 X0 (wCons (wVar 1) (wCons (wVar 4) wNil))) [6]))) wNext)
          (wFor (wItems (wOp oAddF (wVar 5) (wLcF (wItems (wVar 5)) (wgName 8) wYes (wCall s6 X0 (wCons (wVar 1) (wCons (wVar 8) (wCons (wVar 3) wNil)))) [8]))) (wgName 7) (wSeq (wSet 9 (wCB bRepr (wCons (wTup (wCons (wVar 4) (wCons (wVar 7) wNil))) wNil)))
          (wIfS (wOr (wB (wOp (oEq true) (wCB bRepr (wCons (wCallP s7 (fun _ _ _ => False) (wCons (wVar 4) (wCons (wVar 7) wNil))) wNil)) (wCB bRepr (wCons (wCallP s8 (fun _ _ _ => False) (wCons (wVar 4) (wCons (wVar 7) wNil))) wNil)))) (wB (wOp (oEq true) (wCB bRepr (wCons (wTup (wCons (wVar 4) (wCons (wVar 7) wNil))) wNil)) (wVar 9)))) (wRet (wC (.bl false))) wNext)))
          { nx := X, bk := fun τ' M' => wRet (wC (.bl true)) { nx := fun x M' => (fun v _ => v = D.bl true) D.non M', rt := fun v _ => v = D.bl true } τ' M', ct := X, rt := fun v _ => v = D.bl true }
          [some (.rol (ns.map D.int)), some (.ref a), some (.int (0 + (i : Nat))), some (.int (n : Nat)), some (tabD T), some (.rol [r, .tup [], .non, .tup [.tup []]]), y6, y7, y8, y9] M5 := fun r y6 y7 y8 y9 hr => by
        rw [st_seq, st_if]
        simp only [ex_c, ex_var, ex_op, ex_un, ex_b, ex_and, ex_or, ex_not, ex_andV, ex_orV, ex_notV, ex_if, ex_chain, ex_nil, ex_cons, ex_tup, ex_lst, ex_call, ex_callP, ex_cb, ex_bm, ex_rep, ex_sl, ex_noPart, ex_part, ex_yes, it_items, it_rng1, it_rng2, tg_name, tg_sub, tg_tup, tg_cons, tg_nil, gs_0, gs_s, ss_0, ss_s, op_ii, op_ss, op_tt, op_mm, op_sb, op_ng, op_iNf, op_iNt, op_lle, op_ixT, op_ixR, op_ixL, op_putE, op_appE, it_tupE, it_rolE, it_refE, lstOf_l, exL, asS_some, asI_int, asB_bl, asL_some, asN_some, ite3_t, ite3_f, bl_1, bl_lenT, bl_lenR, bl_lenL, bl_lenS, bl_tuple, bl_list, bl_abs, bl_intI, bl_intB, bl_max, bl_min, op_eqSf, op_eqSt, op_eqIf, op_eqIt, op_eqTf, op_eqTt, op_eqRf, op_eqRt, op_eqNf, op_eqNt, eqD_int, eqD_nil, pl_int, pl_nil, pl_non, pl_rnil, pl_bl, sl_tupE, sl_rolE, keep_ref, keep_tup, keep_rol, tp_int, tp_tup, tp_rol, tp_str, tp_bl, tp_non, tp_ref, oFd, oMd, oPw, oShl, oLt, oLe, oGt, oGe, op_in, op_cp, wipe_nil, wipe_cons, mset_same, true_and, and_true, isN_int, ex_lstF, ex_repF, ex_lgF1, ex_lgF2, ex_tupRg1, ex_tupRg2, ex_frz, ex_slF, ex_slM, sl_tupF, sl_rolF, op_iiF, op_ssF, op_ttF, op_rrF, op_rrM, op_mmF, op_repF, li_rol, li_ref, bl_listF, bl_allF, bl_anyF, asT_some, asJ_some, op_eqBf, op_eqBt, isN_non, Bool.not_true, Bool.not_false, rep2, ne_tab t.sq n0]
        refine ⟨Nat.zero_le _, ?_⟩
        rw [st_set]
        simp only [ex_c, ex_var, ex_op, ex_un, ex_b, ex_and, ex_or, ex_not, ex_andV, ex_orV, ex_notV, ex_if, ex_chain, ex_nil, ex_cons, ex_tup, ex_lst, ex_call, ex_callP, ex_cb, ex_bm, ex_rep, ex_sl, ex_noPart, ex_part, ex_yes, it_items, it_rng1, it_rng2, tg_name, tg_sub, tg_tup, tg_cons, tg_nil, gs_0, gs_s, ss_0, ss_s, op_ii, op_ss, op_tt, op_mm, op_sb, op_ng, op_iNf, op_iNt, op_lle, op_ixT, op_ixR, op_ixL, op_putE, op_appE, it_tupE, it_rolE, it_refE, lstOf_l, exL, asS_some, asI_int, asB_bl, asL_some, asN_some, ite3_t, ite3_f, bl_1, bl_lenT, bl_lenR, bl_lenL, bl_lenS, bl_tuple, bl_list, bl_abs, bl_intI, bl_intB, bl_max, bl_min, op_eqSf, op_eqSt, op_eqIf, op_eqIt, op_eqTf, op_eqTt, op_eqRf, op_eqRt, op_eqNf, op_eqNt, eqD_int, eqD_nil, pl_int, pl_nil, pl_non, pl_rnil, pl_bl, sl_tupE, sl_rolE, keep_ref, keep_tup, keep_rol, tp_int, tp_tup, tp_rol, tp_str, tp_bl, tp_non, tp_ref, oFd, oMd, oPw, oShl, oLt, oLe, oGt, oGe, op_in, op_cp, wipe_nil, wipe_cons, mset_same, true_and, and_true, isN_int, ex_lstF, ex_repF, ex_lgF1, ex_lgF2, ex_tupRg1, ex_tupRg2, ex_frz, ex_slF, ex_slM, sl_tupF, sl_rolF, op_iiF, op_ssF, op_ttF, op_rrF, op_rrM, op_mmF, op_repF, li_rol, li_ref, bl_listF, bl_allF, bl_anyF, asT_some, asJ_some, op_eqBf, op_eqBt, isN_non, Bool.not_true, Bool.not_false, rep2, ex_lcF]
        refine ⟨by decide, by decide, ?_⟩
        refine lc_pv (fun j acc M => (∀ d ∈ acc, Vd 9 d) ∧ acc.length = j ∧ Fd (1000 * i + 402 + 20 * j) M a) ?_ ?_ ⟨(fun d hd => nomatch hd), rfl, f5.mono (by omega)⟩
        · rintro j d acc M hd ⟨hacc, hal, f⟩ Z hZ
          obtain ⟨hlt, rfl⟩ := rgD_get hd
          have hlt4 : j < 4 := hlt
          refine ⟨True.intro, ?_⟩
          simp only [ex_c, ex_var, ex_op, ex_un, ex_b, ex_and, ex_or, ex_not, ex_andV, ex_orV, ex_notV, ex_if, ex_chain, ex_nil, ex_cons, ex_tup, ex_lst, ex_call, ex_callP, ex_cb, ex_bm, ex_rep, ex_sl, ex_noPart, ex_part, ex_yes, it_items, it_rng1, it_rng2, tg_name, tg_sub, tg_tup, tg_cons, tg_nil, gs_0, gs_s, ss_0, ss_s, op_ii, op_ss, op_tt, op_mm, op_sb, op_ng, op_iNf, op_iNt, op_lle, op_ixT, op_ixR, op_ixL, op_putE, op_appE, it_tupE, it_rolE, it_refE, lstOf_l, exL, asS_some, asI_int, asB_bl, asL_some, asN_some, ite3_t, ite3_f, bl_1, bl_lenT, bl_lenR, bl_lenL, bl_lenS, bl_tuple, bl_list, bl_abs, bl_intI, bl_intB, bl_max, bl_min, op_eqSf, op_eqSt, op_eqIf, op_eqIt, op_eqTf, op_eqTt, op_eqRf, op_eqRt, op_eqNf, op_eqNt, eqD_int, eqD_nil, pl_int, pl_nil, pl_non, pl_rnil, pl_bl, sl_tupE, sl_rolE, keep_ref, keep_tup, keep_rol, tp_int, tp_tup, tp_rol, tp_str, tp_bl, tp_non, tp_ref, oFd, oMd, oPw, oShl, oLt, oLe, oGt, oGe, op_in, op_cp, wipe_nil, wipe_cons, mset_same, true_and, and_true, isN_int, ex_lstF, ex_repF, ex_lgF1, ex_lgF2, ex_tupRg1, ex_tupRg2, ex_frz, ex_slF, ex_slM, sl_tupF, sl_rolF, op_iiF, op_ssF, op_ttF, op_rrF, op_rrM, op_mmF, op_repF, li_rol, li_ref, bl_listF, bl_allF, bl_anyF, asT_some, asJ_some, op_eqBf, op_eqBt, isN_non, Bool.not_true, Bool.not_false, rep2]
          refine k5 _ (1000 * i + 402 + 20 * j) n T _ _ _ f (by omega) n0 n1 t fun d' M7 hd' f7 _ => ⟨by omega, hZ _ _ ⟨fun y hy => ?_, by rw [List.length_append, hal]; rfl, f7.mono (by omega)⟩⟩
          rcases List.mem_append.mp hy with h | h
          · exact hacc y h
          · rw [List.mem_singleton] at h; rw [h]; exact hd'
        rintro acc M7 ⟨hacc, hal, f7⟩
        have hal4 : acc.length = 4 := hal
        refine ⟨True.intro, ?_⟩
        (try simp only [ex_c, ex_var, ex_op, ex_un, ex_b, ex_and, ex_or, ex_not, ex_andV, ex_orV, ex_notV, ex_if, ex_chain, ex_nil, ex_cons, ex_tup, ex_lst, ex_call, ex_callP, ex_cb, ex_bm, ex_rep, ex_sl, ex_noPart, ex_part, ex_yes, it_items, it_rng1, it_rng2, tg_name, tg_sub, tg_tup, tg_cons, tg_nil, gs_0, gs_s, ss_0, ss_s, op_ii, op_ss, op_tt, op_mm, op_sb, op_ng, op_iNf, op_iNt, op_lle, op_ixT, op_ixR, op_ixL, op_putE, op_appE, it_tupE, it_rolE, it_refE, lstOf_l, exL, asS_some, asI_int, asB_bl, asL_some, asN_some, ite3_t, ite3_f, bl_1, bl_lenT, bl_lenR, bl_lenL, bl_lenS, bl_tuple, bl_list, bl_abs, bl_intI, bl_intB, bl_max, bl_min, op_eqSf, op_eqSt, op_eqIf, op_eqIt, op_eqTf, op_eqTt, op_eqRf, op_eqRt, op_eqNf, op_eqNt, eqD_int, eqD_nil, pl_int, pl_nil, pl_non, pl_rnil, pl_bl, sl_tupE, sl_rolE, keep_ref, keep_tup, keep_rol, tp_int, tp_tup, tp_rol, tp_str, tp_bl, tp_non, tp_ref, oFd, oMd, oPw, oShl, oLt, oLe, oGt, oGe, op_in, op_cp, wipe_nil, wipe_cons, mset_same, true_and, and_true, isN_int, ex_lstF, ex_repF, ex_lgF1, ex_lgF2, ex_tupRg1, ex_tupRg2, ex_frz, ex_slF, ex_slM, sl_tupF, sl_rolF, op_iiF, op_ssF, op_ttF, op_rrF, op_rrM, op_mmF, op_repF, li_rol, li_ref, bl_listF, bl_allF, bl_anyF, asT_some, asJ_some, op_eqBf, op_eqBt, isN_non, Bool.not_true, Bool.not_false, rep2])
        refine ⟨by show 4 + _ ≤ sizeLine; omega, ?_⟩
        refine fin _ _ _ _ _ _ (fun d hd => ?_) (by rw [List.length_append]; show 4 + _ ≤ 8; omega) (f7.mono (by rw [rgD_len]; show _ + 20 * 4 ≤ _; omega))
        rcases List.mem_append.mp hd with h | h
        · exact four hr d h
        · exact hacc d h
      try dsimp only
      rw [st_seq, st_set]
      simp only [ex_c, ex_var, ex_op, ex_un, ex_b, ex_and, ex_or, ex_not, ex_andV, ex_orV, ex_notV, ex_if, ex_chain, ex_nil, ex_cons, ex_tup, ex_lst, ex_call, ex_callP, ex_cb, ex_bm, ex_rep, ex_sl, ex_noPart, ex_part, ex_yes, it_items, it_rng1, it_rng2, tg_name, tg_sub, tg_tup, tg_cons, tg_nil, gs_0, gs_s, ss_0, ss_s, op_ii, op_ss, op_tt, op_mm, op_sb, op_ng, op_iNf, op_iNt, op_lle, op_ixT, op_ixR, op_ixL, op_putE, op_appE, it_tupE, it_rolE, it_refE, lstOf_l, exL, asS_some, asI_int, asB_bl, asL_some, asN_some, ite3_t, ite3_f, bl_1, bl_lenT, bl_lenR, bl_lenL, bl_lenS, bl_tuple, bl_list, bl_abs, bl_intI, bl_intB, bl_max, bl_min, op_eqSf, op_eqSt, op_eqIf, op_eqIt, op_eqTf, op_eqTt, op_eqRf, op_eqRt, op_eqNf, op_eqNt, eqD_int, eqD_nil, pl_int, pl_nil, pl_non, pl_rnil, pl_bl, sl_tupE, sl_rolE, keep_ref, keep_tup, keep_rol, tp_int, tp_tup, tp_rol, tp_str, tp_bl, tp_non, tp_ref, oFd, oMd, oPw, oShl, oLt, oLe, oGt, oGe, op_in, op_cp, wipe_nil, wipe_cons, mset_same, true_and, and_true, isN_int, ex_lstF, ex_repF, ex_lgF1, ex_lgF2, ex_tupRg1, ex_tupRg2, ex_frz, ex_slF, ex_slM, sl_tupF, sl_rolF, op_iiF, op_ssF, op_ttF, op_rrF, op_rrM, op_mmF, op_repF, li_rol, li_ref, bl_listF, bl_allF, bl_anyF, asT_some, asJ_some, op_eqBf, op_eqBt, isN_non, Bool.not_true, Bool.not_false, rep2]
      refine k4 n 13 T _ _ n0 (by omega) t (fun _ v hv => ?_) (fun rs es _ hr neg => ?_)
      · (try simp only [ex_c, ex_var, ex_op, ex_un, ex_b, ex_and, ex_or, ex_not, ex_andV, ex_orV, ex_notV, ex_if, ex_chain, ex_nil, ex_cons, ex_tup, ex_lst, ex_call, ex_callP, ex_cb, ex_bm, ex_rep, ex_sl, ex_noPart, ex_part, ex_yes, it_items, it_rng1, it_rng2, tg_name, tg_sub, tg_tup, tg_cons, tg_nil, gs_0, gs_s, ss_0, ss_s, op_ii, op_ss, op_tt, op_mm, op_sb, op_ng, op_iNf, op_iNt, op_lle, op_ixT, op_ixR, op_ixL, op_putE, op_appE, it_tupE, it_rolE, it_refE, lstOf_l, exL, asS_some, asI_int, asB_bl, asL_some, asN_some, ite3_t, ite3_f, bl_1, bl_lenT, bl_lenR, bl_lenL, bl_lenS, bl_tuple, bl_list, bl_abs, bl_intI, bl_intB, bl_max, bl_min, op_eqSf, op_eqSt, op_eqIf, op_eqIt, op_eqTf, op_eqTt, op_eqRf, op_eqRt, op_eqNf, op_eqNt, eqD_int, eqD_nil, pl_int, pl_nil, pl_non, pl_rnil, pl_bl, sl_tupE, sl_rolE, keep_ref, keep_tup, keep_rol, tp_int, tp_tup, tp_rol, tp_str, tp_bl, tp_non, tp_ref, oFd, oMd, oPw, oShl, oLt, oLe, oGt, oGe, op_in, op_cp, wipe_nil, wipe_cons, mset_same, true_and, and_true, isN_int, ex_lstF, ex_repF, ex_lgF1, ex_lgF2, ex_tupRg1, ex_tupRg2, ex_frz, ex_slF, ex_slM, sl_tupF, sl_rolF, op_iiF, op_ssF, op_ttF, op_rrF, op_rrM, op_mmF, op_repF, li_rol, li_ref, bl_listF, bl_allF, bl_anyF, asT_some, asJ_some, op_eqBf, op_eqBt, isN_non, Bool.not_true, Bool.not_false, rep2])
        exact ⟨Nat.zero_le _, Nat.zero_le _, by show 1 ≤ sizeLine; omega, by show 4 ≤ sizeLine; omega, go _ _ _ _ _ vn⟩
      · (try simp only [ex_c, ex_var, ex_op, ex_un, ex_b, ex_and, ex_or, ex_not, ex_andV, ex_orV, ex_notV, ex_if, ex_chain, ex_nil, ex_cons, ex_tup, ex_lst, ex_call, ex_callP, ex_cb, ex_bm, ex_rep, ex_sl, ex_noPart, ex_part, ex_yes, it_items, it_rng1, it_rng2, tg_name, tg_sub, tg_tup, tg_cons, tg_nil, gs_0, gs_s, ss_0, ss_s, op_ii, op_ss, op_tt, op_mm, op_sb, op_ng, op_iNf, op_iNt, op_lle, op_ixT, op_ixR, op_ixL, op_putE, op_appE, it_tupE, it_rolE, it_refE, lstOf_l, exL, asS_some, asI_int, asB_bl, asL_some, asN_some, ite3_t, ite3_f, bl_1, bl_lenT, bl_lenR, bl_lenL, bl_lenS, bl_tuple, bl_list, bl_abs, bl_intI, bl_intB, bl_max, bl_min, op_eqSf, op_eqSt, op_eqIf, op_eqIt, op_eqTf, op_eqTt, op_eqRf, op_eqRt, op_eqNf, op_eqNt, eqD_int, eqD_nil, pl_int, pl_nil, pl_non, pl_rnil, pl_bl, sl_tupE, sl_rolE, keep_ref, keep_tup, keep_rol, tp_int, tp_tup, tp_rol, tp_str, tp_bl, tp_non, tp_ref, oFd, oMd, oPw, oShl, oLt, oLe, oGt, oGe, op_in, op_cp, wipe_nil, wipe_cons, mset_same, true_and, and_true, isN_int, ex_lstF, ex_repF, ex_lgF1, ex_lgF2, ex_tupRg1, ex_tupRg2, ex_frz, ex_slF, ex_slM, sl_tupF, sl_rolF, op_iiF, op_ssF, op_ttF, op_rrF, op_rrM, op_mmF, op_repF, li_rol, li_ref, bl_listF, bl_allF, bl_anyF, asT_some, asJ_some, op_eqBf, op_eqBt, isN_non, Bool.not_true, Bool.not_false, rep2])
        have hrl : rs.length ≤ n := by
          have := nodup_sub_len (ks := rs.map fun x : Nat => (x : Int)) (ns := (List.range n).map fun x : Nat => (x : Int)) (List.pairwise_map.mpr (List.Pairwise.imp (fun h e => h (by omega)) hr.nd)) fun k hk => by
            obtain ⟨v, hv, rfl⟩ := List.mem_map.mp hk
            exact List.mem_map.mpr ⟨v, List.mem_range.mpr (hr.lt v hv), rfl⟩
          rw [List.length_map, List.length_map, List.length_range] at this
          exact this
        exact ⟨Nat.zero_le _, Nat.zero_le _, by show 1 ≤ sizeLine; omega, by show 4 ≤ sizeLine; omega, go _ _ _ _ _ (natL_vd (by omega) (by decide) fun v hv => by have := hr.lt v hv; omega)⟩
  · rintro τ M ⟨_, f, x2, x3, x4, x5, x6, x7, x8, x9, rfl⟩
    try dsimp only
    rw [st_ret]
    simp only [ex_c, ex_var, ex_op, ex_un, ex_b, ex_and, ex_or, ex_not, ex_andV, ex_orV, ex_notV, ex_if, ex_chain, ex_nil, ex_cons, ex_tup, ex_lst, ex_call, ex_callP, ex_cb, ex_bm, ex_rep, ex_sl, ex_noPart, ex_part, ex_yes, it_items, it_rng1, it_rng2, tg_name, tg_sub, tg_tup, tg_cons, tg_nil, gs_0, gs_s, ss_0, ss_s, op_ii, op_ss, op_tt, op_mm, op_sb, op_ng, op_iNf, op_iNt, op_lle, op_ixT, op_ixR, op_ixL, op_putE, op_appE, it_tupE, it_rolE, it_refE, lstOf_l, exL, asS_some, asI_int, asB_bl, asL_some, asN_some, ite3_t, ite3_f, bl_1, bl_lenT, bl_lenR, bl_lenL, bl_lenS, bl_tuple, bl_list, bl_abs, bl_intI, bl_intB, bl_max, bl_min, op_eqSf, op_eqSt, op_eqIf, op_eqIt, op_eqTf, op_eqTt, op_eqRf, op_eqRt, op_eqNf, op_eqNt, eqD_int, eqD_nil, pl_int, pl_nil, pl_non, pl_rnil, pl_bl, sl_tupE, sl_rolE, keep_ref, keep_tup, keep_rol, tp_int, tp_tup, tp_rol, tp_str, tp_bl, tp_non, tp_ref, oFd, oMd, oPw, oShl, oLt, oLe, oGt, oGe, op_in, op_cp, wipe_nil, wipe_cons, mset_same, true_and, and_true, isN_int, ex_lstF, ex_repF, ex_lgF1, ex_lgF2, ex_tupRg1, ex_tupRg2, ex_frz, ex_slF, ex_slM, sl_tupF, sl_rolF, op_iiF, op_ssF, op_ttF, op_rrF, op_rrM, op_mmF, op_repF, li_rol, li_ref, bl_listF, bl_allF, bl_anyF, asT_some, asJ_some, op_eqBf, op_eqBt, isN_non, Bool.not_true, Bool.not_false, rep2]
theorem said : ∀ ns : List Int, ns.length ≤ 63 → sp_law [.rol (ns.map D.int)] M0 (fun v _ => v = .bl true) (fun _ _ _ => False) := fun ns _ =>
  m_law m_feed m_draw m_table m_ring m_ring0 (s_walked m_draw) (s_bent m_draw) (s_told m_lets) s_due ns
end W
set_option Elab.async false
set_option linter.all false
set_option maxRecDepth 100000
set_option maxHeartbeats 4000000
namespace W
open PySem PySem.Spec PyProof.Rows L2 L3
theorem all_mk {l : PySem.W.OpenLaw} {w : World} {K : PySem.W.Frag} {h : Heap} {mg : PySem.Str → Option Value} {fa f1 f2 f3 f4 f5 f6 f7 f8 f9 f10 f11 f12 f13 f14 f15 : Addr} (X : K.In h) (G : h.Ns mainGlobals mg) (hfa : mg "law" = some (.ref fa))
    {od1 an1 od2 an2 od3 an3 od4 an4 od5 an5 od6 an6 od7 an7 od8 an8 od9 an9 od10 an10 od11 an11 od12 an12 od13 an13 od14 an14 od15 an15 : Option Addr} {sl1 sl2 sl3 sl4 sl5 sl6 sl7 sl8 sl9 sl10 sl11 sl12 sl13 sl14 sl15 : Array (Option Value)} {oc1 kV1 dc1 pm1 cd1 ct1 oc2 kV2 dc2 pm2 cd2 ct2 oc3 kV3 dc3 pm3 cd3 ct3 oc4 kV4 dc4 pm4 cd4 ct4 oc5 kV5 dc5 pm5 cd5 ct5 oc6 kV6 dc6 pm6 cd6 ct6 oc7 kV7 dc7 pm7 cd7 ct7 oc8 kV8 dc8 pm8 cd8 ct8 oc9 kV9 dc9 pm9 cd9 ct9 oc10 kV10 dc10 pm10 cd10 ct10 oc11 kV11 dc11 pm11 cd11 ct11 oc12 kV12 dc12 pm12 cd12 ct12 oc13 kV13 dc13 pm13 cd13 ct13 oc14 kV14 dc14 pm14 cd14 ct14 oc15 kV15 dc15 pm15 cd15 ct15 : Value}
    (a1 : PySem.W.nsIn K mainGlobals ("is_integer" : PySem.Str) = some (some (.ref f1))) (l1 : K.lookup f1 = some ⟨oc1, od1, .func (PySem.W.fnOf ("is_integer" : PySem.Str) ("is_integer" : PySem.Str) (defArgs s_is_integer) (defBody s_is_integer) (defScope s_is_integer) .none kV1 dc1 pm1 an1 cd1 ct1), sl1⟩) (c1 : PySem.W.codeIn K cd1 ("is_integer" : PySem.Str) = true) (k1 : PySem.W.keepIn K (.ref f1) = true)
    (a2 : PySem.W.nsIn K mainGlobals ("joined" : PySem.Str) = some (some (.ref f2))) (l2 : K.lookup f2 = some ⟨oc2, od2, .func (PySem.W.fnOf ("joined" : PySem.Str) ("joined" : PySem.Str) (defArgs s_joined) (defBody s_joined) (defScope s_joined) .none kV2 dc2 pm2 an2 cd2 ct2), sl2⟩) (c2 : PySem.W.codeIn K cd2 ("joined" : PySem.Str) = true) (k2 : PySem.W.keepIn K (.ref f2) = true)
    (a3 : PySem.W.nsIn K mainGlobals ("is_ring" : PySem.Str) = some (some (.ref f3))) (l3 : K.lookup f3 = some ⟨oc3, od3, .func (PySem.W.fnOf ("is_ring" : PySem.Str) ("is_ring" : PySem.Str) (defArgs s_is_ring) (defBody s_is_ring) (defScope s_is_ring) .none kV3 dc3 pm3 an3 cd3 ct3), sl3⟩) (c3 : PySem.W.codeIn K cd3 ("is_ring" : PySem.Str) = true) (k3 : PySem.W.keepIn K (.ref f3) = true)
    (a4 : PySem.W.nsIn K mainGlobals ("lets_ring" : PySem.Str) = some (some (.ref f4))) (l4 : K.lookup f4 = some ⟨oc4, od4, .func (PySem.W.fnOf ("lets_ring" : PySem.Str) ("lets_ring" : PySem.Str) (defArgs s_lets_ring) (defBody s_lets_ring) (defScope s_lets_ring) .none kV4 dc4 pm4 an4 cd4 ct4), sl4⟩) (c4 : PySem.W.codeIn K cd4 ("lets_ring" : PySem.Str) = true) (k4 : PySem.W.keepIn K (.ref f4) = true)
    (a5 : PySem.W.nsIn K mainGlobals ("loosen" : PySem.Str) = some (some (.ref f5))) (l5 : K.lookup f5 = some ⟨oc5, od5, .func (PySem.W.fnOf ("loosen" : PySem.Str) ("loosen" : PySem.Str) (defArgs s_loosen) (defBody s_loosen) (defScope s_loosen) .none kV5 dc5 pm5 an5 cd5 ct5), sl5⟩) (c5 : PySem.W.codeIn K cd5 ("loosen" : PySem.Str) = true) (k5 : PySem.W.keepIn K (.ref f5) = true)
    (a6 : PySem.W.nsIn K mainGlobals ("ring_of" : PySem.Str) = some (some (.ref f6))) (l6 : K.lookup f6 = some ⟨oc6, od6, .func (PySem.W.fnOf ("ring_of" : PySem.Str) ("ring_of" : PySem.Str) (defArgs s_ring_of) (defBody s_ring_of) (defScope s_ring_of) .none kV6 dc6 pm6 an6 cd6 ct6), sl6⟩) (c6 : PySem.W.codeIn K cd6 ("ring_of" : PySem.Str) = true) (k6 : PySem.W.keepIn K (.ref f6) = true)
    (a7 : PySem.W.nsIn K mainGlobals ("_law_feed" : PySem.Str) = some (some (.ref f7))) (l7 : K.lookup f7 = some ⟨oc7, od7, .func (PySem.W.fnOf ("_law_feed" : PySem.Str) ("_law_feed" : PySem.Str) (defArgs s__law_feed) (defBody s__law_feed) (defScope s__law_feed) .none kV7 dc7 pm7 an7 cd7 ct7), sl7⟩) (c7 : PySem.W.codeIn K cd7 ("_law_feed" : PySem.Str) = true) (k7 : PySem.W.keepIn K (.ref f7) = true)
    (a8 : PySem.W.nsIn K mainGlobals ("_law_draw" : PySem.Str) = some (some (.ref f8))) (l8 : K.lookup f8 = some ⟨oc8, od8, .func (PySem.W.fnOf ("_law_draw" : PySem.Str) ("_law_draw" : PySem.Str) (defArgs s__law_draw) (defBody s__law_draw) (defScope s__law_draw) .none kV8 dc8 pm8 an8 cd8 ct8), sl8⟩) (c8 : PySem.W.codeIn K cd8 ("_law_draw" : PySem.Str) = true) (k8 : PySem.W.keepIn K (.ref f8) = true)
    (a9 : PySem.W.nsIn K mainGlobals ("_law_end" : PySem.Str) = some (some (.ref f9))) (l9 : K.lookup f9 = some ⟨oc9, od9, .func (PySem.W.fnOf ("_law_end" : PySem.Str) ("_law_end" : PySem.Str) (defArgs s__law_end) (defBody s__law_end) (defScope s__law_end) .none kV9 dc9 pm9 an9 cd9 ct9), sl9⟩) (c9 : PySem.W.codeIn K cd9 ("_law_end" : PySem.Str) = true) (k9 : PySem.W.keepIn K (.ref f9) = true)
    (a10 : PySem.W.nsIn K mainGlobals ("_law_table" : PySem.Str) = some (some (.ref f10))) (l10 : K.lookup f10 = some ⟨oc10, od10, .func (PySem.W.fnOf ("_law_table" : PySem.Str) ("_law_table" : PySem.Str) (defArgs s__law_table) (defBody s__law_table) (defScope s__law_table) .none kV10 dc10 pm10 an10 cd10 ct10), sl10⟩) (c10 : PySem.W.codeIn K cd10 ("_law_table" : PySem.Str) = true) (k10 : PySem.W.keepIn K (.ref f10) = true)
    (a11 : PySem.W.nsIn K mainGlobals ("_law_due" : PySem.Str) = some (some (.ref f11))) (l11 : K.lookup f11 = some ⟨oc11, od11, .func (PySem.W.fnOf ("_law_due" : PySem.Str) ("_law_due" : PySem.Str) (defArgs s__law_due) (defBody s__law_due) (defScope s__law_due) .none kV11 dc11 pm11 an11 cd11 ct11), sl11⟩) (c11 : PySem.W.codeIn K cd11 ("_law_due" : PySem.Str) = true) (k11 : PySem.W.keepIn K (.ref f11) = true)
    (a12 : PySem.W.nsIn K mainGlobals ("_law_told" : PySem.Str) = some (some (.ref f12))) (l12 : K.lookup f12 = some ⟨oc12, od12, .func (PySem.W.fnOf ("_law_told" : PySem.Str) ("_law_told" : PySem.Str) (defArgs s__law_told) (defBody s__law_told) (defScope s__law_told) .none kV12 dc12 pm12 an12 cd12 ct12), sl12⟩) (c12 : PySem.W.codeIn K cd12 ("_law_told" : PySem.Str) = true) (k12 : PySem.W.keepIn K (.ref f12) = true)
    (a13 : PySem.W.nsIn K mainGlobals ("_law_walked" : PySem.Str) = some (some (.ref f13))) (l13 : K.lookup f13 = some ⟨oc13, od13, .func (PySem.W.fnOf ("_law_walked" : PySem.Str) ("_law_walked" : PySem.Str) (defArgs s__law_walked) (defBody s__law_walked) (defScope s__law_walked) .none kV13 dc13 pm13 an13 cd13 ct13), sl13⟩) (c13 : PySem.W.codeIn K cd13 ("_law_walked" : PySem.Str) = true) (k13 : PySem.W.keepIn K (.ref f13) = true)
    (a14 : PySem.W.nsIn K mainGlobals ("_law_bent" : PySem.Str) = some (some (.ref f14))) (l14 : K.lookup f14 = some ⟨oc14, od14, .func (PySem.W.fnOf ("_law_bent" : PySem.Str) ("_law_bent" : PySem.Str) (defArgs s__law_bent) (defBody s__law_bent) (defScope s__law_bent) .none kV14 dc14 pm14 an14 cd14 ct14), sl14⟩) (c14 : PySem.W.codeIn K cd14 ("_law_bent" : PySem.Str) = true) (k14 : PySem.W.keepIn K (.ref f14) = true)
    (a15 : PySem.W.nsIn K mainGlobals ("law" : PySem.Str) = some (some (.ref f15))) (l15 : K.lookup f15 = some ⟨oc15, od15, .func (PySem.W.fnOf ("law" : PySem.Str) ("law" : PySem.Str) (defArgs s_law) (defBody s_law) (defScope s_law) .none kV15 dc15 pm15 an15 cd15 ct15), sl15⟩) (c15 : PySem.W.codeIn K cd15 ("law" : PySem.Str) = true) (k15 : PySem.W.keepIn K (.ref f15) = true)
    (z0 : PySem.W.nsIn K mainGlobals ("ValueError" : PySem.Str) = some none)
    (z1 : PySem.W.nsIn K mainGlobals ("all" : PySem.Str) = some none)
    (z2 : PySem.W.nsIn K mainGlobals ("bool" : PySem.Str) = some none)
    (z3 : PySem.W.nsIn K mainGlobals ("enumerate" : PySem.Str) = some none)
    (z4 : PySem.W.nsIn K mainGlobals ("int" : PySem.Str) = some none)
    (z5 : PySem.W.nsIn K mainGlobals ("isinstance" : PySem.Str) = some none)
    (z6 : PySem.W.nsIn K mainGlobals ("len" : PySem.Str) = some none)
    (z7 : PySem.W.nsIn K mainGlobals ("list" : PySem.Str) = some none)
    (z8 : PySem.W.nsIn K mainGlobals ("max" : PySem.Str) = some none)
    (z9 : PySem.W.nsIn K mainGlobals ("min" : PySem.Str) = some none)
    (z10 : PySem.W.nsIn K mainGlobals ("range" : PySem.Str) = some none)
    (z11 : PySem.W.nsIn K mainGlobals ("repr" : PySem.Str) = some none)
    (z12 : PySem.W.nsIn K mainGlobals ("set" : PySem.Str) = some none)
    (z13 : PySem.W.nsIn K mainGlobals ("tuple" : PySem.Str) = some none)
    {C_TurnError : Addr}
    (ac_TurnError : PySem.W.nsIn K mainGlobals ("TurnError" : PySem.Str) = some (some (.ref C_TurnError)))
    (xb_TurnError : PySem.W.subIn K (.ref C_TurnError) (.type "BaseException") = some true)
    (xt_TurnError : PySem.W.typeIn K (.ref C_TurnError) = some (.type "type"))
    (xd_TurnError : PySem.W.hasDictIn K C_TurnError = true)
    {C_NoPaper : Addr}
    (ac_NoPaper : PySem.W.nsIn K mainGlobals ("NoPaper" : PySem.Str) = some (some (.ref C_NoPaper)))
    (xb_NoPaper : PySem.W.subIn K (.ref C_NoPaper) (.type "BaseException") = some true)
    (xt_NoPaper : PySem.W.typeIn K (.ref C_NoPaper) = some (.type "type"))
    (xd_NoPaper : PySem.W.hasDictIn K C_NoPaper = true)
    {nm_NoPaper q_NoPaper : Str} {N_NoPaper : Addr} {bs_NoPaper : List Value} {sn_NoPaper : List Str} {sub_NoPaper : List Value} {ab_NoPaper : Bool} {col_NoPaper : Option Bool} {dd_NoPaper : Option Addr} {m0_NoPaper m1_NoPaper m2_NoPaper m3_NoPaper m5_NoPaper : Option Value}
    (xl_NoPaper : K.lookup C_NoPaper = some (excClassObj nm_NoPaper q_NoPaper C_NoPaper N_NoPaper bs_NoPaper [.ref C_TurnError, .type "ValueError", .type "Exception", .type "BaseException", .type "object"] true sn_NoPaper sub_NoPaper ab_NoPaper col_NoPaper dd_NoPaper m0_NoPaper m1_NoPaper m2_NoPaper m3_NoPaper m5_NoPaper "ValueError.__new__"))
    (xs_NoPaper : PySem.W.findIn K (.ref C_NoPaper) "__setattr__" = some (some (.builtin "object.__setattr__")))
    (xk_NoPaper : PySem.W.keepIn K (.ref C_NoPaper) = true)
    (xn_NoPaper_0 : PySem.W.findIn K (.ref C_NoPaper) ("word" : PySem.Str) = some none)
    (xn_NoPaper_1 : PySem.W.findIn K (.ref C_NoPaper) ("place" : PySem.Str) = some none)
    {fI_NoPaper : Addr} {io_NoPaper ia_NoPaper : Option Addr} {is_NoPaper : Array (Option Value)} {ic_NoPaper iv_NoPaper id_NoPaper ip_NoPaper ie_NoPaper it_NoPaper : Value}
    (xi_NoPaper : PySem.W.findIn K (.ref C_NoPaper) "__init__" = some (some (.ref fI_NoPaper)))
    (xy_NoPaper : PySem.W.typeIn K (.ref fI_NoPaper) = some (.type "function"))
    (xf_NoPaper : K.lookup fI_NoPaper = some ⟨ic_NoPaper, io_NoPaper, .func (PySem.W.fnOf "__init__" "NoPaper.__init__" (defArgs s_NoPaper_init) (defBody s_NoPaper_init) (defScope s_NoPaper_init) .none iv_NoPaper id_NoPaper ip_NoPaper ia_NoPaper ie_NoPaper it_NoPaper), is_NoPaper⟩)
    (xc_NoPaper : PySem.W.codeIn K ie_NoPaper "NoPaper.__init__" = true)
    (xg_NoPaper : PySem.W.keepIn K (.ref fI_NoPaper) = true)
    (xga_NoPaper : PySem.W.findIn K (.ref C_NoPaper) "__getattribute__" = some (some (.builtin "BaseException.__getattribute__")))
    (xgg_NoPaper : PySem.W.findIn K (.ref C_NoPaper) "__getattr__" = some none)
    (xca_NoPaper : PySem.W.findIn K (.ref C_NoPaper) "__class__" = some (some (.builtin "object.__class__")))
    (xcm_NoPaper : PySem.W.mroIn K C_NoPaper (.type "object") = some true)
    (xcn : PySem.W.specialIn K (.builtin "object.__class__") "__get__" = some (some (.builtin "getset_descriptor.__get__")))
    (xct : PySem.W.takesIn K (.builtin "object.__class__") = some true)
    (xfn_NoPaper_place : PySem.W.findIn K (.ref C_NoPaper) ("place" : PySem.Str) = some none)
    (xfn_NoPaper_word : PySem.W.findIn K (.ref C_NoPaper) ("word" : PySem.Str) = some none)
    (xsb_NoPaper_ValueError : PySem.W.subIn K (.ref C_NoPaper) (.type "ValueError") = some true)
    (xis_NoPaper_NoPaper : PySem.W.subIn K (.ref C_NoPaper) (.ref C_NoPaper) = some true)
    (xp_NoPaper_TurnError : PySem.W.subIn K (.ref C_NoPaper) (.ref C_TurnError) = some true)
    : ∃ fd : FuncData, (∀ (s : Shared) (v : Value), BindsTo s fd ⟨[v], []⟩ [(("_law_script" : PySem.Str), v)]) ∧ ∀ base : Heap, K.In base → base.Ns mainGlobals mg → FnG l.prog w K mg base (L2.CX l.prog w) 5 fa fd [("_law_script" : PySem.Str)] (liftSp K sp_law) := by
  have e := hfa.symm.trans (PySem.W.mg_of X G a15)
  cases e
  have F1 := fun_mk (st := s_is_integer) l1 c1 k1
  have b1 := F1.binds (ps := [("value" : PySem.Str)]) fun _ _ _ _ _ _ us hl => match us, hl with | [_], _ => rfl
  have F2 := fun_mk (st := s_joined) l2 c2 k2
  have b2 := F2.binds (ps := [("first" : PySem.Str), ("second" : PySem.Str)]) fun _ _ _ _ _ _ us hl => match us, hl with | [_, _], _ => rfl
  have F3 := fun_mk (st := s_is_ring) l3 c3 k3
  have b3 := F3.binds (ps := [("value" : PySem.Str), ("many" : PySem.Str)]) fun _ _ _ _ _ _ us hl => match us, hl with | [_, _], _ => rfl
  have F4 := fun_mk (st := s_lets_ring) l4 c4 k4
  have b4 := F4.binds (ps := [("table" : PySem.Str), ("value" : PySem.Str)]) fun _ _ _ _ _ _ us hl => match us, hl with | [_, _], _ => rfl
  have F5 := fun_mk (st := s_loosen) l5 c5 k5
  have b5 := F5.binds (ps := [("table" : PySem.Str), ("sums" : PySem.Str), ("ahead" : PySem.Str)]) fun _ _ _ _ _ _ us hl => match us, hl with | [_, _, _], _ => rfl
  have F6 := fun_mk (st := s_ring_of) l6 c6 k6
  have b6 := F6.binds (ps := [("table" : PySem.Str)]) fun _ _ _ _ _ _ us hl => match us, hl with | [_], _ => rfl
  have F7 := fun_mk (st := s__law_feed) l7 c7 k7
  have b7 := F7.binds (ps := [("_law_script" : PySem.Str)]) fun _ _ _ _ _ _ us hl => match us, hl with | [_], _ => rfl
  have F8 := fun_mk (st := s__law_draw) l8 c8 k8
  have b8 := F8.binds (ps := [("_law_feed_here" : PySem.Str), ("_law_many" : PySem.Str)]) fun _ _ _ _ _ _ us hl => match us, hl with | [_, _], _ => rfl
  have F9 := fun_mk (st := s__law_end) l9 c9 k9
  have b9 := F9.binds (ps := [("_law_feed_here" : PySem.Str), ("_law_way" : PySem.Str), ("_law_gap" : PySem.Str)]) fun _ _ _ _ _ _ us hl => match us, hl with | [_, _, _], _ => rfl
  have F10 := fun_mk (st := s__law_table) l10 c10 k10
  have b10 := F10.binds (ps := [("_law_feed_here" : PySem.Str), ("_law_many" : PySem.Str)]) fun _ _ _ _ _ _ us hl => match us, hl with | [_, _], _ => rfl
  have F11 := fun_mk (st := s__law_due) l11 c11 k11
  have b11 := F11.binds (ps := [("_law_table_here" : PySem.Str), ("_law_value" : PySem.Str)]) fun _ _ _ _ _ _ us hl => match us, hl with | [_, _], _ => rfl
  have F12 := fun_mk (st := s__law_told) l12 c12 k12
  have b12 := F12.binds (ps := [("_law_table_here" : PySem.Str), ("_law_value" : PySem.Str)]) fun _ _ _ _ _ _ us hl => match us, hl with | [_, _], _ => rfl
  have F13 := fun_mk (st := s__law_walked) l13 c13 k13
  have b13 := F13.binds (ps := [("_law_feed_here" : PySem.Str), ("_law_table_here" : PySem.Str)]) fun _ _ _ _ _ _ us hl => match us, hl with | [_, _], _ => rfl
  have F14 := fun_mk (st := s__law_bent) l14 c14 k14
  have b14 := F14.binds (ps := [("_law_feed_here" : PySem.Str), ("_law_value" : PySem.Str), ("_law_many" : PySem.Str)]) fun _ _ _ _ _ _ us hl => match us, hl with | [_, _, _], _ => rfl
  have F15 := fun_mk (st := s_law) l15 c15 k15
  have b15 := F15.binds (ps := [("_law_script" : PySem.Str)]) fun _ _ _ _ _ _ us hl => match us, hl with | [_], _ => rfl
  have zz_ValueError := PySem.W.mg_none_of X G z0
  have zz_all := PySem.W.mg_none_of X G z1
  have zz_bool := PySem.W.mg_none_of X G z2
  have zz_enumerate := PySem.W.mg_none_of X G z3
  have zz_int := PySem.W.mg_none_of X G z4
  have zz_isinstance := PySem.W.mg_none_of X G z5
  have zz_len := PySem.W.mg_none_of X G z6
  have zz_list := PySem.W.mg_none_of X G z7
  have zz_max := PySem.W.mg_none_of X G z8
  have zz_min := PySem.W.mg_none_of X G z9
  have zz_range := PySem.W.mg_none_of X G z10
  have zz_repr := PySem.W.mg_none_of X G z11
  have zz_set := PySem.W.mg_none_of X G z12
  have zz_tuple := PySem.W.mg_none_of X G z13
  have FI_NoPaper := fun_mk (st := s_NoPaper_init) xf_NoPaper xc_NoPaper xg_NoPaper
  have X_NoPaper := fun base : Heap => mk_NoPaper (P := l.prog) (w := w) (base := base) ac_NoPaper (PySem.W.mg_of X G ac_NoPaper) (K := K) ⟨⟨nm_NoPaper, q_NoPaper, N_NoPaper, bs_NoPaper, _, sn_NoPaper, sub_NoPaper, ab_NoPaper, col_NoPaper, dd_NoPaper, m0_NoPaper, m1_NoPaper, m2_NoPaper, m3_NoPaper, m5_NoPaper, xl_NoPaper, by first | rfl | decide +kernel⟩, xs_NoPaper, xb_NoPaper, xt_NoPaper, xk_NoPaper⟩ xn_NoPaper_0 xn_NoPaper_1 xi_NoPaper xy_NoPaper FI_NoPaper (FI_NoPaper.binds (ps := [("self" : PySem.Str), ("word" : PySem.Str), ("place" : PySem.Str)]) fun _ _ _ _ _ _ us hl => match us, hl with | [_, _, _], _ => rfl)
  have H__law_told_0 : HX K mg ("TurnError" : PySem.Str) [("NoPaper" : PySem.Str)] := ⟨_, PySem.W.mg_of X G ac_TurnError, fun n hn c hc => by
    simp only [List.mem_cons, List.not_mem_nil, or_false] at hn
    rcases hn with rfl
    · unfold L3.Cl at hc; rw [ac_NoPaper] at hc; cases hc; exact PySem.W.exm_ref xb_TurnError xd_TurnError xt_TurnError xp_NoPaper_TurnError⟩
  have FX__law_told_0_place : ∀ n ∈ [("NoPaper" : PySem.Str)], FX K n ("place" : PySem.Str) := fun n hn c hc => by
    simp only [List.mem_cons, List.not_mem_nil, or_false] at hn
    rcases hn with rfl
    · unfold L3.Cl at hc; rw [ac_NoPaper] at hc; cases hc; exact ⟨_, rfl, ⟨xga_NoPaper, xgg_NoPaper, xb_NoPaper, xd_NoPaper⟩, xfn_NoPaper_place⟩
  have FX__law_told_0_word : ∀ n ∈ [("NoPaper" : PySem.Str)], FX K n ("word" : PySem.Str) := fun n hn c hc => by
    simp only [List.mem_cons, List.not_mem_nil, or_false] at hn
    rcases hn with rfl
    · unfold L3.Cl at hc; rw [ac_NoPaper] at hc; cases hc; exact ⟨_, rfl, ⟨xga_NoPaper, xgg_NoPaper, xb_NoPaper, xd_NoPaper⟩, xfn_NoPaper_word⟩
  have IG__law_told_0_NoPaper : IXg K mg ("NoPaper" : PySem.Str) [("NoPaper" : PySem.Str)] := ⟨_, PySem.W.mg_of X G ac_NoPaper, fun n hn c hc => by
    simp only [List.mem_cons, List.not_mem_nil, or_false] at hn
    rcases hn with rfl
    · unfold L3.Cl at hc; rw [ac_NoPaper] at hc; cases hc; exact ⟨_, rfl, ⟨xga_NoPaper, xgg_NoPaper, xb_NoPaper, xd_NoPaper, xca_NoPaper, xcn, xct, xcm_NoPaper⟩, kit_ref xd_NoPaper xt_NoPaper xis_NoPaper_NoPaper⟩⟩
  have IT__law_told_0_ValueError : ∀ n ∈ [("NoPaper" : PySem.Str)], IX K n (.type "ValueError") := fun n hn c hc => by
    simp only [List.mem_cons, List.not_mem_nil, or_false] at hn
    rcases hn with rfl
    · unfold L3.Cl at hc; rw [ac_NoPaper] at hc; cases hc; exact ⟨_, rfl, ⟨xga_NoPaper, xgg_NoPaper, xb_NoPaper, xd_NoPaper, xca_NoPaper, xcn, xct, xcm_NoPaper⟩, kit_ty (by decide +kernel) xsb_NoPaper_ValueError⟩
  refine ⟨PySem.W.fnOf "law" "law" (defArgs s_law) (defBody s_law) (defScope s_law) .none kV15 dc15 pm15 an15 cd15 ct15, fun s v => .of_eq rfl, fun base _ _ => ?_⟩
  have D_is_integer := ok_is_integer (P := l.prog) (w := w) (base := base) (PySem.W.mg_of X G a1) F1 b1 zz_bool zz_int zz_isinstance       
  have D_joined := ok_joined (P := l.prog) (w := w) (base := base) (PySem.W.mg_of X G a2) F2 b2        
  have D_is_ring := ok_is_ring (P := l.prog) (w := w) (base := base) (PySem.W.mg_of X G a3) F3 b3 zz_all zz_isinstance zz_len zz_set zz_tuple       D_is_integer
  have D_lets_ring := ok_lets_ring (P := l.prog) (w := w) (base := base) (PySem.W.mg_of X G a4) F4 b4 zz_enumerate zz_isinstance zz_len zz_tuple (X_NoPaper base)      D_is_ring
  have D_loosen := ok_loosen (P := l.prog) (w := w) (base := base) (PySem.W.mg_of X G a5) F5 b5 zz_enumerate       D_joined
  have D_ring_of := ok_ring_of (P := l.prog) (w := w) (base := base) (PySem.W.mg_of X G a6) F6 b6 zz_len zz_list zz_range zz_tuple       D_loosen
  have D__law_feed := ok__law_feed (P := l.prog) (w := w) (base := base) (PySem.W.mg_of X G a7) F7 b7        
  have D__law_draw := ok__law_draw (P := l.prog) (w := w) (base := base) (PySem.W.mg_of X G a8) F8 b8 zz_len       
  have D__law_end := ok__law_end (P := l.prog) (w := w) (base := base) (PySem.W.mg_of X G a9) F9 b9 zz_max zz_min       D__law_draw
  have D__law_table := ok__law_table (P := l.prog) (w := w) (base := base) (PySem.W.mg_of X G a10) F10 b10 zz_int zz_range zz_tuple       D__law_draw D__law_end
  have D__law_due := ok__law_due (P := l.prog) (w := w) (base := base) (PySem.W.mg_of X G a11) F11 b11 zz_bool zz_int zz_isinstance zz_len zz_range zz_set zz_tuple       
  have D__law_told := ok__law_told (P := l.prog) (w := w) (base := base) (PySem.W.mg_of X G a12) F12 b12 zz_ValueError zz_isinstance  H__law_told_0 FX__law_told_0_place FX__law_told_0_word IG__law_told_0_NoPaper IT__law_told_0_ValueError  D_lets_ring
  have D__law_walked := ok__law_walked (P := l.prog) (w := w) (base := base) (PySem.W.mg_of X G a13) F13 b13 zz_len zz_range zz_tuple       D__law_draw
  have D__law_bent := ok__law_bent (P := l.prog) (w := w) (base := base) (PySem.W.mg_of X G a14) F14 b14 zz_isinstance zz_len zz_list zz_tuple       D__law_draw
  exact ok_law (P := l.prog) (w := w) (base := base) F15 zz_len zz_max zz_min zz_range zz_repr       D__law_feed D__law_draw D__law_table D_ring_of D__law_walked D__law_bent D__law_told D__law_due
end W
open PySem PySem.W PyProof.Rows
set_option maxRecDepth 100000 in
set_option maxHeartbeats 0 in
theorem PySem.Challenge.cw_everturns_k14_rings_looked_at_holds : PySem.Challenge.rw_everturns_k14_rings_looked_at.Holds := by
  w_on; o_law; k_head; (case hw => w_witness2)
  k_fill
  refine L3.law_end (l := PySem.Challenge.rw_everturns_k14_rings_looked_at) (CX := fun P w => L2.CX P w) (sp := W.sp_law) (k := 5) (x := ("_law_script" : PySem.Str)) rfl rfl ⟨rfl, by decide, by decide⟩ (fun w h Y => PySem.W.kIn_of Y) ?F W.said L3.quietX
  case F =>
    intro w mg fa h KX G hmg
    refine' W.all_mk KX G hmg ?a1 ?l1 ?c1 ?k1 ?a2 ?l2 ?c2 ?k2 ?a3 ?l3 ?c3 ?k3 ?a4 ?l4 ?c4 ?k4 ?a5 ?l5 ?c5 ?k5 ?a6 ?l6 ?c6 ?k6 ?a7 ?l7 ?c7 ?k7 ?a8 ?l8 ?c8 ?k8 ?a9 ?l9 ?c9 ?k9 ?a10 ?l10 ?c10 ?k10 ?a11 ?l11 ?c11 ?k11 ?a12 ?l12 ?c12 ?k12 ?a13 ?l13 ?c13 ?k13 ?a14 ?l14 ?c14 ?k14 ?a15 ?l15 ?c15 ?k15 ?z0 ?z1 ?z2 ?z3 ?z4 ?z5 ?z6 ?z7 ?z8 ?z9 ?z10 ?z11 ?z12 ?z13 ?ac_TurnError ?xb_TurnError ?xt_TurnError ?xd_TurnError ?ac_NoPaper ?xb_NoPaper ?xt_NoPaper ?xd_NoPaper ?xl_NoPaper ?xs_NoPaper ?xk_NoPaper ?xn_NoPaper_0 ?xn_NoPaper_1 ?xi_NoPaper ?xy_NoPaper ?xf_NoPaper ?xc_NoPaper ?xg_NoPaper ?xga_NoPaper ?xgg_NoPaper ?xca_NoPaper ?xcm_NoPaper ?xcn ?xct ?xfn_NoPaper_place ?xfn_NoPaper_word ?xsb_NoPaper_ValueError ?xis_NoPaper_NoPaper ?xp_NoPaper_TurnError
    (case a1 => k_is)
    (case l1 => k_is)
    (case c1 => k_is)
    (case k1 => k_is)
    (case a2 => k_is)
    (case l2 => k_is)
    (case c2 => k_is)
    (case k2 => k_is)
    (case a3 => k_is)
    (case l3 => k_is)
    (case c3 => k_is)
    (case k3 => k_is)
    (case a4 => k_is)
    (case l4 => k_is)
    (case c4 => k_is)
    (case k4 => k_is)
    (case a5 => k_is)
    (case l5 => k_is)
    (case c5 => k_is)
    (case k5 => k_is)
    (case a6 => k_is)
    (case l6 => k_is)
    (case c6 => k_is)
    (case k6 => k_is)
    (case a7 => k_is)
    (case l7 => k_is)
    (case c7 => k_is)
    (case k7 => k_is)
    (case a8 => k_is)
    (case l8 => k_is)
    (case c8 => k_is)
    (case k8 => k_is)
    (case a9 => k_is)
    (case l9 => k_is)
    (case c9 => k_is)
    (case k9 => k_is)
    (case a10 => k_is)
    (case l10 => k_is)
    (case c10 => k_is)
    (case k10 => k_is)
    (case a11 => k_is)
    (case l11 => k_is)
    (case c11 => k_is)
    (case k11 => k_is)
    (case a12 => k_is)
    (case l12 => k_is)
    (case c12 => k_is)
    (case k12 => k_is)
    (case a13 => k_is)
    (case l13 => k_is)
    (case c13 => k_is)
    (case k13 => k_is)
    (case a14 => k_is)
    (case l14 => k_is)
    (case c14 => k_is)
    (case k14 => k_is)
    (case a15 => k_is)
    (case l15 => k_is)
    (case c15 => k_is)
    (case k15 => k_is)
    (case z0 => k_is)
    (case z1 => k_is)
    (case z2 => k_is)
    (case z3 => k_is)
    (case z4 => k_is)
    (case z5 => k_is)
    (case z6 => k_is)
    (case z7 => k_is)
    (case z8 => k_is)
    (case z9 => k_is)
    (case z10 => k_is)
    (case z11 => k_is)
    (case z12 => k_is)
    (case z13 => k_is)
    (case ac_TurnError => k_is)
    (case xb_TurnError => k_is)
    (case xt_TurnError => k_is)
    (case xd_TurnError => k_is)
    (case ac_NoPaper => k_is)
    (case xb_NoPaper => k_is)
    (case xt_NoPaper => k_is)
    (case xd_NoPaper => k_is)
    (case xl_NoPaper => k_is)
    (case xs_NoPaper => k_is)
    (case xk_NoPaper => k_is)
    (case xn_NoPaper_0 => k_is)
    (case xn_NoPaper_1 => k_is)
    (case xi_NoPaper => k_is)
    (case xy_NoPaper => k_is)
    (case xf_NoPaper => k_is)
    (case xc_NoPaper => k_is)
    (case xg_NoPaper => k_is)
    (case xga_NoPaper => k_is)
    (case xgg_NoPaper => k_is)
    (case xca_NoPaper => k_is)
    (case xcm_NoPaper => k_is)
    (case xcn => k_is)
    (case xct => k_is)
    (case xfn_NoPaper_place => k_is)
    (case xfn_NoPaper_word => k_is)
    (case xsb_NoPaper_ValueError => k_is)
    (case xis_NoPaper_NoPaper => k_is)
    (case xp_NoPaper_TurnError => k_is)
