import PyProof.Rows.All
import Wide.All
import OpenK.AllK
import Wide.FinOn
import HandS.ForMost
import HandS.Exc
import HandS.ExcOwn
import HandS.TryOnly
import HandS.TryMany
import HandS.WordsExc
import HandS.IsInst
import HandS.Wide
import HandS.Property
import KE.DataEq
import HandS.ExcIs
import HandS.Defaults
import HandS.More
import HandS.TupLen
import HandS.DictTup
import HandS.Iter
import HandS.Comp
import HandS.TupAny
import HandS.TupSets
import HandS.Conv
import HandS.Deep
import HandS.SetFor
import HandS.DictComp
import HandS.Style
import HandS.SortInts
import HandS.SortKw
import HandS.Codes
import HandS.CallLocal
import KE.DataFind
import PyProof.DictMoreH
import HandS.SortRule
import HandS.MakeKwOnly
import PySem.Challenge.RW_farheap_k08_make_assign_reset_look
set_option Elab.async false
set_option linter.all false
set_option maxRecDepth 100000
set_option maxHeartbeats 4000000
/-! LL: a logical layer over the hand layer. Objects have names (with a version), tuples are plain values. -/
namespace LL
open PySem L2

/-- names inside a world -/
inductive WN where
  | world | sites | net | packets | waves | others | noted (c : Nat)
  | site (i : Nat) | vars (i : Nat) | inbox (i : Nat) | marks (i : Nat) | contents (i : Nat) | obj (i n : Nat)
  | parcels (i : Nat) | questions (i : Nat) | arrivals (i : Nat) | holdings (i : Nat) | entries (i : Nat) | needed (i c : Nat)
  | outg (i : Nat) | incg (i : Nat) | out (i j : Nat) | wait (i j a : Nat) | inc (i j : Nat)
  deriving DecidableEq
/-- names of objects: of the k-th world; of the law; any other -/
inductive Nm where
  | w (k : Nat) (n : WN) | x (p : List Nat) | a (k : Nat)
  deriving DecidableEq

/-- logical values -/
inductive LV where
  | non | bl (b : Bool) | int (i : Int) | str (x : Str) | tup (xs : List LV) | loc (n : Nm) (v : Nat) | rol (ns : List Int) | ref (a : Addr) | ty (n : String)
/-- logical objects -/
inductive LO where
  | lst (xs : List LV) | dK (kvs : List (Key × LV)) | dT (kvs : List (List Key × LV)) | ins (C : Addr) (fs : List (Str × LV)) | fz (o : LO) (ob : Obj) (w : HO)
abbrev LH := Nm → Option (Nat × LO)
def LH.set (h : LH) (n : Nm) (v : Nat) (o : LO) : LH := fun m => if m = n then some (v, o) else h m
def LH.del (h : LH) (n : Nm) : LH := fun m => if m = n then none else h m
def LH.le (h g : LH) : Prop := ∀ n p, h n = some p → g n = some p

theorem LH.set_same {h : LH} {n : Nm} {v : Nat} {o : LO} : h.set n v o n = some (v, o) := by unfold LH.set; rw [if_pos rfl]
theorem LH.set_ne {h : LH} {n m : Nm} {v : Nat} {o : LO} (e : m ≠ n) : h.set n v o m = h m := by unfold LH.set; rw [if_neg e]
theorem LH.set_set {h : LH} {n : Nm} {v w : Nat} {o u : LO} : (h.set n v o).set n w u = h.set n w u := by
  funext m; unfold LH.set; split <;> rfl
theorem LH.del_same {h : LH} {n : Nm} : h.del n n = none := by unfold LH.del; rw [if_pos rfl]
theorem LH.del_ne {h : LH} {n m : Nm} (e : m ≠ n) : h.del n m = h m := by unfold LH.del; rw [if_neg e]
theorem LH.del_set {h : LH} {n : Nm} {v : Nat} {o : LO} (e : h n = none) : (h.set n v o).del n = h := by
  funext m; unfold LH.set LH.del; split <;> simp_all
theorem LH.set_self {h : LH} {n : Nm} {v : Nat} {o : LO} (e : h n = some (v, o)) : h.set n v o = h := by
  funext m; unfold LH.set; split <;> simp_all
theorem LH.set_comm {h : LH} {n m : Nm} {v w : Nat} {o u : LO} (e : n ≠ m) : (h.set n v o).set m w u = (h.set m w u).set n v o := by
  funext k; unfold LH.set; by_cases h1 : k = m <;> by_cases h2 : k = n <;> simp_all
theorem LH.le_refl (h : LH) : h.le h := fun _ _ e => e
theorem LH.le_trans {a b c : LH} (x : a.le b) (y : b.le c) : a.le c := fun n p e => y n p (x n p e)
theorem LH.del_le (h : LH) (n : Nm) : (h.del n).le h := fun m p e => by
  unfold LH.del at e; split at e
  · cases e
  · exact e
theorem LH.le_set {h : LH} {n : Nm} {v : Nat} {o : LO} (e : h n = none) : h.le (h.set n v o) := fun m p q => by
  unfold LH.set; split
  · subst_vars; rw [e] at q; cases q
  · exact q

/-- where the names are, and the abstract heap -/
structure Lay where
  l : Nm × Nat → Option Addr
  H : Hp
/-- a read-only list (the script) -/
def RoL (K : PySem.W.Frag) (H : Hp) (a : Addr) (xs : List V) : Prop :=
  (∃ o, H a = some (.frz o (.lst xs))) ∨
    ∃ (o : Obj) (its : Array Value) (n : Nat), K.lookup a = some o ∧ o.cls = .type "list" ∧ o.dict = none ∧ o.data = .seq its n ∧ its.size ≤ sizeLine ∧ Vals xs its.toList
structure Ext (m m' : Lay) : Prop where
  l : ∀ p a, m.l p = some a → m'.l p = some a
  t : ∀ a xs, m.H a = some (.tup xs) → m'.H a = some (.tup xs)
  f : ∀ a o xs, m.H a = some (.frz o (.lst xs)) → m'.H a = some (.frz o (.lst xs))
theorem Ext.refl (m : Lay) : Ext m m := ⟨fun _ _ e => e, fun _ _ e => e, fun _ _ _ e => e⟩
theorem Ext.trans {a b c : Lay} (x : Ext a b) (y : Ext b c) : Ext a c := ⟨fun p q e => y.l p q (x.l p q e), fun p q e => y.t p q (x.t p q e), fun p o q e => y.f p o q (x.f p o q e)⟩
theorem RoL.mono {K : PySem.W.Frag} {m m' : Lay} {a : Addr} {xs : List V} (e : Ext m m') (h : RoL K m.H a xs) : RoL K m'.H a xs := by
  rcases h with ⟨o, h⟩ | h
  · exact .inl ⟨o, e.f _ _ _ h⟩
  · exact .inr h
theorem RoL.sq {K : PySem.W.Frag} {H : Hp} {a : Addr} {xs : List V} (h : RoL K H a xs) : SqL K H a xs := by
  rcases h with ⟨o, h⟩ | h
  · exact .inl (.inr ⟨o, h⟩)
  · exact .inr h

mutual
def VRel (K : PySem.W.Frag) (m : Lay) : LV → V → Prop
  | .non, v => v = .non
  | .bl b, v => v = .bl b
  | .int i, v => v = .int i
  | .str x, v => v = .str x
  | .tup xs, v => ∃ a vs, v = .ref a ∧ m.H a = some (.tup vs) ∧ VRels K m xs vs
  | .loc n k, v => ∃ a, v = .ref a ∧ m.l (n, k) = some a
  | .rol ns, v => ∃ a, v = .ref a ∧ RoL K m.H a (ns.map V.int)
  | .ref a, v => v = .ref a
  | .ty n, v => v = .ty n
def VRels (K : PySem.W.Frag) (m : Lay) : List LV → List V → Prop
  | [], vs => vs = []
  | x :: xs, vs => ∃ v ws, vs = v :: ws ∧ VRel K m x v ∧ VRels K m xs ws
end
section
variable {K : PySem.W.Frag} {m m' : Lay}
mutual
theorem VRel.mono (e : Ext m m') : ∀ {x : LV} {v : V}, VRel K m x v → VRel K m' x v
  | .non, _, h => h
  | .bl _, _, h => h
  | .int _, _, h => h
  | .str _, _, h => h
  | .tup _, _, ⟨a, vs, e1, e2, h⟩ => ⟨a, vs, e1, e.t _ _ e2, VRels.mono e h⟩
  | .loc _ _, _, ⟨a, e1, e2⟩ => ⟨a, e1, e.l _ _ e2⟩
  | .rol _, _, ⟨a, e1, e2⟩ => ⟨a, e1, e2.mono e⟩
  | .ref _, _, h => h
  | .ty _, _, h => h
theorem VRels.mono (e : Ext m m') : ∀ {xs : List LV} {vs : List V}, VRels K m xs vs → VRels K m' xs vs
  | [], _, h => h
  | _ :: _, _, ⟨v, ws, e1, h, t⟩ => ⟨v, ws, e1, VRel.mono e h, VRels.mono e t⟩
end
theorem VRels.nil : VRels K m [] [] := rfl
theorem VRels.cons {x : LV} {v : V} {xs : List LV} {vs : List V} (h : VRel K m x v) (t : VRels K m xs vs) : VRels K m (x :: xs) (v :: vs) := ⟨v, vs, rfl, h, t⟩
theorem VRels.length : ∀ {xs : List LV} {vs : List V}, VRels K m xs vs → vs.length = xs.length
  | [], _, h => by cases (show _ = [] from h); rfl
  | _ :: _, _, ⟨v, ws, e1, h, t⟩ => by subst e1; simp [VRels.length t]
theorem VRels.get : ∀ {xs : List LV} {vs : List V} {i : Nat} {x : LV}, VRels K m xs vs → xs[i]? = some x → ∃ v, vs[i]? = some v ∧ VRel K m x v
  | [], _, _, _, _, e => by simp at e
  | _ :: _, _, 0, _, ⟨v, ws, e1, h, t⟩, e => by subst e1; simp at e; subst e; exact ⟨v, rfl, h⟩
  | _ :: _, _, i + 1, _, ⟨v, ws, e1, h, t⟩, e => by
    subst e1
    obtain ⟨u, h1, h2⟩ := VRels.get t (i := i) (by simpa using e)
    exact ⟨u, by simpa using h1, h2⟩
theorem VRels.get' : ∀ {xs : List LV} {vs : List V} {i : Nat} {v : V}, VRels K m xs vs → vs[i]? = some v → ∃ x, xs[i]? = some x ∧ VRel K m x v
  | [], _, _, _, h, e => by cases (show _ = [] from h); simp at e
  | _ :: _, _, 0, _, ⟨v, ws, e1, h, t⟩, e => by subst e1; simp at e; subst e; exact ⟨_, rfl, h⟩
  | _ :: _, _, i + 1, _, ⟨v, ws, e1, h, t⟩, e => by
    subst e1
    obtain ⟨u, h1, h2⟩ := VRels.get' t (i := i) (by simpa using e)
    exact ⟨u, by simpa using h1, h2⟩
theorem VRels.set {x : LV} {v : V} (r : VRel K m x v) : ∀ {xs : List LV} {vs : List V} (i : Nat), VRels K m xs vs → VRels K m (xs.set i x) (vs.set i v)
  | [], _, _, h => by cases (show _ = [] from h); rfl
  | _ :: _, _, 0, ⟨w, ws, e1, h, t⟩ => by subst e1; exact .cons r t
  | _ :: _, _, i + 1, ⟨w, ws, e1, h, t⟩ => by subst e1; exact .cons h (VRels.set r i t)
theorem VRels.append : ∀ {xs ys : List LV} {vs ws : List V}, VRels K m xs vs → VRels K m ys ws → VRels K m (xs ++ ys) (vs ++ ws)
  | [], _, _, _, h, q => by cases (show _ = [] from h); exact q
  | _ :: _, _, _, _, ⟨w, ws, e1, h, t⟩, q => by subst e1; exact .cons h (VRels.append t q)
theorem VRels.take : ∀ {xs : List LV} {vs : List V} (n : Nat), VRels K m xs vs → VRels K m (xs.take n) (vs.take n)
  | [], _, _, h => by cases (show _ = [] from h); simp; rfl
  | _ :: _, _, 0, ⟨w, ws, e1, h, t⟩ => by subst e1; exact .nil
  | _ :: _, _, i + 1, ⟨w, ws, e1, h, t⟩ => by subst e1; exact .cons h (VRels.take i t)
theorem VRels.drop : ∀ {xs : List LV} {vs : List V} (n : Nat), VRels K m xs vs → VRels K m (xs.drop n) (vs.drop n)
  | [], _, _, h => by cases (show _ = [] from h); simp; rfl
  | _ :: _, _, 0, ⟨w, ws, e1, h, t⟩ => by subst e1; exact .cons h t
  | _ :: _, _, i + 1, ⟨w, ws, e1, h, t⟩ => by subst e1; exact VRels.drop i t
theorem VRels.eraseIdx : ∀ {xs : List LV} {vs : List V} (n : Nat), VRels K m xs vs → VRels K m (xs.eraseIdx n) (vs.eraseIdx n)
  | [], _, _, h => by cases (show _ = [] from h); rfl
  | _ :: _, _, 0, ⟨w, ws, e1, h, t⟩ => by subst e1; exact t
  | _ :: _, _, i + 1, ⟨w, ws, e1, h, t⟩ => by subst e1; exact .cons h (VRels.eraseIdx i t)
theorem VRels.reverse : ∀ {xs : List LV} {vs : List V}, VRels K m xs vs → VRels K m xs.reverse vs.reverse
  | [], _, h => by cases (show _ = [] from h); rfl
  | _ :: _, _, ⟨w, ws, e1, h, t⟩ => by subst e1; simp only [List.reverse_cons]; exact (VRels.reverse t).append (.cons h .nil)
theorem VRels.ints (ns : List Int) : VRels K m (ns.map LV.int) (ns.map V.int) := by
  induction ns with
  | nil => rfl
  | cons n r ih => exact .cons rfl ih
theorem VRels.ints_inv : ∀ {ns : List Int} {vs : List V}, VRels K m (ns.map LV.int) vs → vs = ns.map V.int
  | [], _, h => h
  | _ :: _, _, ⟨v, ws, e1, h, t⟩ => by subst e1; cases (show _ = V.int _ from h); simp [VRels.ints_inv t]
theorem VRels.rep {x : LV} {v : V} (h : VRel K m x v) : ∀ n : Nat, VRels K m (List.replicate n x) (List.replicate n v)
  | 0 => rfl
  | n + 1 => .cons h (VRels.rep h n)

/-- pairs with keys -/
def KVR {κ : Type} (K : PySem.W.Frag) (m : Lay) : List (κ × LV) → List (κ × V) → Prop
  | [], vs => vs = []
  | x :: xs, vs => ∃ v ws, vs = (x.1, v) :: ws ∧ VRel K m x.2 v ∧ KVR K m xs ws
def ORel (K : PySem.W.Frag) (m : Lay) : LO → HO → Prop
  | .lst xs, o => ∃ vs, o = .lst vs ∧ VRels K m xs vs
  | .dK xs, o => ∃ vs, o = .dK vs ∧ KVR K m xs vs
  | .dT xs, o => ∃ vs, o = .dT vs ∧ KVR K m xs vs
  | .ins C fs, o => ∃ dx vs, o = .ins C dx vs ∧ KVR K m fs vs
  | .fz u ob w, o => o = .frz ob w ∧ (∀ xs, w ≠ .lst xs) ∧ ORel K m u w
theorem KVR.mono {κ : Type} (e : Ext m m') : ∀ {xs : List (κ × LV)} {vs : List (κ × V)}, KVR K m xs vs → KVR K m' xs vs
  | [], _, h => h
  | _ :: _, _, ⟨v, ws, e1, h, t⟩ => ⟨v, ws, e1, h.mono e, KVR.mono e t⟩
theorem ORel.mono (e : Ext m m') : ∀ {o : LO} {u : HO}, ORel K m o u → ORel K m' o u
  | .lst _, _, ⟨vs, e1, h⟩ => ⟨vs, e1, h.mono e⟩
  | .dK _, _, ⟨vs, e1, h⟩ => ⟨vs, e1, h.mono e⟩
  | .dT _, _, ⟨vs, e1, h⟩ => ⟨vs, e1, h.mono e⟩
  | .ins _ _, _, ⟨dx, vs, e1, h⟩ => ⟨dx, vs, e1, h.mono e⟩
  | .fz _ _ _, _, ⟨e1, nl, h⟩ => ⟨e1, nl, ORel.mono e h⟩
/-- such an object is no tuple, no read-only list -/
theorem ORel.notup : ∀ {o : LO} {u : HO}, ORel K m o u → (∀ xs, u ≠ .tup xs) ∧ ∀ ob xs, u ≠ .frz ob (.lst xs)
  | .lst _, _, ⟨vs, e1, h⟩ => by subst e1; exact ⟨fun _ z => (by cases z), fun _ _ z => (by cases z)⟩
  | .dK _, _, ⟨vs, e1, h⟩ => by subst e1; exact ⟨fun _ z => (by cases z), fun _ _ z => (by cases z)⟩
  | .dT _, _, ⟨vs, e1, h⟩ => by subst e1; exact ⟨fun _ z => (by cases z), fun _ _ z => (by cases z)⟩
  | .ins _ _, _, ⟨dx, vs, e1, h⟩ => by subst e1; exact ⟨fun _ z => (by cases z), fun _ _ z => (by cases z)⟩
  | .fz _ _ _, _, ⟨e1, nl, h⟩ => by subst e1; exact ⟨fun _ z => (by cases z), fun _ xs z => (by cases z; exact nl _ rfl)⟩
end

structure R (K : PySem.W.Frag) (m : Lay) (h : LH) : Prop where
  obj : ∀ n v o, h n = some (v, o) → ∃ a u, m.l (n, v) = some a ∧ m.H a = some u ∧ ORel K m o u
  inj : ∀ p q a, m.l p = some a → m.l q = some a → p = q
  fin : ∀ n, ∃ B, ∀ v, B ≤ v → m.l (n, v) = none
  anon : ∃ B, ∀ k v, B ≤ k → m.l (.a k, v) = none
  known : ∀ p a, m.l p = some a → m.H a ≠ none
section
variable {K : PySem.W.Frag} {m m' : Lay} {h h' : LH}
theorem R.le (r : R K m h) (e : h'.le h) : R K m h' := ⟨fun n v o q => r.obj n v o (e n _ q), r.inj, r.fin, r.anon, r.known⟩
/-- the object at a name is written -/
theorem R.write (r : R K m h) {n : Nm} {v : Nat} {o o' : LO} {a : Addr} {u : HO} (hn : h n = some (v, o)) (ha : m.l (n, v) = some a) (ho : ORel K m o' u) :
    Ext m ⟨m.l, upd m.H a u⟩ ∧ R K ⟨m.l, upd m.H a u⟩ (h.set n v o') := by
  obtain ⟨a', u0, e1, e2, q⟩ := r.obj n v o hn
  rw [ha] at e1; cases e1
  have ex : Ext m ⟨m.l, upd m.H a u⟩ := ⟨fun _ _ e => e, fun b xs e => by
      show upd m.H a u b = _
      rw [upd_ne (fun z => by subst z; rw [e2] at e; cases e; exact q.notup.1 _ rfl)]; exact e,
    fun b ob xs e => by
      show upd m.H a u b = _
      rw [upd_ne (fun z => by subst z; rw [e2] at e; cases e; exact q.notup.2 _ _ rfl)]; exact e⟩
  refine ⟨ex, fun n' v' o1 q1 => ?_, r.inj, r.fin, r.anon, fun p b e => ?_⟩
  · by_cases hh : n' = n
    · subst hh
      rw [LH.set_same] at q1; cases q1
      exact ⟨a, u, ha, upd_same, ho.mono ex⟩
    · rw [LH.set_ne hh] at q1
      obtain ⟨b, u1, e3, e4, q2⟩ := r.obj n' v' o1 q1
      refine ⟨b, u1, e3, ?_, q2.mono ex⟩
      show upd m.H a u b = _
      rw [upd_ne (fun z => hh (by subst z; exact congrArg Prod.fst (r.inj _ _ _ e3 ha)))]; exact e4
  · show upd m.H a u b ≠ none
    by_cases hb : b = a
    · rw [hb, upd_same]; intro z; cases z
    · rw [upd_ne hb]; exact r.known p b e
/-- the abstract heap alone has grown -/
theorem R.grown (r : R K m h) {H' : Hp} (ex : ∀ a u, m.H a = some u → H' a = some u) : Ext m ⟨m.l, H'⟩ ∧ R K ⟨m.l, H'⟩ h := by
  have e : Ext m ⟨m.l, H'⟩ := ⟨fun _ _ e => e, fun _ _ e => ex _ _ e, fun _ _ _ e => ex _ _ e⟩
  refine ⟨e, fun n v o q => ?_, r.inj, r.fin, r.anon, fun p a q => ?_⟩
  · obtain ⟨a, u, e1, e2, q2⟩ := r.obj n v o q
    exact ⟨a, u, e1, ex _ _ e2, q2.mono e⟩
  · show H' a ≠ none
    cases z : m.H a with
    | none => exact absurd z (r.known p a q)
    | some u => rw [ex _ _ z]; intro y; cases y
theorem ex_upd {H : Hp} {p : Addr} {o : HO} (hp : H p = none) : ∀ a u, H a = some u → upd H p o a = some u := fun a u e => by
  rw [upd_ne (ne_of_none e hp)]; exact e
/-- a new object is named -/
theorem R.name (r : R K m h) {n : Nm} {o : LO} {p : Addr} {u : HO} (hn : h n = none) (hp : m.H p = some u) (hf : ∀ q, m.l q ≠ some p) (ho : ORel K m o u) :
    ∃ v, Ext m ⟨fun q => if q = (n, v) then some p else m.l q, m.H⟩ ∧ R K ⟨fun q => if q = (n, v) then some p else m.l q, m.H⟩ (h.set n v o) := by
  obtain ⟨B, hB⟩ := r.fin n
  have hl : m.l (n, B) = none := hB B (Nat.le_refl _)
  have ex : Ext m ⟨fun q => if q = (n, B) then some p else m.l q, m.H⟩ := ⟨fun q a e => by
    show (if q = (n, B) then some p else m.l q) = some a
    rw [if_neg (fun z => by subst z; rw [hl] at e; cases e)]; exact e, fun _ _ e => e, fun _ _ _ e => e⟩
  refine ⟨B, ex, fun n' v' o1 q1 => ?_, fun x y a e1 e2 => ?_, fun n' => ?_, ?_, fun q a e => ?_⟩
  · by_cases hh : n' = n
    · subst hh
      rw [LH.set_same] at q1; cases q1
      exact ⟨p, u, by show (if _ then _ else _) = _; rw [if_pos rfl], hp, ho.mono ex⟩
    · rw [LH.set_ne hh] at q1
      obtain ⟨b, u1, e3, e4, q2⟩ := r.obj n' v' o1 q1
      exact ⟨b, u1, ex.l _ _ e3, e4, q2.mono ex⟩
  · have e1 : (if x = (n, B) then some p else m.l x) = some a := e1
    have e2 : (if y = (n, B) then some p else m.l y) = some a := e2
    by_cases h1 : x = (n, B) <;> by_cases h2 : y = (n, B)
    · rw [h1, h2]
    · rw [if_pos h1] at e1; rw [if_neg h2] at e2; cases e1; exact absurd e2 (hf y)
    · rw [if_neg h1] at e1; rw [if_pos h2] at e2; cases e2; exact absurd e1 (hf x)
    · rw [if_neg h1] at e1; rw [if_neg h2] at e2; exact r.inj x y a e1 e2
  · obtain ⟨B', hB'⟩ := r.fin n'
    refine ⟨max B' (B + 1), fun v hv => ?_⟩
    show (if (n', v) = (n, B) then some p else m.l (n', v)) = none
    rw [if_neg (fun z => by cases z; omega)]
    exact hB' v (by omega)
  · obtain ⟨B', hB'⟩ := r.anon
    refine ⟨(match n with | .a k => max B' (k + 1) | _ => B'), fun k v hk => ?_⟩
    show (if (Nm.a k, v) = (n, B) then some p else m.l (Nm.a k, v)) = none
    rw [if_neg (fun z => by cases z; simp only at hk; omega)]
    refine hB' k v (Nat.le_trans ?_ hk)
    split <;> omega
  · have e : (if q = (n, B) then some p else m.l q) = some a := e
    show m.H a ≠ none
    by_cases h1 : q = (n, B)
    · rw [if_pos h1] at e; cases e; rw [hp]; intro z; cases z
    · rw [if_neg h1] at e; exact r.known q a e
theorem R.free (r : R K m h) {p : Addr} (hp : m.H p = none) : ∀ q, m.l q ≠ some p := fun q e => r.known q p e hp
/-- a new object is laid at p and named -/
theorem R.new (r : R K m h) {n : Nm} {o : LO} {p : Addr} {u : HO} (hn : h n = none) (hp : m.H p = none) (ho : ∀ m', Ext m m' → ORel K m' o u) :
    ∃ m' v, m'.H = upd m.H p u ∧ Ext m m' ∧ R K m' (h.set n v o) ∧ m'.l (n, v) = some p := by
  obtain ⟨e1, r1⟩ := r.grown (ex_upd (o := u) hp)
  obtain ⟨v, e2, r2⟩ := r1.name (n := n) (o := o) (p := p) (u := u) hn upd_same (r.free hp) (ho _ e1)
  exact ⟨_, v, rfl, e1.trans e2, r2, by show (if _ then _ else _) = _; rw [if_pos rfl]⟩
/-- there is a name that is not in use -/
theorem R.fresh (r : R K m h) : ∃ k, h (.a k) = none := by
  obtain ⟨B, hB⟩ := r.anon
  refine ⟨B, ?_⟩
  cases e : h (.a B) with
  | none => rfl
  | some p =>
    obtain ⟨a, u, e1, _⟩ := r.obj (.a B) p.1 p.2 e
    rw [hB B p.1 (Nat.le_refl _)] at e1; cases e1
end
end LL

namespace LL
open PySem L2

/-! ### slots -/
abbrev LSt := List (Option LV)
def SRel (K : PySem.W.Frag) (m : Lay) : LSt → St → Prop
  | [], vs => vs = []
  | none :: xs, vs => ∃ v ws, vs = v :: ws ∧ SRel K m xs ws
  | some x :: xs, vs => ∃ v ws, vs = some v :: ws ∧ VRel K m x v ∧ SRel K m xs ws
section
variable {K : PySem.W.Frag} {m m' : Lay}
theorem SRel.mono (e : Ext m m') : ∀ {s : LSt} {σ : St}, SRel K m s σ → SRel K m' s σ
  | [], _, h => h
  | none :: _, _, ⟨v, ws, e1, t⟩ => ⟨v, ws, e1, SRel.mono e t⟩
  | some _ :: _, _, ⟨v, ws, e1, h, t⟩ => ⟨v, ws, e1, h.mono e, SRel.mono e t⟩
theorem SRel.get : ∀ {s : LSt} {σ : St} {i : Nat} {x : LV}, SRel K m s σ → s[i]? = some (some x) → ∃ v, σ[i]? = some (some v) ∧ VRel K m x v
  | [], _, _, _, _, e => by simp at e
  | none :: _, _, 0, _, _, e => by simp at e
  | some _ :: _, _, 0, _, ⟨v, ws, e1, h, t⟩, e => by subst e1; simp at e; subst e; exact ⟨v, rfl, h⟩
  | none :: _, _, i + 1, _, ⟨v, ws, e1, t⟩, e => by
    subst e1; obtain ⟨u, h1, h2⟩ := SRel.get t (i := i) (by simpa using e); exact ⟨u, by simpa using h1, h2⟩
  | some _ :: _, _, i + 1, _, ⟨v, ws, e1, h, t⟩, e => by
    subst e1; obtain ⟨u, h1, h2⟩ := SRel.get t (i := i) (by simpa using e); exact ⟨u, by simpa using h1, h2⟩
theorem SRel.set {x : LV} {v : V} (r : VRel K m x v) : ∀ {s : LSt} {σ : St} (i : Nat), SRel K m s σ → SRel K m (s.set i (some x)) (σ.set i (some v))
  | [], _, _, h => by cases (show _ = [] from h); rfl
  | none :: _, _, 0, ⟨v, ws, e1, t⟩ => by subst e1; exact ⟨_, _, rfl, r, t⟩
  | some _ :: _, _, 0, ⟨v, ws, e1, h, t⟩ => by subst e1; exact ⟨_, _, rfl, r, t⟩
  | none :: _, _, i + 1, ⟨v, ws, e1, t⟩ => by subst e1; exact ⟨_, _, rfl, SRel.set r i t⟩
  | some _ :: _, _, i + 1, ⟨v, ws, e1, h, t⟩ => by subst e1; exact ⟨_, _, rfl, h, SRel.set r i t⟩
theorem SRel.forget : ∀ {s : LSt} {σ : St} (i : Nat) (v : Option V), SRel K m s σ → SRel K m (s.set i none) (σ.set i v)
  | [], _, _, _, h => by cases (show _ = [] from h); rfl
  | none :: _, _, 0, _, ⟨v, ws, e1, t⟩ => by subst e1; exact ⟨_, _, rfl, t⟩
  | some _ :: _, _, 0, _, ⟨v, ws, e1, h, t⟩ => by subst e1; exact ⟨_, _, rfl, t⟩
  | none :: _, _, i + 1, u, ⟨v, ws, e1, t⟩ => by subst e1; exact ⟨_, _, rfl, SRel.forget i u t⟩
  | some _ :: _, _, i + 1, u, ⟨v, ws, e1, h, t⟩ => by subst e1; exact ⟨_, _, rfl, h, SRel.forget i u t⟩
theorem SRel.start : ∀ {xs : List LV} {vs : List V} (n : Nat), VRels K m xs vs → SRel K m (xs.map some ++ List.replicate n none) (vs.map some ++ List.replicate n none)
  | [], _, n, h => by
    cases (show _ = [] from h)
    show SRel K m (List.replicate n none) (List.replicate n none)
    induction n with
    | zero => rfl
    | succ n ih => exact ⟨none, _, rfl, ih⟩
  | _ :: _, _, n, ⟨v, ws, e1, h, t⟩ => by subst e1; exact ⟨_, _, rfl, h, SRel.start n t⟩
theorem SRel.length : ∀ {s : LSt} {σ : St}, SRel K m s σ → σ.length = s.length
  | [], _, h => by cases (show _ = [] from h); rfl
  | none :: _, _, ⟨v, ws, e1, t⟩ => by subst e1; simp [SRel.length t]
  | some _ :: _, _, ⟨v, ws, e1, h, t⟩ => by subst e1; simp [SRel.length t]
/-- slots forgotten -/
def LSt.le (s' s : LSt) : Prop := s'.length = s.length ∧ ∀ (i : Nat) x, s'[i]? = some (some x) → s[i]? = some (some x)
theorem SRel.of : ∀ {s : LSt} {σ : St}, s.length = σ.length → (∀ (i : Nat) x, s[i]? = some (some x) → ∃ v, σ[i]? = some (some v) ∧ VRel K m x v) → SRel K m s σ
  | [], σ, hl, _ => by cases σ with
    | nil => rfl
    | cons => simp at hl
  | none :: xs, σ, hl, h => by
    cases σ with
    | nil => simp at hl
    | cons v ws => exact ⟨v, ws, rfl, SRel.of (by simpa using hl) fun i x e => by simpa using h (i + 1) x (by simpa using e)⟩
  | some y :: xs, σ, hl, h => by
    cases σ with
    | nil => simp at hl
    | cons v ws =>
      obtain ⟨u, e1, e2⟩ := h 0 y rfl
      have e1 : v = some u := by simpa using e1
      subst e1
      exact ⟨u, ws, rfl, e2, SRel.of (by simpa using hl) fun i x e => by simpa using h (i + 1) x (by simpa using e)⟩
theorem SRel.le {s s' : LSt} {σ : St} (h : SRel K m s σ) (e : s'.le s) : SRel K m s' σ :=
  SRel.of (by rw [h.length]; exact e.1) fun i x q => h.get (e.2 i x q)
end

/-! ### the lifted judgements -/
abbrev LQ := LV → LH → Prop
abbrev LX := Addr → LH → Prop
abbrev LTE := LSt → LH → LQ → LX → Prop
abbrev LTT := LSt → LH → (Bool → LH → Prop) → LX → Prop
abbrev LTA := LSt → LH → (List LV → LH → Prop) → LX → Prop
section
variable (K : PySem.W.Frag) (m : Lay)
def CQ (QL : LQ) (Q : VK) : Prop := ∀ m' h' x v, Ext m m' → R K m' h' → VRel K m' x v → QL x h' → Q v m'.H
def CB (QL : Bool → LH → Prop) (Q : Bool → Hp → Prop) : Prop := ∀ m' h' b, Ext m m' → R K m' h' → QL b h' → Q b m'.H
def CA (n : Nat) (QL : List LV → LH → Prop) (Q : List V → Hp → Prop) : Prop := ∀ m' h' xs vs, Ext m m' → R K m' h' → VRels K m' xs vs → xs.length = n → QL xs h' → Q vs m'.H
def CE (XL : LX) (E : XK) : Prop := ∀ m' h' c, Ext m m' → R K m' h' → XL c h' → E (.ref c) none m'.H
end
abbrev WE (W : WX) (σ : St) : XK := fun c d H => W c d σ H
section
variable (K : PySem.W.Frag) (W : WX)
def upE (t : LTE) : TE := fun σ H Q => ∃ m h s QL XL, m.H = H ∧ R K m h ∧ SRel K m s σ ∧ t s h QL XL ∧ CQ K m QL Q ∧ CE K m XL (WE W σ)
def upT (t : LTT) : TT := fun σ H Q => ∃ m h s QL XL, m.H = H ∧ R K m h ∧ SRel K m s σ ∧ t s h QL XL ∧ CB K m QL Q ∧ CE K m XL (WE W σ)
def upA (n : Nat) (t : LTA) : TA := fun σ H Q => ∃ m h s QL XL, m.H = H ∧ R K m h ∧ SRel K m s σ ∧ t s h QL XL ∧ CA K m n QL Q ∧ CE K m XL (WE W σ)
end
section
variable {K : PySem.W.Frag} {m m' : Lay} {W : WX}
theorem CQ.mono {QL : LQ} {Q : VK} (c : CQ K m QL Q) (e : Ext m m') : CQ K m' QL Q := fun m2 h2 x v e2 => c m2 h2 x v (e.trans e2)
theorem CB.mono {QL : Bool → LH → Prop} {Q : Bool → Hp → Prop} (c : CB K m QL Q) (e : Ext m m') : CB K m' QL Q := fun m2 h2 b e2 => c m2 h2 b (e.trans e2)
theorem CA.mono {n : Nat} {QL : List LV → LH → Prop} {Q : List V → Hp → Prop} (c : CA K m n QL Q) (e : Ext m m') : CA K m' n QL Q := fun m2 h2 x v e2 => c m2 h2 x v (e.trans e2)
theorem CE.mono {XL : LX} {E : XK} (c : CE K m XL E) (e : Ext m m') : CE K m' XL E := fun m2 h2 x e2 => c m2 h2 x (e.trans e2)
end
theorem _root_.L2.PE.weak {X : Cx} {e : Expr} {t t' : TE} (h : PE X e t) (i : ∀ σ H Q, t' σ H Q → t σ H Q) : PE X e t' := ⟨fun pins s σ H Q I q => h.run pins s σ H Q I (i _ _ _ q)⟩
theorem _root_.L2.PT.weak {X : Cx} {e : Expr} {t t' : TT} (h : PT X e t) (i : ∀ σ H Q, t' σ H Q → t σ H Q) : PT X e t' := ⟨fun pins s σ H Q I q => h.run pins s σ H Q I (i _ _ _ q)⟩
theorem _root_.L2.PW.weak {X : Cx} {e : Expr} {t t' : TT} (h : PW X e t) (i : ∀ σ H Q, t' σ H Q → t σ H Q) : PW X e t' := ⟨fun w pins s σ H Q I q => h.run w pins s σ H Q I (i _ _ _ q)⟩
theorem _root_.L2.PA.weak {X : Cx} {es : List Expr} {t t' : TA} (h : PA X es t) (i : ∀ σ H Q, t' σ H Q → t σ H Q) : PA X es t' := ⟨fun p pins s σ H Q I q => h.run p pins s σ H Q I (i _ _ _ q)⟩
theorem _root_.L2.PS.weak {X : Cx} {e : Stmt} {t t' : TS} (h : PS X e t) (i : ∀ D σ H, t' D σ H → t D σ H) : PS X e t' := ⟨fun pins s σ H D I q => h.run pins s σ H D I (i _ _ _ q)⟩
theorem _root_.L2.PSs.weak {X : Cx} {e : List Stmt} {t t' : TS} (h : PSs X e t) (i : ∀ D σ H, t' D σ H → t D σ H) : PSs X e t' := ⟨fun pins s σ H D I q => h.run pins s σ H D I (i _ _ _ q)⟩
theorem _root_.L2.PE.or {X : Cx} {e : Expr} {t t' : TE} (h : PE X e t) (h' : PE X e t') : PE X e (fun σ H Q => t σ H Q ∨ t' σ H Q) :=
  ⟨fun pins s σ H Q I q => q.elim (h.run pins s σ H Q I) (h'.run pins s σ H Q I)⟩
theorem _root_.L2.PT.or {X : Cx} {e : Expr} {t t' : TT} (h : PT X e t) (h' : PT X e t') : PT X e (fun σ H Q => t σ H Q ∨ t' σ H Q) :=
  ⟨fun pins s σ H Q I q => q.elim (h.run pins s σ H Q I) (h'.run pins s σ H Q I)⟩
theorem _root_.L2.PS.or {X : Cx} {e : Stmt} {t t' : TS} (h : PS X e t) (h' : PS X e t') : PS X e (fun D σ H => t D σ H ∨ t' D σ H) :=
  ⟨fun pins s σ H D I q => q.elim (h.run pins s σ H D I) (h'.run pins s σ H D I)⟩

/-! ### by values -/
abbrev LR2 := LV → LV → LH → LQ → Prop
abbrev LR1 := LV → LH → LQ → Prop
abbrev LRA := List LV → LH → LQ → Prop
abbrev LRM := LV → List LV → LH → LQ → Prop
def upR2 (K : PySem.W.Frag) (r : LR2) : R2 := fun x y H Q => ∃ m h a b QL, m.H = H ∧ R K m h ∧ VRel K m a x ∧ VRel K m b y ∧ r a b h QL ∧ CQ K m QL Q
def upR1 (K : PySem.W.Frag) (r : LR1) : V → Hp → VK → Prop := fun x H Q => ∃ m h a QL, m.H = H ∧ R K m h ∧ VRel K m a x ∧ r a h QL ∧ CQ K m QL Q
def upRA (K : PySem.W.Frag) (r : LRA) : List V → Hp → VK → Prop := fun xs H Q => ∃ m h as QL, m.H = H ∧ R K m h ∧ VRels K m as xs ∧ r as h QL ∧ CQ K m QL Q
def upRM (K : PySem.W.Frag) (r : LRM) : V → List V → Hp → VK → Prop := fun x xs H Q => ∃ m h a as QL, m.H = H ∧ R K m h ∧ VRel K m a x ∧ VRels K m as xs ∧ r a as h QL ∧ CQ K m QL Q
theorem OpR.weak {X : Cx} {f : Value → Value → Sem Value} {r r' : R2} (h : OpR X f r) (i : ∀ x y H Q, r' x y H Q → r x y H Q) : OpR X f r' :=
  fun pins s σ H x y u v Q I r1 r2 q => h pins s σ H x y u v Q I r1 r2 (i _ _ _ _ q)
theorem UnR.weak {X : Cx} {f : Value → Sem Value} {r r' : V → Hp → VK → Prop} (h : UnR X f r) (i : ∀ x H Q, r' x H Q → r x H Q) : UnR X f r' :=
  fun pins s σ H x u Q I r1 q => h pins s σ H x u Q I r1 (i _ _ _ q)
theorem CallR.weak {X : Cx} {f : Value} {r r' : List V → Hp → VK → Prop} (h : CallR X f r) (i : ∀ x H Q, r' x H Q → r x H Q) : CallR X f r' :=
  fun pins s σ H x u Q I r1 q => h pins s σ H x u Q I r1 (i _ _ _ q)
theorem IxR.weak {X : Cx} {r r' : R2} (h : IxR X r) (i : ∀ x y H Q, r' x y H Q → r x y H Q) : IxR X r' :=
  fun e1 e2 pins s σ H x y u v Q I r1 r2 q => h e1 e2 pins s σ H x y u v Q I r1 r2 (i _ _ _ _ q)
theorem MtR.weak {X : Cx} {id : String} {r r' : V → List V → Hp → VK → Prop} (h : MtR X id r) (i : ∀ x xs H Q, r' x xs H Q → r x xs H Q) : MtR X id r' :=
  fun pins s σ H x xs u us Q I r1 r2 q => h pins s σ H x xs u us Q I r1 r2 (i _ _ _ _ q)
end LL

namespace LL
open PySem L2

/-! ### a new object: at a name of one's own, or at any -/
def Alloc (h : LH) (o : LO) (Q : LQ) : Prop := (∃ n, h n = none ∧ ∀ v, Q (.loc n v) (h.set n v o)) ∨ ∀ k, h (.a k) = none → ∀ v, Q (.loc (.a k) v) (h.set (.a k) v o)
theorem alloc_at {h : LH} {o : LO} {Q : LQ} (n : Nm) (e : h n = none) (q : ∀ v, Q (.loc n v) (h.set n v o)) : Alloc h o Q := .inl ⟨n, e, q⟩
theorem alloc_any {h : LH} {o : LO} {Q : LQ} (q : ∀ k, h (.a k) = none → ∀ v, Q (.loc (.a k) v) (h.set (.a k) v o)) : Alloc h o Q := .inr q
section
variable {K : PySem.W.Frag} {m : Lay} {h : LH}
theorem Alloc.up {o : LO} {p : Addr} {u : HO} {QL : LQ} {Q : VK} (A : Alloc h o QL) (r : R K m h) (c : CQ K m QL Q) (hp : m.H p = none) (ho : ∀ m', Ext m m' → ORel K m' o u) : Q (.ref p) (upd m.H p u) := by
  rcases A with ⟨n, hn, q⟩ | q
  · obtain ⟨m', v, e1, ex, r', el⟩ := r.new (n := n) hn hp ho
    rw [← e1]
    exact c m' _ (.loc n v) _ ex r' ⟨p, rfl, el⟩ (q v)
  · obtain ⟨k, hk⟩ := r.fresh
    obtain ⟨m', v, e1, ex, r', el⟩ := r.new (n := .a k) hk hp ho
    rw [← e1]
    exact c m' _ (.loc (.a k) v) _ ex r' ⟨p, rfl, el⟩ (q k hk v)
/-- what a name stands for -/
theorem R.lst (r : R K m h) {n : Nm} {v : Nat} {xs : List LV} {a : Addr} (hn : h n = some (v, .lst xs)) (ha : m.l (n, v) = some a) : ∃ vs, m.H a = some (.lst vs) ∧ VRels K m xs vs := by
  obtain ⟨a', u, e1, e2, vs, rfl, q⟩ := r.obj n v _ hn
  rw [ha] at e1; cases e1
  exact ⟨vs, e2, q⟩
theorem R.ins (r : R K m h) {n : Nm} {v : Nat} {C : Addr} {fs : List (Str × LV)} {a : Addr} (hn : h n = some (v, .ins C fs)) (ha : m.l (n, v) = some a) : ∃ dx vs, m.H a = some (.ins C dx vs) ∧ KVR K m fs vs := by
  obtain ⟨a', u, e1, e2, dx, vs, rfl, q⟩ := r.obj n v _ hn
  rw [ha] at e1; cases e1
  exact ⟨dx, vs, e2, q⟩
theorem R.dK (r : R K m h) {n : Nm} {v : Nat} {xs : List (Key × LV)} {a : Addr} (hn : h n = some (v, .dK xs)) (ha : m.l (n, v) = some a) : ∃ vs, m.H a = some (.dK vs) ∧ KVR K m xs vs := by
  obtain ⟨a', u, e1, e2, vs, rfl, q⟩ := r.obj n v _ hn
  rw [ha] at e1; cases e1
  exact ⟨vs, e2, q⟩
theorem R.dT (r : R K m h) {n : Nm} {v : Nat} {xs : List (List Key × LV)} {a : Addr} (hn : h n = some (v, .dT xs)) (ha : m.l (n, v) = some a) : ∃ vs, m.H a = some (.dT vs) ∧ KVR K m xs vs := by
  obtain ⟨a', u, e1, e2, vs, rfl, q⟩ := r.obj n v _ hn
  rw [ha] at e1; cases e1
  exact ⟨vs, e2, q⟩
/-- a list that may be read: an object, or the script -/
def LsAt (h : LH) : LV → List LV → Prop
  | .loc n v, xs => h n = some (v, .lst xs)
  | .rol ns, xs => xs = ns.map LV.int
  | _, _ => False
theorem LsAt.sq (r : R K m h) : ∀ {x : LV} {v : V} {xs : List LV}, LsAt h x xs → VRel K m x v → ∃ a vs, v = .ref a ∧ SqL K m.H a vs ∧ VRels K m xs vs
  | .loc n k, v, xs, hx, ⟨a, e1, e2⟩ => by
    obtain ⟨vs, e3, q⟩ := r.lst hx e2
    exact ⟨a, vs, e1, .of e3, q⟩
  | .rol ns, v, xs, hx, ⟨a, e1, e2⟩ => by
    cases (show xs = _ from hx)
    exact ⟨a, _, e1, e2.sq, .ints ns⟩
  | .non, _, _, hx, _ => hx.elim
  | .bl _, _, _, hx, _ => hx.elim
  | .int _, _, _, hx, _ => hx.elim
  | .str _, _, _, hx, _ => hx.elim
  | .tup _, _, _, hx, _ => hx.elim
  | .ref _, _, _, hx, _ => hx.elim
  | .ty _, _, _, hx, _ => hx.elim
end

theorem CQ.int {K : PySem.W.Frag} {m : Lay} {h : LH} {QL : LQ} {Q : VK} {i : Int} (c : CQ K m QL Q) (r : R K m h) (q : QL (.int i) h) : Q (.int i) m.H := c m h (.int i) _ (Ext.refl m) r rfl q
theorem CQ.bl {K : PySem.W.Frag} {m : Lay} {h : LH} {QL : LQ} {Q : VK} {i : Bool} (c : CQ K m QL Q) (r : R K m h) (q : QL (.bl i) h) : Q (.bl i) m.H := c m h (.bl i) _ (Ext.refl m) r rfl q
theorem CQ.non {K : PySem.W.Frag} {m : Lay} {h : LH} {QL : LQ} {Q : VK} (c : CQ K m QL Q) (r : R K m h) (q : QL .non h) : Q .non m.H := c m h .non _ (Ext.refl m) r rfl q
theorem CQ.val {K : PySem.W.Frag} {m : Lay} {h : LH} {QL : LQ} {Q : VK} {x : LV} {v : V} (c : CQ K m QL Q) (r : R K m h) (rv : VRel K m x v) (q : QL x h) : Q v m.H := c m h x _ (Ext.refl m) r rv q
/-! ### operators -/
def lAdd : LR2
  | .int i, .int j, h, Q => Q (.int (i + j)) h
  | .loc n v, .loc n' v', h, Q => ∃ xs ys, h n = some (v, .lst xs) ∧ h n' = some (v', .lst ys) ∧ xs.length + ys.length ≤ sizeLine ∧ Alloc h (.lst (xs ++ ys)) Q
  | _, _, _, _ => False
def lSub : LR2
  | .int i, .int j, h, Q => Q (.int (i - j)) h
  | _, _, _, _ => False
def lMul : LR2
  | .int i, .int j, h, Q => CMul i j ∧ Q (.int (i * j)) h
  | .loc n v, .int k, h, Q => ∃ xs, h n = some (v, .lst xs) ∧ -(2 ^ 63) ≤ k ∧ k < 2 ^ 63 ∧ xs.length * k.toNat ≤ sizeLine ∧ Alloc h (.lst (List.replicate k.toNat xs).flatten) Q
  | _, _, _, _ => False
def lFDiv : LR2
  | .int i, .int j, h, Q => CDivW i j ∧ Q (.int (i / j)) h
  | _, _, _, _ => False
def lMod : LR2
  | .int i, .int j, h, Q => 0 < j ∧ Q (.int (i % j)) h
  | _, _, _, _ => False
def lPow : LR2
  | .int i, .int j, h, Q => CPow i j ∧ Q (.int (i ^ j.toNat)) h
  | _, _, _, _ => False
def lCmp (p : Int → Int → Bool) : LR2
  | .int i, .int j, h, Q => Q (.bl (p i j)) h
  | _, _, _, _ => False
def lNeg : LR1
  | .int i, h, Q => Q (.int (-i)) h
  | _, _, _ => False
section
variable {X : Cx}
/-- from a rule on two ints -/
theorem upI {r : R2} {x y : V} {H : Hp} {Q : VK} {K : PySem.W.Frag} {l : LR2} (h : upR2 K l x y H Q) (g : ∀ m h a b QL, m.H = H → R K m h → VRel K m a x → VRel K m b y → l a b h QL → CQ K m QL Q → r x y H Q) : r x y H Q := by
  obtain ⟨m, h, a, b, QL, e1, r1, ra, rb, q, c⟩ := h
  exact g m h a b QL e1 r1 ra rb q c
theorem lo_add : OpR X (binaryOp .Add) (upR2 X.K lAdd) := OpR.weak (op_add.or op_cat) fun x y H Q hq => by
  refine upI (r := fun x y H Q => _) hq fun m h a b QL e1 r ra rb q c => ?_
  subst e1
  cases a <;> cases b <;> try exact q.elim
  · cases (show x = _ from ra); cases (show y = _ from rb)
    exact .inl ⟨_, _, rfl, rfl, c.int r q⟩
  · obtain ⟨a1, e2, e3⟩ := ra
    obtain ⟨b1, e4, e5⟩ := rb
    obtain ⟨xs, ys, h1, h2, hl, A⟩ := q
    subst e2 e4
    obtain ⟨vs, g1, q1⟩ := r.lst h1 e3
    obtain ⟨ws, g2, q2⟩ := r.lst h2 e5
    refine .inr ⟨a1, b1, vs, ws, rfl, rfl, g1, g2, by rw [q1.length, q2.length]; exact hl, fun p hp => A.up r c hp fun m' ex => ⟨_, rfl, (q1.mono ex).append (q2.mono ex)⟩⟩
theorem li_sub : OpR X (binaryOp .Sub) (upR2 X.K lSub) := OpR.weak op_sub fun x y H Q hq => by
  refine upI (r := fun x y H Q => _) hq fun m h a b QL e1 r ra rb q c => ?_
  subst e1
  cases a <;> cases b <;> try exact q.elim
  cases (show x = _ from ra); cases (show y = _ from rb)
  exact ⟨_, _, rfl, rfl, c.int r q⟩
theorem li_fdiv : OpR X (binaryOp .FloorDiv) (upR2 X.K lFDiv) := OpR.weak op_fdivW fun x y H Q hq => by
  refine upI (r := fun x y H Q => _) hq fun m h a b QL e1 r ra rb q c => ?_
  subst e1
  cases a <;> cases b <;> try exact q.elim
  cases (show x = _ from ra); cases (show y = _ from rb)
  exact ⟨_, _, rfl, rfl, q.1, c.int r q.2⟩
theorem li_mod : OpR X (binaryOp .Mod) (upR2 X.K lMod) := OpR.weak op_mod fun x y H Q hq => by
  refine upI (r := fun x y H Q => _) hq fun m h a b QL e1 r ra rb q c => ?_
  subst e1
  cases a <;> cases b <;> try exact q.elim
  cases (show x = _ from ra); cases (show y = _ from rb)
  exact ⟨_, _, rfl, rfl, q.1, c.int r q.2⟩
theorem li_pow : OpR X (binaryOp .Pow) (upR2 X.K lPow) := OpR.weak op_pow fun x y H Q hq => by
  refine upI (r := fun x y H Q => _) hq fun m h a b QL e1 r ra rb q c => ?_
  subst e1
  cases a <;> cases b <;> try exact q.elim
  cases (show x = _ from ra); cases (show y = _ from rb)
  exact ⟨_, _, rfl, rfl, q.1, c.int r q.2⟩
theorem flatten_rep {K : PySem.W.Frag} {m : Lay} {xs : List LV} {vs : List V} (h : VRels K m xs vs) : ∀ k : Nat, VRels K m (List.replicate k xs).flatten (List.replicate k vs).flatten
  | 0 => .nil
  | k + 1 => by simp only [List.replicate_succ, List.flatten_cons]; exact h.append (flatten_rep h k)
theorem li_mul : OpR X (binaryOp .Mult) (upR2 X.K lMul) := OpR.weak (op_mul.or op_rep) fun x y H Q hq => by
  refine upI (r := fun x y H Q => _) hq fun m h a b QL e1 r ra rb q c => ?_
  subst e1
  cases a <;> cases b <;> try exact q.elim
  · cases (show x = _ from ra); cases (show y = _ from rb)
    exact .inl ⟨_, _, rfl, rfl, q.1, c.int r q.2⟩
  · obtain ⟨a1, e2, e3⟩ := ra
    cases (show y = _ from rb)
    obtain ⟨xs, h1, h2, h3, hl, A⟩ := q
    subst e2
    obtain ⟨vs, g1, q1⟩ := r.lst h1 e3
    refine .inr ⟨a1, _, vs, rfl, rfl, g1, h2, h3, by rw [q1.length]; exact hl, fun p hp => A.up r c hp fun m' ex => ⟨_, rfl, flatten_rep (q1.mono ex) _⟩⟩
theorem li_cmp {op : CmpOp} {p : Int → Int → Bool} (ho : OpR X (compareOp op) (rI0 fun i j => .bl (p i j))) : OpR X (compareOp op) (upR2 X.K (lCmp p)) := OpR.weak ho fun x y H Q hq => by
  refine upI (r := fun x y H Q => _) hq fun m h a b QL e1 r ra rb q c => ?_
  subst e1
  cases a <;> cases b <;> try exact q.elim
  cases (show x = _ from ra); cases (show y = _ from rb)
  exact ⟨_, _, rfl, rfl, c.bl r q⟩
theorem li_neg : UnR X (unaryOp .USub) (upR1 X.K lNeg) := UnR.weak un_neg fun x H Q hq => by
  obtain ⟨m, h, a, QL, e1, r, ra, q, c⟩ := hq
  subst e1
  cases a <;> try exact q.elim
  cases (show x = _ from ra)
  exact ⟨_, rfl, c.int r q⟩
end

/-! ### is None -/
def LV.isNon : LV → Bool
  | .non => true
  | _ => false
def lIsN : LR2
  | a, .non, h, Q => Q (.bl a.isNon) h
  | _, _, _, _ => False
def lNotN : LR2
  | a, .non, h, Q => Q (.bl (!a.isNon)) h
  | _, _, _, _ => False
theorem VRel.non_iff {K : PySem.W.Frag} {m : Lay} {a : LV} {x : V} (r : VRel K m a x) : decide (x = V.non) = a.isNon := by
  cases a
  · cases (show x = _ from r); rfl
  · cases (show x = _ from r); rfl
  · cases (show x = _ from r); rfl
  · cases (show x = _ from r); rfl
  · obtain ⟨p, vs, e, _⟩ := r; subst e; rfl
  · obtain ⟨p, e, _⟩ := r; subst e; rfl
  · obtain ⟨p, e, _⟩ := r; subst e; rfl
  · cases (show x = _ from r); rfl
  · cases (show x = _ from r); rfl
section
variable {X : Cx}
theorem li_isN : OpR X (compareOp .Is) (upR2 X.K lIsN) := OpR.weak op_isN fun x y H Q hq => by
  refine upI (r := fun x y H Q => _) hq fun m h a b QL e1 r ra rb q c => ?_
  subst e1
  cases b <;> try exact q.elim
  cases (show y = _ from rb)
  refine ⟨rfl, ?_⟩
  rw [ra.non_iff]
  exact c.bl r q
theorem li_notN : OpR X (compareOp .IsNot) (upR2 X.K lNotN) := OpR.weak op_notN fun x y H Q hq => by
  refine upI (r := fun x y H Q => _) hq fun m h a b QL e1 r ra rb q c => ?_
  subst e1
  cases b <;> try exact q.elim
  cases (show y = _ from rb)
  refine ⟨rfl, ?_⟩
  rw [ra.non_iff]
  exact c.bl r q
end

/-! ### == of data: None, bools, ints, texts, tuples, lists -/
mutual
/-- the data of a value; a list is looked up -/
def dat (h : LH) : Nat → LV → Option PyData
  | _, .non => some .none
  | _, .bl b => some (.bool b)
  | _, .int i => some (.int i)
  | _, .str x => some (.str x)
  | d, .tup xs => (dats h d xs).map .tuple
  | _, .rol ns => some (.list (ns.map .int))
  | 0, .loc _ _ => none
  | d + 1, .loc n v => match h n with
    | some (v', .lst xs) => if v' = v then (dats h d xs).map .list else none
    | _ => none
  | _, _ => none
  termination_by d x => (d, sizeOf x)
def dats (h : LH) : Nat → List LV → Option (List PyData)
  | _, [] => some []
  | d, x :: xs => match dat h d x, dats h d xs with
    | some y, some ys => some (y :: ys)
    | _, _ => none
  termination_by d xs => (d, sizeOf xs)
end
def lEq : LR2 := fun a b h Q => ∃ d e, dat h 6 a = some d ∧ dat h 6 b = some e ∧ min d.depth e.depth ≤ 60 ∧ Q (.bl (PyData.eqv d e)) h
def lNe : LR2 := fun a b h Q => ∃ d e, dat h 6 a = some d ∧ dat h 6 b = some e ∧ min d.depth e.depth ≤ 60 ∧ Q (.bl (!PyData.eqv d e)) h
mutual
theorem dat_plain {h : LH} : ∀ (d : Nat) (x : LV) (y : PyData), dat h d x = some y → y.plain = true
  | d, .non, y, e => by rw [dat] at e; cases e; rfl
  | d, .bl b, y, e => by rw [dat] at e; cases e; rfl
  | d, .int b, y, e => by rw [dat] at e; cases e; rfl
  | d, .str b, y, e => by rw [dat] at e; cases e; rfl
  | d, .tup xs, y, e => by
    rw [dat] at e
    cases z : dats h d xs with
    | none => rw [z] at e; cases e
    | some ys => rw [z] at e; cases e; simp only [PyData.plain]; exact dats_plain d xs ys z
  | d, .rol ns, y, e => by
    rw [dat] at e; cases e
    simp only [PyData.plain]
    induction ns with
    | nil => rfl
    | cons n r ih => simp only [List.map_cons, PyData.plainAll, PyData.plain, Bool.true_and]; exact ih
  | 0, .loc n k, y, e => by rw [dat] at e; cases e
  | d + 1, .loc n k, y, e => by
    rw [dat] at e
    split at e
    · split at e
      · rename_i xs _ _
        cases z : dats h d xs with
        | none => rw [z] at e; cases e
        | some ys => rw [z] at e; cases e; simp only [PyData.plain]; exact dats_plain d xs ys z
      · cases e
    · cases e
  | d, .ref _, y, e => by simp [dat] at e
  | d, .ty _, y, e => by simp [dat] at e
  termination_by d x => (d, sizeOf x)
theorem dats_plain {h : LH} : ∀ (d : Nat) (xs : List LV) (ys : List PyData), dats h d xs = some ys → PyData.plainAll ys = true
  | d, [], ys, e => by rw [dats] at e; cases e; rfl
  | d, x :: xs, ys, e => by
    rw [dats] at e
    split at e
    · rename_i y0 ys0 z1 z2
      cases e
      simp only [PyData.plainAll, dat_plain d x y0 z1, dats_plain d xs ys0 z2, Bool.and_self]
    · cases e
  termination_by d xs => (d, sizeOf xs)
end
section
variable {K : PySem.W.Frag} {m : Lay} {h : LH}
theorem dp_ints {H : Hp} : ∀ ns : List Int, DpAll K H (ns.map V.int) (ns.map .int)
  | [] => .nil
  | n :: ns => .cons (.int n) (dp_ints ns)
mutual
theorem dat_dp (r : R K m h) : ∀ (d : Nat) (x : LV) (v : V) (y : PyData), dat h d x = some y → VRel K m x v → Dp K m.H v y
  | d, .non, v, y, e, rv => by cases (show v = _ from rv); rw [dat] at e; cases e; exact .non
  | d, .bl b, v, y, e, rv => by cases (show v = _ from rv); rw [dat] at e; cases e; exact .bl b
  | d, .int b, v, y, e, rv => by cases (show v = _ from rv); rw [dat] at e; cases e; exact .int b
  | d, .str b, v, y, e, rv => by cases (show v = _ from rv); rw [dat] at e; cases e; exact .str b
  | d, .tup xs, v, y, e, rv => by
    obtain ⟨a, vs, e1, e2, q⟩ := rv
    subst e1
    rw [dat] at e
    cases z : dats h d xs with
    | none => rw [z] at e; cases e
    | some ys =>
      rw [z] at e; cases e
      exact .tup (SqT.of e2) (dats_dp r d xs vs ys z q)
  | d, .rol ns, v, y, e, rv => by
    obtain ⟨a, e1, q⟩ := rv
    subst e1
    rw [dat] at e; cases e
    exact .lst q.sq (dp_ints ns)
  | 0, .loc n k, v, y, e, rv => by rw [dat] at e; cases e
  | d + 1, .loc n k, v, y, e, rv => by
    obtain ⟨a, e1, e2⟩ := rv
    subst e1
    rw [dat] at e
    split at e
    · rename_i v' xs hn
      split at e
      · rename_i hv
        subst hv
        cases z : dats h d xs with
        | none => rw [z] at e; cases e
        | some ys =>
          rw [z] at e; cases e
          obtain ⟨vs, e3, q⟩ := r.lst hn e2
          exact .lst (SqL.of e3) (dats_dp r d xs vs ys z q)
      · cases e
    · cases e
  | d, .ref _, v, y, e, rv => by simp [dat] at e
  | d, .ty _, v, y, e, rv => by simp [dat] at e
  termination_by d x => (d, sizeOf x)
theorem dats_dp (r : R K m h) : ∀ (d : Nat) (xs : List LV) (vs : List V) (ys : List PyData), dats h d xs = some ys → VRels K m xs vs → DpAll K m.H vs ys
  | d, [], vs, ys, e, rv => by cases (show vs = _ from rv); rw [dats] at e; cases e; exact .nil
  | d, x :: xs, vs, ys, e, ⟨v, ws, e1, q, t⟩ => by
    subst e1
    rw [dats] at e
    split at e
    · rename_i y0 ys0 z1 z2
      cases e
      exact .cons (dat_dp r d x v _ z1 q) (dats_dp r d xs ws _ z2 t)
    · cases e
  termination_by d xs => (d, sizeOf xs)
end
variable {X : Cx}
theorem op_eqP (hu : X.A.units + 64 < cLine) : OpR X (compareOp .Eq) (fun x y H Q => ∃ d e, Dp X.K H x d ∧ Dp X.K H y e ∧ d.plain = true ∧ e.plain = true ∧ min d.depth e.depth ≤ 60 ∧ Q (.bl (PyData.eqv d e)) H) := by
  intro pins s σ H x y v u Q I rx ry h
  obtain ⟨d, e, hd, he, sd, se, hm, q⟩ := h
  obtain ⟨as, r1⟩ := Dp.reads I d x v hd rx
  obtain ⟨bs, r2⟩ := Dp.reads I e y u he ry
  exact SeqAt.eq_plain r1 r2 sd se (by omega) ⟨.bl _, H, I, rfl, q⟩
theorem op_neP (hu : X.A.units + 64 < cLine) : OpR X (compareOp .NotEq) (fun x y H Q => ∃ d e, Dp X.K H x d ∧ Dp X.K H y e ∧ d.plain = true ∧ e.plain = true ∧ min d.depth e.depth ≤ 60 ∧ Q (.bl (!PyData.eqv d e)) H) := by
  intro pins s σ H x y v u Q I rx ry h
  obtain ⟨d, e, hd, he, sd, se, hm, q⟩ := h
  obtain ⟨as, r1⟩ := Dp.reads I d x v hd rx
  obtain ⟨bs, r2⟩ := Dp.reads I e y u he ry
  exact SeqAt.ne_plain r1 r2 sd se (by omega) ⟨.bl _, H, I, rfl, q⟩
theorem li_eq (hu : X.A.units + 64 < cLine) : OpR X (compareOp .Eq) (upR2 X.K lEq) := OpR.weak (op_eqP hu) fun x y H Q hq => by
  refine upI (r := fun x y H Q => _) hq fun m h a b QL e1 r ra rb q c => ?_
  subst e1
  obtain ⟨d, e, h1, h2, h3, q⟩ := q
  exact ⟨d, e, dat_dp r _ _ _ _ h1 ra, dat_dp r _ _ _ _ h2 rb, dat_plain _ _ _ h1, dat_plain _ _ _ h2, h3, c.bl r q⟩
theorem li_ne (hu : X.A.units + 64 < cLine) : OpR X (compareOp .NotEq) (upR2 X.K lNe) := OpR.weak (op_neP hu) fun x y H Q hq => by
  refine upI (r := fun x y H Q => _) hq fun m h a b QL e1 r ra rb q c => ?_
  subst e1
  obtain ⟨d, e, h1, h2, h3, q⟩ := q
  exact ⟨d, e, dat_dp r _ _ _ _ h1 ra, dat_dp r _ _ _ _ h2 rb, dat_plain _ _ _ h1, dat_plain _ _ _ h2, h3, c.bl r q⟩
end

/-! ### plain data: None, ints, texts, tuples of them; of a depth of at most k -/
mutual
def nb : Nat → LV → Bool
  | _, .non => true
  | _, .int _ => true
  | _, .str _ => true
  | 0, .tup _ => false
  | k + 1, .tup xs => nbs k xs
  | _, _ => false
def nbs : Nat → List LV → Bool
  | _, [] => true
  | k, x :: xs => nb k x && nbs k xs
end
mutual
def pd : LV → PyData
  | .non => .none
  | .bl b => .bool b
  | .int i => .int i
  | .str x => .str x
  | .tup xs => .tuple (pds xs)
  | _ => .none
def pds : List LV → List PyData
  | [] => []
  | x :: xs => pd x :: pds xs
end
mutual
theorem nb_dat {h : LH} : ∀ (k j : Nat) (x : LV), nb k x = true → dat h j x = some (pd x) ∧ (pd x).depth ≤ k ∧ (pd x).plain = true
  | k, j, .non, _ => ⟨by rw [dat, pd], by rw [pd, PyData.depth]; omega, by rw [pd]; rfl⟩
  | k, j, .int _, _ => ⟨by rw [dat, pd], by rw [pd, PyData.depth]; omega, by rw [pd]; rfl⟩
  | k, j, .str _, _ => ⟨by rw [dat, pd], by rw [pd, PyData.depth]; omega, by rw [pd]; rfl⟩
  | 0, j, .tup xs, e => by rw [nb] at e; cases e
  | k + 1, j, .tup xs, e => by
    rw [nb] at e
    obtain ⟨h1, h2, h3⟩ := nbs_dat (h := h) k j xs e
    refine ⟨by rw [dat, pd, h1]; rfl, by rw [pd, PyData.depth]; omega, by rw [pd]; simp only [PyData.plain]; exact h3⟩
  | k, j, .bl b, e => by simp [nb] at e
  | k, j, .loc _ _, e => by simp [nb] at e
  | k, j, .rol _, e => by simp [nb] at e
  | k, j, .ref _, e => by simp [nb] at e
  | k, j, .ty _, e => by simp [nb] at e
theorem nbs_dat {h : LH} : ∀ (k j : Nat) (xs : List LV), nbs k xs = true → dats h j xs = some (pds xs) ∧ PyData.depthAll (pds xs) ≤ k ∧ PyData.plainAll (pds xs) = true
  | k, j, [], _ => ⟨by rw [dats, pds], by rw [pds, PyData.depthAll]; omega, by rw [pds]; rfl⟩
  | k, j, x :: xs, e => by
    rw [nbs, Bool.and_eq_true] at e
    obtain ⟨h1, h2, h3⟩ := nb_dat (h := h) k j x e.1
    obtain ⟨h4, h5, h6⟩ := nbs_dat (h := h) k j xs e.2
    exact ⟨by rw [dats, h1, h4, pds], by rw [pds, PyData.depthAll]; omega, by rw [pds]; simp only [PyData.plainAll, h3, h6, Bool.and_self]⟩
end
open Classical in
mutual
theorem eqv_pd : ∀ (k j : Nat) (x y : LV), nb k x = true → nb j y = true → PyData.eqv (pd x) (pd y) = decide (x = y)
  | k, j, .non, y, _, e => by cases y <;> simp [nb, pd, PyData.eqv] at e ⊢
  | k, j, .int i, y, _, e => by cases y <;> simp [nb, pd, PyData.eqv, Bool.beq_eq_decide_eq] at e ⊢
  | k, j, .str i, y, _, e => by cases y <;> simp [nb, pd, PyData.eqv, Bool.beq_eq_decide_eq] at e ⊢
  | 0, j, .tup xs, y, e, _ => by rw [nb] at e; cases e
  | k + 1, j, .tup xs, y, e, e2 => by
    cases y with
    | tup ys =>
      cases j with
      | zero => rw [nb] at e2; cases e2
      | succ j =>
        rw [nb] at e e2
        have := eqvs_pd k j xs ys e e2
        rw [pd, pd, PyData.eqv, this]
        simp
    | _ => simp [nb, pd, PyData.eqv] at e2 ⊢
  | k, j, .bl b, _, e, _ => by simp [nb] at e
  | k, j, .loc _ _, _, e, _ => by simp [nb] at e
  | k, j, .rol _, _, e, _ => by simp [nb] at e
  | k, j, .ref _, _, e, _ => by simp [nb] at e
  | k, j, .ty _, _, e, _ => by simp [nb] at e
theorem eqvs_pd : ∀ (k j : Nat) (xs ys : List LV), nbs k xs = true → nbs j ys = true → PyData.eqvAll (pds xs) (pds ys) = decide (xs = ys)
  | k, j, [], ys, _, _ => by cases ys <;> simp [pds, PyData.eqvAll]
  | k, j, x :: xs, [], _, _ => by simp [pds, PyData.eqvAll]
  | k, j, x :: xs, y :: ys, e, e2 => by
    rw [nbs, Bool.and_eq_true] at e e2
    rw [pds, pds, PyData.eqvAll, eqv_pd k j x y e.1 e2.1, eqvs_pd k j xs ys e.2 e2.2]
    simp
end
open Classical in
theorem lEq_nb {k : Nat} {a b : LV} {h : LH} {Q : LQ} (ha : nb k a = true) (hb : nb k b = true) (hk : k ≤ 60) : lEq a b h Q = Q (.bl (decide (a = b))) h := by
  obtain ⟨h1, h2, _⟩ := nb_dat (h := h) k 6 a ha
  obtain ⟨h3, h4, _⟩ := nb_dat (h := h) k 6 b hb
  apply propext
  rw [← eqv_pd k k a b ha hb]
  refine ⟨fun ⟨d', e', z1, z2, _, q⟩ => ?_, fun q => ⟨_, _, h1, h3, by omega, q⟩⟩
  rw [h1] at z1; rw [h3] at z2; cases z1; cases z2; exact q
open Classical in
theorem lNe_nb {k : Nat} {a b : LV} {h : LH} {Q : LQ} (ha : nb k a = true) (hb : nb k b = true) (hk : k ≤ 60) : lNe a b h Q = Q (.bl (!decide (a = b))) h := by
  obtain ⟨h1, h2, _⟩ := nb_dat (h := h) k 6 a ha
  obtain ⟨h3, h4, _⟩ := nb_dat (h := h) k 6 b hb
  apply propext
  rw [← eqv_pd k k a b ha hb]
  refine ⟨fun ⟨d', e', z1, z2, _, q⟩ => ?_, fun q => ⟨_, _, h1, h3, by omega, q⟩⟩
  rw [h1] at z1; rw [h3] at z2; cases z1; cases z2; exact q
theorem dat_ll {h : LH} {j k : Nat} {n : Nm} {v : Nat} {xs : List LV} (e : h n = some (v, .lst xs)) (z : nbs k xs = true) : dat h (j + 1) (.loc n v) = some (.list (pds xs)) := by
  rw [dat, e]
  simp only [if_true, (nbs_dat (h := h) k j xs z).1]
  rfl
open Classical in
theorem lEq_ll {k : Nat} {n m : Nm} {v w : Nat} {xs ys : List LV} {h : LH} {Q : LQ} (e1 : h n = some (v, .lst xs)) (e2 : h m = some (w, .lst ys)) (ha : nbs k xs = true) (hb : nbs k ys = true) (hk : k ≤ 59) : lEq (.loc n v) (.loc m w) h Q = Q (.bl (decide (xs = ys))) h := by
  have h1 := dat_ll (j := 5) e1 ha
  have h3 := dat_ll (j := 5) e2 hb
  obtain ⟨_, h2, _⟩ := nbs_dat (h := h) k 6 xs ha
  apply propext
  rw [← eqvs_pd k k xs ys ha hb]
  refine ⟨fun ⟨d', e', z1, z2, _, q⟩ => ?_, fun q => ⟨_, _, h1, h3, by rw [PyData.depth]; omega, by rw [PyData.eqv]; exact q⟩⟩
  rw [h1] at z1; rw [h3] at z2; cases z1; cases z2
  rw [PyData.eqv] at q; exact q
open Classical in
theorem lNe_ll {k : Nat} {n m : Nm} {v w : Nat} {xs ys : List LV} {h : LH} {Q : LQ} (e1 : h n = some (v, .lst xs)) (e2 : h m = some (w, .lst ys)) (ha : nbs k xs = true) (hb : nbs k ys = true) (hk : k ≤ 59) : lNe (.loc n v) (.loc m w) h Q = Q (.bl (!decide (xs = ys))) h := by
  have h1 := dat_ll (j := 5) e1 ha
  have h3 := dat_ll (j := 5) e2 hb
  obtain ⟨_, h2, _⟩ := nbs_dat (h := h) k 6 xs ha
  apply propext
  rw [← eqvs_pd k k xs ys ha hb]
  refine ⟨fun ⟨d', e', z1, z2, _, q⟩ => ?_, fun q => ⟨_, _, h1, h3, by rw [PyData.depth]; omega, by rw [PyData.eqv]; exact q⟩⟩
  rw [h1] at z1; rw [h3] at z2; cases z1; cases z2
  rw [PyData.eqv] at q; exact q
end LL

namespace LL
open PySem L2

/-! ### what an expression asks, logically -/
def wVar (i : Nat) : LTE := fun s h Q _ => ∃ x, s[i]? = some (some x) ∧ Q x h
def wC (x : LV) : LTE := fun _ h Q _ => Q x h
def wBin (r : LR2) (ta tb : LTE) : LTE := fun s h Q X => ta s h (fun x h1 => tb s h1 (fun y h2 => r x y h2 Q) X) X
def wUn (r : LR1) (ta : LTE) : LTE := fun s h Q X => ta s h (fun x h1 => r x h1 Q) X
/-- a value that is True or False -/
def isB : LV → (Bool → Prop) → Prop
  | .bl b, Q => Q b
  | _, _ => False
def wTst (ta : LTE) : LTT := fun s h Q X => ta s h (fun x h1 => isB x fun b => Q b h1) X
def wAndT (t u : LTT) : LTT := fun s h Q X => t s h (fun c h1 => if c = true then u s h1 Q X else Q false h1) X
def wOrT (t u : LTT) : LTT := fun s h Q X => t s h (fun c h1 => if c = true then Q true h1 else u s h1 Q X) X
def wNotT (t : LTT) : LTT := fun s h Q X => t s h (fun c h1 => Q (!c) h1) X
def wAndV (ta tb : LTE) : LTE := fun s h Q X => ta s h (fun x h1 => isB x fun c => if c = true then tb s h1 Q X else Q (.bl false) h1) X
def wOrV (ta tb : LTE) : LTE := fun s h Q X => ta s h (fun x h1 => isB x fun c => if c = true then Q (.bl true) h1 else tb s h1 Q X) X
def wNotV (ta : LTE) : LTE := fun s h Q X => ta s h (fun x h1 => isB x fun c => Q (.bl (!c)) h1) X
def wIf (t : LTT) (ta tb : LTE) : LTE := fun s h Q X => t s h (fun c h1 => if c = true then ta s h1 Q X else tb s h1 Q X) X
def wChain (r r' : LR2) (ta tb tc : LTE) : LTE := fun s h Q X => ta s h (fun x h1 => tb s h1 (fun y h2 => r x y h2 fun z h3 => isB z fun k => if k = true then tc s h3 (fun w h4 => r' y w h4 Q) X else Q (.bl false) h3) X) X
def wNil : LTA := fun _ h Q _ => Q [] h
def wCons (ta : LTE) (t : LTA) : LTA := fun s h Q X => ta s h (fun x h1 => t s h1 (fun xs h2 => Q (x :: xs) h2) X) X
def wTup (t : LTA) : LTE := fun s h Q X => t s h (fun xs h1 => xs.length ≤ sizeLine ∧ Q (.tup xs) h1) X
def wLst (t : LTA) : LTE := fun s h Q X => t s h (fun xs h1 => xs.length ≤ sizeLine ∧ Alloc h1 (.lst xs) Q) X
/-- truth -/
def truO : Option (Nat × LO) → Nat → (Bool → Prop) → Prop
  | some (v', .lst xs), v, Q => v' = v ∧ Q (!xs.isEmpty)
  | some (v', .dK xs), v, Q => v' = v ∧ Q (!xs.isEmpty)
  | _, _, _ => False
def lTru : LV → LH → (Bool → Prop) → Prop
  | .non, _, Q => Q false
  | .bl b, _, Q => Q b
  | .int i, _, Q => Q (i != 0)
  | .str y, _, Q => y.length ≤ sizeLine ∧ Q ((y.length : Int) != 0)
  | .tup xs, _, Q => Q (!xs.isEmpty)
  | .loc n v, h, Q => truO (h n) v Q
  | _, _, _ => False
def wTru (ta : LTE) : LTT := fun s h Q X => ta s h (fun x h1 => lTru x h1 fun b => Q b h1) X

section
variable {X : Cx} {W : WX} {a b c e : Expr} {es : List Expr} {pos : Pos} {ta tb tc : LTE} {t u : LTT} {tas : LTA}
theorem le_var {i : Nat} {x : Str} (h : PE X (.Name x pos) (tVar i)) : PE X (.Name x pos) (upE X.K W (wVar i)) := h.weak fun σ H Q ⟨m, h, s, QL, XL, e1, r, rs, ⟨x, ex, q⟩, c, ce⟩ => by
  obtain ⟨v, ev, rv⟩ := rs.get ex
  subst e1
  exact ⟨v, ev, c.val r rv q⟩
theorem le_c {x : LV} {v : V} (h : PE X e (tC v)) (rv : ∀ m, VRel X.K m x v) : PE X e (upE X.K W (wC x)) := h.weak fun σ H Q ⟨m, h, s, QL, XL, e1, r, rs, q, c, ce⟩ => by
  subst e1
  exact c.val r (rv m) q
theorem le_bin {op : Operator} {r : LR2} (ho : OpR X (binaryOp op) (upR2 X.K r)) (ha : PE X a (upE X.K W ta)) (hb : PE X b (upE X.K W tb)) : PE X (.BinOp a op b pos) (upE X.K W (wBin r ta tb)) :=
  (pe_op ho ha hb).weak fun σ H Q ⟨m, h, s, QL, XL, e1, r1, rs, q, c, ce⟩ => ⟨m, h, s, _, XL, e1, r1, rs, q, fun m1 h1 x v ex1 r2 rx q1 =>
    ⟨m1, h1, s, _, XL, rfl, r2, rs.mono ex1, q1, fun m2 h2 y u ex2 r3 ry q2 => ⟨m2, h2, x, y, QL, rfl, r3, rx.mono ex2, ry, q2, c.mono (ex1.trans ex2)⟩, ce.mono ex1⟩, ce⟩
theorem le_cmp {op : CmpOp} {r : LR2} (ho : OpR X (compareOp op) (upR2 X.K r)) (ha : PE X a (upE X.K W ta)) (hb : PE X b (upE X.K W tb)) (hm : behindInMarks op b = false) : PE X (.Compare a [op] [b] pos) (upE X.K W (wBin r ta tb)) :=
  (pe_cmpR ho ha hb hm).weak fun σ H Q ⟨m, h, s, QL, XL, e1, r1, rs, q, c, ce⟩ => ⟨m, h, s, _, XL, e1, r1, rs, q, fun m1 h1 x v ex1 r2 rx q1 =>
    ⟨m1, h1, s, _, XL, rfl, r2, rs.mono ex1, q1, fun m2 h2 y u ex2 r3 ry q2 => ⟨m2, h2, x, y, QL, rfl, r3, rx.mono ex2, ry, q2, c.mono (ex1.trans ex2)⟩, ce.mono ex1⟩, ce⟩
theorem le_un {op : UnaryOp} {r : LR1} (ho : UnR X (unaryOp op) (upR1 X.K r)) (ha : PE X a (upE X.K W ta)) : PE X (.UnaryOp op a pos) (upE X.K W (wUn r ta)) :=
  (pe_un ho ha).weak fun σ H Q ⟨m, h, s, QL, XL, e1, r1, rs, q, c, ce⟩ => ⟨m, h, s, _, XL, e1, r1, rs, q, fun m1 h1 x v ex1 r2 rx q1 => ⟨m1, h1, x, QL, rfl, r2, rx, q1, c.mono ex1⟩, ce⟩
theorem isB.of {K : PySem.W.Frag} {m : Lay} {x : LV} {v : V} {Q : Bool → Prop} (h : isB x Q) (r : VRel K m x v) : ∃ b, v = .bl b ∧ Q b := by
  cases x <;> try exact h.elim
  exact ⟨_, r, h⟩
theorem lt_cmp {op : CmpOp} {r : LR2} (ho : OpR X (compareOp op) (upR2 X.K r)) (ha : PE X a (upE X.K W ta)) (hb : PE X b (upE X.K W tb)) (hm : behindInMarks op b = false) : PT X (.Compare a [op] [b] pos) (upT X.K W (wTst (wBin r ta tb))) :=
  (pt_cmpR ho ha hb hm).weak fun σ H Q ⟨m, h, s, QL, XL, e1, r1, rs, q, c, ce⟩ => ⟨m, h, s, _, XL, e1, r1, rs, q, fun m1 h1 x v ex1 r2 rx q1 =>
    ⟨m1, h1, s, _, XL, rfl, r2, rs.mono ex1, q1, fun m2 h2 y u ex2 r3 ry q2 => ⟨m2, h2, x, y, _, rfl, r3, rx.mono ex2, ry, q2, fun m3 h3 z w ex3 r4 rz q3 => by
      obtain ⟨b, rfl, q4⟩ := q3.of rz
      exact ⟨b, rfl, c m3 h3 b (ex1.trans (ex2.trans ex3)) r4 q4⟩⟩, ce.mono ex1⟩, ce⟩
theorem lt_val {e : Expr} (h : PE X e (upE X.K W ta)) (he : ∀ whole, isTrue e X.env whole = (do let v ← whole; standAt e.pos; holding [v] (truthy v))) : PT X e (upT X.K W (wTst ta)) :=
  (pt_val h he).weak fun σ H Q ⟨m, h, s, QL, XL, e1, r1, rs, q, c, ce⟩ => ⟨m, h, s, _, XL, e1, r1, rs, q, fun m1 h1 x v ex1 r2 rx q1 => by
    obtain ⟨b, rfl, q4⟩ := q1.of rx
    exact ⟨b, rfl, c m1 h1 b ex1 r2 q4⟩, ce⟩
theorem lTru.of {K : PySem.W.Frag} {m : Lay} {h : LH} {x : LV} {v : V} {Q : Bool → Prop} (t : lTru x h Q) (r : R K m h) (rv : VRel K m x v) : ∃ k, TruV K v m.H k ∧ Q k := by
  cases x with
  | non => cases (show v = _ from rv); exact ⟨_, rfl, t⟩
  | bl b => cases (show v = _ from rv); exact ⟨_, rfl, t⟩
  | int b => cases (show v = _ from rv); exact ⟨_, rfl, t⟩
  | str b => cases (show v = _ from rv); exact ⟨_, ⟨t.1, rfl⟩, t.2⟩
  | tup xs =>
    obtain ⟨a, vs, e1, e2, q⟩ := rv
    subst e1
    refine ⟨_, .inr (.inl ⟨vs, SqT.of e2, rfl⟩), ?_⟩
    have e : vs.isEmpty = xs.isEmpty := by
      have := q.length
      cases vs <;> cases xs <;> simp_all
    rw [e]; exact t
  | loc n v0 =>
    obtain ⟨a, e1, e2⟩ := rv
    subst e1
    simp only [lTru] at t
    unfold truO at t
    split at t
    · rename_i v' xs hn
      obtain ⟨rfl, t⟩ := t
      obtain ⟨vs, e3, q⟩ := r.lst hn e2
      refine ⟨_, .inl ⟨vs, SqL.of e3, rfl⟩, ?_⟩
      have e : vs.isEmpty = xs.isEmpty := by
        have := q.length
        cases vs <;> cases xs <;> simp_all
      rw [e]; exact t
    · rename_i v' xs hn
      obtain ⟨rfl, t⟩ := t
      obtain ⟨vs, e3, q⟩ := r.dK hn e2
      refine ⟨_, .inr (.inr ⟨vs, e3, rfl⟩), ?_⟩
      have e : vs.isEmpty = xs.isEmpty := by
        cases xs with
        | nil => cases (show vs = _ from q); rfl
        | cons x r => obtain ⟨_, _, e, _⟩ := q; subst e; rfl
      rw [e]; exact t
    · exact t.elim
  | rol _ => exact t.elim
  | ref _ => exact t.elim
  | ty _ => exact t.elim
theorem lt_tru {e : Expr} (h : PE X e (upE X.K W ta)) (he : ∀ whole, isTrue e X.env whole = (do let v ← whole; standAt e.pos; holding [v] (truthy v))) : PT X e (upT X.K W (wTru ta)) :=
  (pt_truth h he).weak fun σ H Q ⟨m, h, s, QL, XL, e1, r1, rs, q, c, ce⟩ => ⟨m, h, s, _, XL, e1, r1, rs, q, fun m1 h1 x v ex1 r2 rx q1 => by
    obtain ⟨b, q3, q4⟩ := q1.of r2 rx
    exact ⟨b, q3, c m1 h1 b ex1 r2 q4⟩, ce⟩
theorem lw_and1 {pos : Pos} (ha : PT X a (upT X.K W t)) : PW X (.BoolOp .And [a] pos) (upT X.K W t) := pw_and1 ha
theorem lw_or1 {pos : Pos} (ha : PT X a (upT X.K W t)) : PW X (.BoolOp .Or [a] pos) (upT X.K W t) := pw_or1 ha
theorem lw_and {rest : List Expr} {pos : Pos} (ha : PT X a (upT X.K W t)) (hb : PW X (.BoolOp .And (b :: rest) pos) (upT X.K W u)) : PW X (.BoolOp .And (a :: b :: rest) pos) (upT X.K W (wAndT t u)) :=
  (pw_and ha hb).weak fun σ H Q ⟨m, h, s, QL, XL, e1, r1, rs, q, c, ce⟩ => ⟨m, h, s, _, XL, e1, r1, rs, q, fun m1 h1 k ex1 r2 q1 => by
    cases k
    · rw [if_neg Bool.false_ne_true] at q1 ⊢; exact c m1 h1 _ ex1 r2 q1
    · rw [if_pos rfl] at q1 ⊢; exact ⟨m1, h1, s, _, XL, rfl, r2, rs.mono ex1, q1, c.mono ex1, ce.mono ex1⟩, ce⟩
theorem lw_or {rest : List Expr} {pos : Pos} (ha : PT X a (upT X.K W t)) (hb : PW X (.BoolOp .Or (b :: rest) pos) (upT X.K W u)) : PW X (.BoolOp .Or (a :: b :: rest) pos) (upT X.K W (wOrT t u)) :=
  (pw_or ha hb).weak fun σ H Q ⟨m, h, s, QL, XL, e1, r1, rs, q, c, ce⟩ => ⟨m, h, s, _, XL, e1, r1, rs, q, fun m1 h1 k ex1 r2 q1 => by
    cases k
    · rw [if_neg Bool.false_ne_true] at q1 ⊢; exact ⟨m1, h1, s, _, XL, rfl, r2, rs.mono ex1, q1, c.mono ex1, ce.mono ex1⟩
    · rw [if_pos rfl] at q1 ⊢; exact c m1 h1 _ ex1 r2 q1, ce⟩
theorem lt_not (ha : PT X a (upT X.K W t)) : PT X (.UnaryOp .Not a pos) (upT X.K W (wNotT t)) :=
  (pt_not ha).weak fun σ H Q ⟨m, h, s, QL, XL, e1, r1, rs, q, c, ce⟩ => ⟨m, h, s, _, XL, e1, r1, rs, q, fun m1 h1 k ex1 r2 q1 => c m1 h1 _ ex1 r2 q1, ce⟩
theorem le_one {op : BoolOp} (ha : PE X a (upE X.K W ta)) : PE X (.BoolOp op [a] pos) (upE X.K W ta) := pe_one ha
theorem le_and {rest : List Expr} (ha : PE X a (upE X.K W ta)) (hb : PE X (.BoolOp .And (b :: rest) pos) (upE X.K W tb)) : PE X (.BoolOp .And (a :: b :: rest) pos) (upE X.K W (wAndV ta tb)) :=
  (pe_and ha hb).weak fun σ H Q ⟨m, h, s, QL, XL, e1, r1, rs, q, c, ce⟩ => ⟨m, h, s, _, XL, e1, r1, rs, q, fun m1 h1 x v ex1 r2 rx q1 => by
    obtain ⟨k, rfl, q1⟩ := q1.of rx
    refine ⟨k, rfl, ?_⟩
    cases k
    · rw [if_neg Bool.false_ne_true] at q1 ⊢; exact (c.mono ex1).bl r2 q1
    · rw [if_pos rfl] at q1 ⊢; exact ⟨m1, h1, s, _, XL, rfl, r2, rs.mono ex1, q1, c.mono ex1, ce.mono ex1⟩, ce⟩
theorem le_or {rest : List Expr} (ha : PE X a (upE X.K W ta)) (hb : PE X (.BoolOp .Or (b :: rest) pos) (upE X.K W tb)) : PE X (.BoolOp .Or (a :: b :: rest) pos) (upE X.K W (wOrV ta tb)) :=
  (pe_or ha hb).weak fun σ H Q ⟨m, h, s, QL, XL, e1, r1, rs, q, c, ce⟩ => ⟨m, h, s, _, XL, e1, r1, rs, q, fun m1 h1 x v ex1 r2 rx q1 => by
    obtain ⟨k, rfl, q1⟩ := q1.of rx
    refine ⟨k, rfl, ?_⟩
    cases k
    · rw [if_neg Bool.false_ne_true] at q1 ⊢; exact ⟨m1, h1, s, _, XL, rfl, r2, rs.mono ex1, q1, c.mono ex1, ce.mono ex1⟩
    · rw [if_pos rfl] at q1 ⊢; exact (c.mono ex1).bl r2 q1, ce⟩
theorem le_not (ha : PE X a (upE X.K W ta)) : PE X (.UnaryOp .Not a pos) (upE X.K W (wNotV ta)) :=
  (pe_not ha).weak fun σ H Q ⟨m, h, s, QL, XL, e1, r1, rs, q, c, ce⟩ => ⟨m, h, s, _, XL, e1, r1, rs, q, fun m1 h1 x v ex1 r2 rx q1 => by
    obtain ⟨k, rfl, q1⟩ := q1.of rx
    exact ⟨k, rfl, (c.mono ex1).bl r2 q1⟩, ce⟩
theorem le_if (hc : PT X c (upT X.K W t)) (ha : PE X a (upE X.K W ta)) (hb : PE X b (upE X.K W tb)) : PE X (.IfExp c a b pos) (upE X.K W (wIf t ta tb)) :=
  (pe_ifExp hc ha hb).weak fun σ H Q ⟨m, h, s, QL, XL, e1, r1, rs, q, c, ce⟩ => ⟨m, h, s, _, XL, e1, r1, rs, q, fun m1 h1 k ex1 r2 q1 => by
    cases k
    · rw [if_neg Bool.false_ne_true] at q1 ⊢; exact ⟨m1, h1, s, _, XL, rfl, r2, rs.mono ex1, q1, c.mono ex1, ce.mono ex1⟩
    · rw [if_pos rfl] at q1 ⊢; exact ⟨m1, h1, s, _, XL, rfl, r2, rs.mono ex1, q1, c.mono ex1, ce.mono ex1⟩, ce⟩
theorem la_nil : PA X [] (upA X.K W 0 wNil) := pa_nil.weak fun σ H Q ⟨m, h, s, QL, XL, e1, r1, rs, q, c, ce⟩ => by subst e1; exact c m h [] [] (Ext.refl m) r1 rfl rfl q
theorem la_cons {n : Nat} (ha : PE X e (upE X.K W ta)) (hr : PA X es (upA X.K W n tas)) (hs : starEach (e :: es) X.env = (false, eval e X.env) :: starEach es X.env) : PA X (e :: es) (upA X.K W (n + 1) (wCons ta tas)) :=
  (pa_cons ha hr hs).weak fun σ H Q ⟨m, h, s, QL, XL, e1, r1, rs, q, c, ce⟩ => ⟨m, h, s, _, XL, e1, r1, rs, q, fun m1 h1 x v ex1 r2 rx q1 =>
    ⟨m1, h1, s, _, XL, rfl, r2, rs.mono ex1, q1, fun m2 h2 ys us ex2 r3 ry hn q2 => c m2 h2 _ _ (ex1.trans ex2) r3 (.cons (rx.mono ex2) ry) (by rw [List.length_cons, hn]) q2, ce.mono ex1⟩, ce⟩
theorem le_tup {k n : Nat} (h : PA X es (upA X.K W n tas)) : PE X (.Tuple es k pos) (upE X.K W (wTup tas)) :=
  (pe_tup h).weak fun σ H Q ⟨m, h, s, QL, XL, e1, r1, rs, q, c, ce⟩ => ⟨m, h, s, _, XL, e1, r1, rs, q, fun m1 h1 xs vs ex1 r2 rx _ q1 => ⟨by rw [rx.length]; exact q1.1, fun p hp => by
    obtain ⟨ex2, r3⟩ := r2.grown (ex_upd (o := .tup vs) hp)
    exact c ⟨m1.l, upd m1.H p (.tup vs)⟩ h1 (.tup xs) _ (ex1.trans ex2) r3 ⟨p, vs, rfl, upd_same, rx.mono ex2⟩ q1.2⟩, ce⟩
theorem le_lst {n : Nat} (h : PA X es (upA X.K W n tas)) : PE X (.List es pos) (upE X.K W (wLst tas)) :=
  (pe_lst h).weak fun σ H Q ⟨m, h, s, QL, XL, e1, r1, rs, q, c, ce⟩ => ⟨m, h, s, _, XL, e1, r1, rs, q, fun m1 h1 xs vs ex1 r2 rx _ q1 => ⟨by rw [rx.length]; exact q1.1, fun p hp =>
    q1.2.up r2 (c.mono ex1) hp fun m' ex => ⟨vs, rfl, rx.mono ex⟩⟩, ce⟩
/-- a < b < c -/
theorem le_chain {op op' : CmpOp} {r r' : LR2} (ho : OpR X (compareOp op) (upR2 X.K r)) (ho' : OpR X (compareOp op') (upR2 X.K r')) (ha : PE X a (upE X.K W ta)) (hb : PE X b (upE X.K W tb)) (hc : PE X c (upE X.K W tc))
    (h : PE X a (upE X.K W ta) → PE X b (upE X.K W tb) → PE X c (upE X.K W tc) → PE X (.Compare a [op, op'] [b, c] pos) (tChain (upR2 X.K r) (upR2 X.K r') (upE X.K W ta) (upE X.K W tb) (upE X.K W tc))) : PE X (.Compare a [op, op'] [b, c] pos) (upE X.K W (wChain r r' ta tb tc)) :=
  (h ha hb hc).weak fun σ H Q ⟨m, h, s, QL, XL, e1, r1, rs, q, c, ce⟩ => ⟨m, h, s, _, XL, e1, r1, rs, q, fun m1 h1 x v ex1 r2 rx q1 =>
    ⟨m1, h1, s, _, XL, rfl, r2, rs.mono ex1, q1, fun m2 h2 y u ex2 r3 ry q2 => ⟨m2, h2, x, y, _, rfl, r3, rx.mono ex2, ry, q2, fun m3 h3 z w ex3 r4 rz q3 => by
      obtain ⟨k, rfl, q4⟩ := q3.of rz
      have ex13 := ex1.trans (ex2.trans ex3)
      refine ⟨k, rfl, ?_⟩
      cases k
      · rw [if_neg Bool.false_ne_true] at q4 ⊢; exact (c.mono ex13).bl r4 q4
      · rw [if_pos rfl] at q4 ⊢
        exact ⟨m3, h3, s, _, XL, rfl, r4, rs.mono ex13, q4, fun m4 h4 z2 w2 ex4 r5 rz2 q5 => ⟨m4, h4, y, z2, QL, rfl, r5, ry.mono (ex3.trans ex4), rz2, q5, c.mono (ex13.trans ex4)⟩, ce.mono ex13⟩⟩, ce.mono ex1⟩, ce⟩
theorem lt_chain {op op' : CmpOp} {r r' : LR2} (ho : OpR X (compareOp op) (upR2 X.K r)) (ho' : OpR X (compareOp op') (upR2 X.K r')) (ha : PE X a (upE X.K W ta)) (hb : PE X b (upE X.K W tb)) (hc : PE X c (upE X.K W tc)) (hm : lastMarks [op, op'] [b, c] = false) :
    PT X (.Compare a [op, op'] [b, c] pos) (upT X.K W (wTst (wChain r r' ta tb tc))) :=
  (pt_chain ho ho' ha hb hc hm).weak fun σ H Q ⟨m, h, s, QL, XL, e1, r1, rs, q, c, ce⟩ => ⟨m, h, s, _, XL, e1, r1, rs, q, fun m1 h1 x v ex1 r2 rx q1 =>
    ⟨m1, h1, s, _, XL, rfl, r2, rs.mono ex1, q1, fun m2 h2 y u ex2 r3 ry q2 => ⟨m2, h2, x, y, _, rfl, r3, rx.mono ex2, ry, q2, fun m3 h3 z w ex3 r4 rz q3 => by
      obtain ⟨k, rfl, q4⟩ := q3.of rz
      have ex13 := ex1.trans (ex2.trans ex3)
      refine ⟨k, rfl, ?_⟩
      cases k
      · rw [if_neg Bool.false_ne_true] at q4; exact iteF ⟨false, rfl, c m3 h3 _ ex13 r4 q4⟩
      · rw [if_pos rfl] at q4
        exact iteT ⟨m3, h3, s, _, XL, rfl, r4, rs.mono ex13, q4, fun m4 h4 z2 w2 ex4 r5 rz2 q5 => ⟨m4, h4, y, z2, _, rfl, r5, ry.mono (ex3.trans ex4), rz2, q5, fun m5 h5 z3 w3 ex5 r6 rz3 q6 => by
          obtain ⟨k2, rfl, q7⟩ := q6.of rz3
          exact ⟨k2, rfl, c m5 h5 _ (ex13.trans (ex4.trans ex5)) r6 q7⟩⟩, ce.mono ex13⟩⟩, ce.mono ex1⟩, ce⟩
end
end LL

namespace LL
open PySem L2

/-! ### defs and their promises -/
abbrev LSp := List LV → LH → LQ → LX → Prop
def liftSp (K : PySem.W.Frag) (n : Nat) (sp : LSp) : Sp := fun vs H Q E => ∃ m h xs QL XL, m.H = H ∧ R K m h ∧ VRels K m xs vs ∧ xs.length = n ∧ sp xs h QL XL ∧ CQ K m QL Q ∧ CE K m XL E
structure Glob where
  fn : Str → Option LSp
  cls : Str → Option (Addr × LSp)
  meth : Addr → Str → Option LSp
  prop : Addr → Str → Option LSp
  attr : Addr → Str → Bool
  con : Str → Option LV
  exc : Str → Option Addr
  exs : Addr → Str → Option Bool := fun _ _ => none
  hot : Option (Addr × Addr) := none
  fat : Addr → Option LSp := fun _ => none
  gdct : Str → Option (Str → Option Addr) := fun _ => none
/-- .. within an except suite: the exception, its class -/
def Glob.at (G : Glob) (a C : Addr) : Glob := { G with hot := some (a, C) }
/-- levels and numbers of arguments, by name -/
structure Tab where
  fn : Str → Option (Nat × Nat)
  cls : Str → Option (Nat × Nat)
  meth : Str → Option (Nat × Nat)
  prop : Str → Option Nat
  blt : Str → Bool
  kmeth : Str → Option (Nat × Nat × List (Str × Int) × List (List Str)) := fun _ => none
  lcl : Option (Nat × Nat) := none
  exn : Str → Bool := fun _ => false
/-- the keywords' values in the order of the parameters, defaults among them -/
def fillL (kd : List (Str × Int)) (ks : List Str) (zs : List LV) : List LV := kd.map fun p => ((ks.zip zs).lookup p.1).getD (.int p.2)
def fillV (kd : List (Str × Int)) (ks : List Str) (zs : List V) : List V := kd.map fun p => ((ks.zip zs).lookup p.1).getD (.int p.2)
/-- what an exception of the class C is to a name -/
structure ExN (K : PySem.W.Frag) (mg : Str → Option Value) (C : Addr) (x : Str) (b : Bool) : Prop where
  ex : ∃ (c : Value) (v : V), (mg x = some c ∨ (mg x = none ∧ bootBuiltins x = some c ∧ x ≠ "__name__")) ∧ PySem.W.exmOne K (.ref C) c = some b ∧ PySem.W.kitOne K (.ref C) c = some b ∧ RelV v c ∧ ∀ u, RelV v u → u = c
  cls : ExcC K C
/-- a method with keyword-only parameters -/
def KmAt (P : Program) (w : World) (K : PySem.W.Frag) (mg : Str → Option Value) (base : Heap) (lv n : Nat) (kd : List (Str × Int)) (kss : List (List Str)) (f : Addr) (sp : LSp) : Prop :=
  ∃ fd ps, FnOk P w K mg base (L2.CX P w) lv f fd ps (liftSp K (n + kd.length) sp) ∧ ∀ ks ∈ kss, ∃ g gV, KBn K fd ps n ks g gV ∧ ∀ vs zs, zs.length = ks.length → gV vs zs = vs ++ fillV kd ks zs
def FnAt (P : Program) (w : World) (K : PySem.W.Frag) (mg : Str → Option Value) (base : Heap) (lv n : Nat) (f : Addr) (sp : LSp) : Prop :=
  ∃ fd ps, FnOk P w K mg base (L2.CX P w) lv f fd ps (liftSp K n sp) ∧ Binds K fd ps []
/-- an exception class of one's own -/
structure ExcAt (K : PySem.W.Frag) (C : Addr) : Prop where
  exc : PySem.W.excIn K C PySem.HandSPX.veTail "ValueError.__new__" = true
  keep : PySem.W.keepIn K (.ref C) = true
  sub : PySem.W.subIn K (.ref C) (.type "BaseException") = some true
  typ : PySem.W.typeIn K (.ref C) = some (.type "type")
  ty : PySem.W.typeIn K (.ref C) = some (.type "type")
structure GOk (G : Glob) (T : Tab) (k : Nat) (P : Program) (w : World) (K : PySem.W.Frag) (mg : Str → Option Value) (base : Heap) : Prop where
  fn : ∀ x lv n, T.fn x = some (lv, n) → lv ≤ k → ∃ sp f, G.fn x = some sp ∧ mg x = some (.ref f) ∧ PySem.W.keepIn K (.ref f) = true ∧ FnAt P w K mg base lv n f sp
  cls : ∀ x lv n, T.cls x = some (lv, n) → lv + 1 ≤ k → ∃ C sp f, G.cls x = some (C, sp) ∧ mg x = some (.ref C) ∧ Mk K C f ∧ FnAt P w K mg base lv (n + 1) f sp
  meth : ∀ C m sp lv n, G.meth C m = some sp → T.meth m = some (lv, n) → lv ≤ k → ∃ f, Cls K C ∧ Meth K C m f ∧ FnAt P w K mg base lv (n + 1) f sp
  prop : ∀ C f sp lv, G.prop C f = some sp → T.prop f = some lv → lv + 1 ≤ k → ∃ p g, Cls K C ∧ PropOf K C f p g ∧ FnAt P w K mg base lv 1 g sp
  attr : ∀ C f, G.attr C f = true → Cls K C ∧ NoAttr K C f
  con : ∀ x v, G.con x = some v → ∃ u w, mg x = some u ∧ RelV w u ∧ ∀ m, VRel K m v w
  blt : ∀ x, T.blt x = true → mg x = none
  exc : ∀ x C, G.exc x = some C → mg x = some (.ref C) ∧ ExcAt K C
  exs : ∀ C x b, G.exs C x = some b → ExN K mg C x b
  exn : ∀ x, T.exn x = true → ∃ c, mg x = some c
  kmeth : ∀ C m sp lv n kd kss, G.meth C m = some sp → T.kmeth m = some (lv, n, kd, kss) → lv ≤ k → ∃ f, Cls K C ∧ Meth K C m f ∧ KmAt P w K mg base lv (n + 1) kd kss f sp
  fat : ∀ f sp lv n, G.fat f = some sp → T.lcl = some (lv, n) → lv ≤ k → PySem.W.keepIn K (.ref f) = true ∧ FnAt P w K mg base lv n f sp
  gdct : ∀ x t, G.gdct x = some t → ∃ D, mg x = some (.ref D) ∧ ∀ z f, t z = some f → KDct K w D z (.ref f)
theorem GOk.at {G : Glob} {T : Tab} {k : Nat} {P : Program} {w : World} {K : PySem.W.Frag} {mg : Str → Option Value} {base : Heap} (g : GOk G T k P w K mg base) (a C : Addr) : GOk (G.at a C) T k P w K mg base :=
  ⟨g.fn, g.cls, g.meth, g.prop, g.attr, g.con, g.blt, g.exc, g.exs, g.exn, g.kmeth, g.fat, g.gdct⟩

/-! ### instances -/
def InsAt (h : LH) : LV → Addr → List (Str × LV) → Prop
  | .loc n v, C, fs => h n = some (v, .ins C fs)
  | _, _, _ => False
theorem KVR.lookup {K : PySem.W.Frag} {m : Lay} : ∀ {fs : List (Str × LV)} {vs : List (Str × V)} (f : Str), KVR K m fs vs → (fs.lookup f = none ∧ vs.lookup f = none) ∨ ∃ x v, fs.lookup f = some x ∧ vs.lookup f = some v ∧ VRel K m x v
  | [], _, f, h => by cases (show _ = [] from h); exact .inl ⟨rfl, rfl⟩
  | (g, x) :: fs, _, f, ⟨v, ws, e1, h, t⟩ => by
    subst e1
    show ((match f == g with | true => some x | false => fs.lookup f) = none ∧ (match f == g with | true => some v | false => ws.lookup f) = none) ∨ ∃ y u, (match f == g with | true => some x | false => fs.lookup f) = some y ∧ (match f == g with | true => some v | false => ws.lookup f) = some u ∧ VRel K m y u
    cases f == g with
    | true => exact .inr ⟨x, v, rfl, rfl, h⟩
    | false => exact KVR.lookup f t
theorem KVR.length {κ : Type} {K : PySem.W.Frag} {m : Lay} : ∀ {fs : List (κ × LV)} {vs : List (κ × V)}, KVR K m fs vs → vs.length = fs.length
  | [], _, h => by cases (show _ = [] from h); rfl
  | _ :: _, _, ⟨v, ws, e1, h, t⟩ => by subst e1; simp [KVR.length t]
def putL (f : Str) (x : LV) : List (Str × LV) → List (Str × LV)
  | [] => [(f, x)]
  | (g, y) :: r => if g = f then (g, x) :: r else (g, y) :: putL f x r
theorem putF_cons (f g : Str) (v y : V) (r : List (Str × V)) : putF f v ((g, y) :: r) = if g = f then (g, v) :: r else (g, y) :: putF f v r := rfl
theorem KVR.put {K : PySem.W.Frag} {m : Lay} {f : Str} {x : LV} {v : V} (r : VRel K m x v) : ∀ {fs : List (Str × LV)} {vs : List (Str × V)}, KVR K m fs vs → KVR K m (putL f x fs) (putF f v vs)
  | [], _, h => by cases (show _ = [] from h); exact ⟨v, [], rfl, r, rfl⟩
  | (g, y) :: fs, _, ⟨w, ws, e1, h, t⟩ => by
    subst e1
    rw [putF_cons]
    unfold putL
    by_cases e : g = f
    · rw [if_pos e, if_pos e]; exact ⟨v, ws, rfl, r, t⟩
    · rw [if_neg e, if_neg e]; exact ⟨w, _, rfl, h, KVR.put r t⟩
section
variable {K : PySem.W.Frag} {m : Lay} {h : LH}
theorem InsAt.ins (r : R K m h) : ∀ {x : LV} {v : V} {C : Addr} {fs : List (Str × LV)}, InsAt h x C fs → VRel K m x v → ∃ a dx vs, v = .ref a ∧ m.H a = some (.ins C dx vs) ∧ KVR K m fs vs
  | .loc n k, v, C, fs, hx, ⟨a, e1, e2⟩ => by
    obtain ⟨dx, vs, e3, q⟩ := r.ins hx e2
    exact ⟨a, dx, vs, e1, e3, q⟩
  | .rol _, _, _, _, hx, _ => hx.elim
  | .non, _, _, _, hx, _ => hx.elim
  | .bl _, _, _, _, hx, _ => hx.elim
  | .int _, _, _, _, hx, _ => hx.elim
  | .str _, _, _, _, hx, _ => hx.elim
  | .tup _, _, _, _, hx, _ => hx.elim
  | .ref _, _, _, _, hx, _ => hx.elim
  | .ty _, _, _, _, hx, _ => hx.elim
end

/-- the instance at x: its class, its attributes -/
def insO : Option (Nat × LO) → Nat → (Addr → List (Str × LV) → Prop) → Prop
  | some (v', .ins C fs), v, P => v' = v ∧ P C fs
  | _, _, _ => False
def InsM : LH → LV → (Addr → List (Str × LV) → Prop) → Prop
  | h, .loc n v, P => insO (h n) v P
  | _, _, _ => False
theorem InsM.of {h : LH} {x : LV} {P : Addr → List (Str × LV) → Prop} (q : InsM h x P) : ∃ C fs, InsAt h x C fs ∧ P C fs := by
  unfold InsM at q
  split at q
  · unfold insO at q
    split at q
    · rename_i hn; obtain ⟨rfl, q⟩ := q; exact ⟨_, _, hn, q⟩
    · exact q.elim
  · exact q.elim
def optM {α : Type} : Option α → (α → Prop) → Prop
  | some y, P => P y
  | none, _ => False
theorem optM.of {α : Type} {o : Option α} {P : α → Prop} (q : optM o P) : ∃ y, o = some y ∧ P y := by
  cases o with
  | none => exact q.elim
  | some y => exact ⟨y, rfl, q⟩
/-! ### e.f -/
def wFld (G : Glob) (ta : LTE) (f : Str) : LTE := fun s h Q X => ta s h (fun x h1 => InsM h1 x fun C fs => match G.attr C f with
  | true => optM (fs.lookup f) fun y => Q y h1
  | false => optM (G.prop C f) fun sp => sp [x] h1 Q fun _ _ => False) X
def Mid (K : PySem.W.Frag) (m : Lay) (QL : LQ) : VK := fun v H1 => ∃ m1 h1 x, m1.H = H1 ∧ Ext m m1 ∧ R K m1 h1 ∧ VRel K m1 x v ∧ QL x h1
section
variable {X : Cx} {W : WX} {G : Glob} {T : Tab} {k : Nat} {a b c e : Expr} {es : List Expr} {pos : Pos} {ta tb tc : LTE} {t u : LTT} {tas : LTA}
theorem exc_none {P : Program} {w : World} {outer : List Env} {H : Hp} {s : Shared} {E : XK} {u : Value} {s' : Shared} (h : ∀ c d H, ¬ E c d H) : ¬ L2.CX P w outer H s E u s' := fun q => by
  obtain ⟨_, _, _, _, _, _, _, _, _, _, _, _, z⟩ := q
  exact h _ _ _ z
theorem le_fld (g : GOk G T k X.prog X.w X.K X.mg X.base) (hr : Room k X.A) {f : Str} (hp : ∀ C sp, G.prop C f = some sp → ∃ lv, T.prop f = some lv ∧ lv + 1 ≤ k) (ha : PE X a (upE X.K W ta))
    (hb : attributeBase a f X.env (eval a X.env) = eval a X.env) : PE X (.Attribute a f pos) (upE X.K W (wFld G ta f)) := by
  refine ⟨fun pins s σ H Q I hq => ?_⟩
  obtain ⟨m, h, ls, QL, XL, e1, r1, rs, q, c, ce⟩ := hq
  refine attr_of hb (thn (ha.run pins s σ H (Mid X.K m _) I ⟨m, h, ls, _, XL, e1, r1, rs, q, fun m1 h1 x v ex1 r2 rx q1 => ⟨m1, h1, x, rfl, ex1, r2, rx, q1⟩, ce⟩) fun u s1 ⟨v, H1, I1, ru, m1, h1, x, e2, ex1, r2, rx, q1⟩ => ?_)
  obtain ⟨C, fs, hi, q1⟩ := InsM.of q1
  obtain ⟨p, dx, vs, rfl, hH, kv⟩ := hi.ins r2 rx
  obtain rfl : u = Value.ref p := ru
  subst e2
  split at q1
  · rename_i ga
    obtain ⟨y, hl, q2⟩ := q1.of
    obtain ⟨cl, na⟩ := g.attr _ _ ga
    rcases kv.lookup f with ⟨z, _⟩ | ⟨y', v, z1, z2, rv⟩
    · rw [z] at hl; cases hl
    · rw [hl] at z1; cases z1
      exact getattr_ok I1 hH cl na z2 fun u' s2 I2 ru => ⟨v, m1.H, I2, ru, c m1 h1 _ _ ex1 r2 rv q2⟩
  · obtain ⟨sp, gp, q2⟩ := q1.of
    obtain ⟨lv, t1, t2⟩ := hp C sp gp
    obtain ⟨pa, gt, cl, po, fd, ps, F, B⟩ := g.prop C f sp lv gp t1 t2
    exact getprop_ok (E := fun _ _ _ => False) (dvs := []) I1 hH cl po F (hr.mono t2) B .nil (fun _ _ _ _ _ _ _ z => exc_none (fun _ _ _ z => z) z) ⟨m1, h1, [x], QL, fun _ _ => False, rfl, r2, ⟨_, _, rfl, rx, rfl⟩, rfl, q2, c.mono ex1, fun _ _ _ _ _ z => z⟩

/-! ### calls -/
def wCall (sp : LSp) (tas : LTA) : LTE := fun s h Q X => tas s h (fun xs h1 => sp xs h1 Q X) X
theorem lift_of {K : PySem.W.Frag} {m : Lay} {h : LH} {xs : List LV} {vs : List V} {n : Nat} {sp : LSp} {QL : LQ} {XL : LX} {Q : VK} {E : XK} (r : R K m h) (rv : VRels K m xs vs) (hn : xs.length = n) (q : sp xs h QL XL) (c : CQ K m QL Q) (ce : CE K m XL E) : liftSp K n sp vs m.H Q E :=
  ⟨m, h, xs, QL, XL, rfl, r, rv, hn, q, c, ce⟩
theorem pe_callS0 {CX : CXT} {f : Addr} {fd : FuncData} {ps : List Str} {sp : Sp} {E : St → XK} {x : Str} {p : Pos} (F : FnOk X.prog X.w X.K X.mg X.base CX k f fd ps sp) (hr : Room k X.A) (hg : Gl X x) (hm : X.mg x = some (.ref f)) (hk : PySem.W.keepIn X.K (.ref f) = true) (hb : Binds X.K fd ps []) (hx : ∀ σ, PassesAt CX X σ (E σ))
    (hdb : (x == ("__debug__" : Str)) = false) : PE X (.Call (.Name x p) [] [] pos) (tCallS sp E tNil) := by
  refine ⟨fun pins s σ H Q I h => ?_⟩
  refine wpAny_Call_Name_kw (ld_glob I hg hm ?_ hdb)
  exact PySem.W.callWith_K0 I.kIn hk (run_fnS (us := []) F hr hb (hx σ) I .nil h)
theorem le_call (tk : Takes X W) {lv n : Nat} {f : Addr} {sp : LSp} {x : Str} {p : Pos} (F : FnAt X.prog X.w X.K X.mg X.base lv n f sp) (hr : Room lv X.A) (hg : Gl X x) (hm : X.mg x = some (.ref f)) (hk : PySem.W.keepIn X.K (.ref f) = true)
    (ha : PA X (e :: es) (upA X.K W n tas)) (hdb : (x == ("__debug__" : Str)) = false) (he : starEach (e :: es) X.env = (false, eval e X.env) :: starEach es X.env) (hpl : (backTo pos (starEach es X.env)).any (·.1) = false) :
    PE X (.Call (.Name x p) (e :: es) [] pos) (upE X.K W (wCall sp tas)) := by
  obtain ⟨fd, ps, F, B⟩ := F
  exact (pe_callS F hr hg hm hk B (fun σ => passAt tk σ) ha hdb he hpl).weak fun σ H Q ⟨m, h, s, QL, XL, e1, r1, rs, q, c, ce⟩ => ⟨m, h, s, _, XL, e1, r1, rs, q, fun m1 h1 xs vs ex1 r2 rx hn q1 =>
    lift_of r2 rx hn q1 (c.mono ex1) (ce.mono ex1), ce⟩
theorem le_call0 (tk : Takes X W) {lv : Nat} {f : Addr} {sp : LSp} {x : Str} {p : Pos} (F : FnAt X.prog X.w X.K X.mg X.base lv 0 f sp) (hr : Room lv X.A) (hg : Gl X x) (hm : X.mg x = some (.ref f)) (hk : PySem.W.keepIn X.K (.ref f) = true)
    (hdb : (x == ("__debug__" : Str)) = false) : PE X (.Call (.Name x p) [] [] pos) (upE X.K W (wCall sp wNil)) := by
  obtain ⟨fd, ps, F, B⟩ := F
  exact (pe_callS0 F hr hg hm hk B (fun σ => passAt tk σ) hdb).weak fun σ H Q ⟨m, h, s, QL, XL, e1, r1, rs, q, c, ce⟩ => by
    subst e1
    exact lift_of r1 .nil rfl q c ce

theorem KVR.lnone {K : PySem.W.Frag} {m : Lay} {fs : List (Str × LV)} {vs : List (Str × V)} {f : Str} (h : KVR K m fs vs) (e : fs.lookup f = none) : vs.lookup f = none := by
  rcases h.lookup f with ⟨_, z⟩ | ⟨y', v, z1, z2, rv⟩
  · exact z
  · rw [e] at z1; cases z1
/-! ### C(..) -/
def wMake (C : Addr) (sp : LSp) (tas : LTA) : LTE := fun s h Q X => tas s h (fun xs h1 => Alloc h1 (.ins C []) fun x h2 => sp (x :: xs) h2 (fun y h3 => y = .non ∧ Q x h3) X) X
theorem run_makeS {C f : Addr} {fd : FuncData} {ps : List Str} {sp : Sp} {CX : CXT} {E : St → XK} {pins : List (Addr × Obj)} {σ : St} {H : Hp} {s : Shared} {Q : VK} {us : List Value} {vs : List V} (M : Mk X.K C f) (F : FnOk X.prog X.w X.K X.mg X.base CX k f fd ps sp) (hr : Room (k + 1) X.A) (hb : Binds X.K fd ps [])
    (hx : PassesAt CX X σ (E σ)) (I : Inv X pins σ H s) (r : Vals vs us)
    (h : ∀ x dx, H x = none → H dx = none → dx ≠ x → sp (.ref x :: vs) (upd (upd H dx (.own x)) x (.ins C dx [])) (fun v H2 => v = .non ∧ Q (.ref x) H2) (E σ)) :
    wpAny (model X.prog X.w) X.A (call (.ref C) us) (EP X pins σ Q) X.xe s := by
  have hq := h (s.heap.objs.size + 1) s.heap.objs.size (I.hok.fresh (Nat.le_succ _)) (I.hok.fresh (Nat.le_refl _)) (Nat.ne_of_lt (Nat.lt_succ_self _))
  have I2 := Inv.made (C := C) I
  have r2 : Vals (V.ref (s.heap.objs.size + 1) :: vs) (Value.ref (s.heap.objs.size + 1) :: us) := .cons rfl r
  have hl : (Value.ref (s.heap.objs.size + 1) :: us ++ []).length = ps.length := by
    rw [List.append_nil]
    have e := r2.length
    rw [F.len _ _ _ _ hq] at e
    exact e.symm
  have b := hb _ (Value.ref (s.heap.objs.size + 1) :: us) I2.kIn hl
  rw [List.append_nil] at b
  refine wpAny_call (make_map (f := f) I.kIn M.makes M.init (beq_iff_eq.mp M.fn) (codeAny_mono (F.run _ X.stack _ _ ⟨Value.ref (s.heap.objs.size + 1) :: us, []⟩ (Value.ref (s.heap.objs.size + 1) :: us) _ _ (E σ) (hr.make C us [])
    (I2.env0.make C us []) b r2 hq) fun r s' hq' => ?_))
  cases r with
  | error e => exact hx pins _ _ e s' I2 hq'
  | ok fl =>
    cases fl with
    | ret u =>
      obtain ⟨v, H', I3, rv, ev, q3⟩ := I2.after hq'
      subst ev
      exact ⟨rv, ⟨V.ref (s.heap.objs.size + 1), H', I3, rfl, q3⟩⟩
    | next => exact False.elim hq'
    | brk => exact False.elim hq'
    | cont => exact False.elim hq'
/-- a fresh instance -/
theorem make_up {K : PySem.W.Frag} {m : Lay} {h : LH} {C x dx : Addr} {n : Nat} {xs : List LV} {vs : List V} {sp : LSp} {QL : LQ} {XL : LX} {Q : VK} {E : XK} (r : R K m h) (rv : VRels K m xs vs) (hn : xs.length = n) (hx : m.H x = none) (hdx : m.H dx = none) (ne : dx ≠ x)
    (q : Alloc h (.ins C []) fun x h2 => sp (x :: xs) h2 (fun y h3 => y = .non ∧ QL x h3) XL) (c : CQ K m QL Q) (ce : CE K m XL E) :
    liftSp K (n + 1) sp (.ref x :: vs) (upd (upd m.H dx (.own x)) x (.ins C dx [])) (fun v H2 => v = .non ∧ Q (.ref x) H2) E := by
  obtain ⟨ex1, r1⟩ := r.grown (ex_upd (o := .own x) hdx)
  have hx1 : (upd m.H dx (.own x)) x = none := by rw [upd_ne (fun z => ne z.symm)]; exact hx
  have fin : ∀ (nm : Nm), h nm = none → (∀ v, sp (.loc nm v :: xs) (h.set nm v (.ins C [])) (fun y h3 => y = .non ∧ QL (.loc nm v) h3) XL) → liftSp K (n + 1) sp (.ref x :: vs) (upd (upd m.H dx (.own x)) x (.ins C dx [])) (fun v H2 => v = .non ∧ Q (.ref x) H2) E := fun nm hnm q => by
    obtain ⟨m2, v, e1, ex2, r2, el⟩ := r1.new (n := nm) (o := .ins C []) (u := .ins C dx []) hnm hx1 fun m' _ => ⟨dx, [], rfl, rfl⟩
    have ex := ex1.trans ex2
    refine ⟨m2, _, .loc nm v :: xs, _, XL, e1, r2, .cons ⟨x, rfl, el⟩ (rv.mono ex), by rw [List.length_cons, hn], q v, fun m3 h3 y u ex3 r3 ry q3 => ?_, ce.mono ex⟩
    obtain ⟨rfl, q3⟩ := q3
    exact ⟨ry, c m3 h3 (.loc nm v) _ (ex.trans ex3) r3 ⟨x, rfl, ex3.l _ _ el⟩ q3⟩
  rcases q with ⟨nm, hnm, q⟩ | q
  · exact fin nm hnm q
  · obtain ⟨kk, hk⟩ := r.fresh
    exact fin _ hk (q kk hk)
theorem le_make (tk : Takes X W) {lv n : Nat} {C f : Addr} {sp : LSp} {x : Str} {p : Pos} (M : Mk X.K C f) (F : FnAt X.prog X.w X.K X.mg X.base lv (n + 1) f sp) (hr : Room (lv + 1) X.A) (hg : Gl X x) (hm : X.mg x = some (.ref C))
    (ha : PA X (e :: es) (upA X.K W n tas)) (hdb : (x == ("__debug__" : Str)) = false) (he : starEach (e :: es) X.env = (false, eval e X.env) :: starEach es X.env) (hpl : (backTo pos (starEach es X.env)).any (·.1) = false) :
    PE X (.Call (.Name x p) (e :: es) [] pos) (upE X.K W (wMake C sp tas)) := by
  obtain ⟨fd, ps, F, B⟩ := F
  refine ⟨fun pins s σ H Q I hq => ?_⟩
  obtain ⟨m, h, ls, QL, XL, e1, r1, rs, q, c, ce⟩ := hq
  refine wpAny_Call_Name_kw (ld_glob I hg hm ?_ hdb)
  refine PySem.W.callWith_K (h₀ := X.base) I.ok.mod.kin M.kp (thn (ha.run pos pins s σ H (fun vs H1 => ∀ x dx, H1 x = none → H1 dx = none → dx ≠ x → liftSp X.K (n + 1) sp (.ref x :: vs) (upd (upd H1 dx (.own x)) x (.ins C dx [])) (fun v H2 => v = .non ∧ Q (.ref x) H2) (WE W σ)) I
    ⟨m, h, ls, _, XL, e1, r1, rs, q, fun m1 h1 xs vs ex1 r2 rx hn q1 => fun x dx hx hdx ne => make_up r2 rx hn hx hdx ne q1 (c.mono ex1) (ce.mono ex1), ce⟩) fun us s1 ⟨vs, H1, I1, r, q⟩ => ⟨I1.kIn, ?_⟩) he hpl
  exact run_makeS (E := L2.WE W) M F hr B (passAt tk σ) I1 r q
theorem le_make0 (tk : Takes X W) {lv : Nat} {C f : Addr} {sp : LSp} {x : Str} {p : Pos} (M : Mk X.K C f) (F : FnAt X.prog X.w X.K X.mg X.base lv 1 f sp) (hr : Room (lv + 1) X.A) (hg : Gl X x) (hm : X.mg x = some (.ref C))
    (hdb : (x == ("__debug__" : Str)) = false) : PE X (.Call (.Name x p) [] [] pos) (upE X.K W (wMake C sp wNil)) := by
  obtain ⟨fd, ps, F, B⟩ := F
  refine ⟨fun pins s σ H Q I hq => ?_⟩
  obtain ⟨m, h, ls, QL, XL, e1, r1, rs, q, c, ce⟩ := hq
  subst e1
  refine wpAny_Call_Name_kw (ld_glob I hg hm ?_ hdb)
  exact PySem.W.callWith_K0 I.kIn M.kp (run_makeS (us := []) (E := L2.WE W) M F hr B (passAt tk σ) I .nil fun x dx hx hdx ne => make_up r1 .nil rfl hx hdx ne q c ce)

/-! ### built-in functions, types -/
def wCB (r : LRA) (tas : LTA) : LTE := fun s h Q X => tas s h (fun xs h1 => r xs h1 Q) X
theorem up_cb {r : LRA} {σ : St} {H : Hp} {Q : VK} {n : Nat} (h : upE X.K W (wCB r tas) σ H Q) : tCB (upRA X.K r) (upA X.K W n tas) σ H Q := by
  obtain ⟨m, h, s, QL, XL, e1, r1, rs, q, c, ce⟩ := h
  exact ⟨m, h, s, _, XL, e1, r1, rs, q, fun m1 h1 xs vs ex1 r2 rx _ q1 => ⟨m1, h1, xs, QL, rfl, r2, rx, q1, c.mono ex1⟩, ce⟩
theorem le_cb {n : Nat} {r : LRA} {id : String} {x : Str} {p : Pos} (hc : CallR X (.builtin id) (upRA X.K r)) (hg : Gl X x) (hm : X.mg x = none) (hv : bootBuiltins x = some (.builtin id)) (ha : PA X (e :: es) (upA X.K W n tas)) (hn : x ≠ "__name__") (hdb : (x == ("__debug__" : Str)) = false)
    (he : starEach (e :: es) X.env = (false, eval e X.env) :: starEach es X.env) (hpl : (backTo pos (starEach es X.env)).any (·.1) = false) : PE X (.Call (.Name x p) (e :: es) [] pos) (upE X.K W (wCB r tas)) :=
  (pe_callB hc hg hm hv ha hn hdb he hpl).weak fun _ _ _ => up_cb
theorem le_ct {n : Nat} {r : LRA} {id : String} {x : Str} {p : Pos} (hc : CallR X (.type id) (upRA X.K r)) (hg : Gl X x) (hm : X.mg x = none) (hv : bootBuiltins x = some (.type id)) (ha : PA X (e :: es) (upA X.K W n tas)) (hn : x ≠ "__name__") (hdb : (x == ("__debug__" : Str)) = false)
    (he : starEach (e :: es) X.env = (false, eval e X.env) :: starEach es X.env) (hpl : (backTo pos (starEach es X.env)).any (·.1) = false) : PE X (.Call (.Name x p) (e :: es) [] pos) (upE X.K W (wCB r tas)) :=
  (pe_callTy hc hg hm hv ha hn hdb he hpl).weak fun _ _ _ => up_cb
end
end LL

namespace LL
open PySem L2

/-! ### dicts, logically -/
section
variable {κ : Type} [DecidableEq κ]
def getK (kvs : List (κ × LV)) (k : κ) : Option LV := (kvs.find? fun kv => decide (kv.1 = k)).map (·.2)
def putK (kvs : List (κ × LV)) (k : κ) (v : LV) : List (κ × LV) :=
  if (kvs.any fun kv => decide (kv.1 = k)) = true then kvs.map fun kv => if kv.1 = k then (kv.1, v) else kv else kvs ++ [(k, v)]
def dropK (kvs : List (κ × LV)) (k : κ) : List (κ × LV) := kvs.filter fun kv => decide (kv.1 ≠ k)
variable {K : PySem.W.Frag} {m : Lay}
theorem KVR.val (k : κ) : ∀ {kvs : List (κ × LV)} {vs : List (κ × V)}, KVR K m kvs vs → (getK kvs k = none ∧ valV vs k = none) ∨ ∃ x v, getK kvs k = some x ∧ valV vs k = some v ∧ VRel K m x v
  | [], _, h => by cases (show _ = [] from h); exact .inl ⟨rfl, rfl⟩
  | (j, x) :: r, _, ⟨v, ws, e1, h, t⟩ => by
    subst e1
    unfold getK valV
    by_cases e : j = k
    · simp only [List.find?_cons, e, decide_true]
      exact .inr ⟨x, v, rfl, rfl, h⟩
    · simp only [List.find?_cons, e, decide_false]
      exact KVR.val k t
theorem KVR.any (k : κ) : ∀ {kvs : List (κ × LV)} {vs : List (κ × V)}, KVR K m kvs vs → (vs.any fun kv => decide (kv.1 = k)) = (kvs.any fun kv => decide (kv.1 = k))
  | [], _, h => by cases (show _ = [] from h); rfl
  | (j, x) :: r, _, ⟨v, ws, e1, h, t⟩ => by subst e1; simp only [List.any_cons, KVR.any k t]
theorem KVR.snoc {k : κ} {x : LV} {v : V} (r : VRel K m x v) : ∀ {kvs : List (κ × LV)} {vs : List (κ × V)}, KVR K m kvs vs → KVR K m (kvs ++ [(k, x)]) (vs ++ [(k, v)])
  | [], _, h => by cases (show _ = [] from h); exact ⟨v, [], rfl, r, rfl⟩
  | (j, y) :: l, _, ⟨w, ws, e1, h, t⟩ => by subst e1; exact ⟨w, _, rfl, h, KVR.snoc r t⟩
theorem KVR.repl {k : κ} {x : LV} {v : V} (r : VRel K m x v) : ∀ {kvs : List (κ × LV)} {vs : List (κ × V)}, KVR K m kvs vs → KVR K m (kvs.map fun kv => if kv.1 = k then (kv.1, x) else kv) (vs.map fun kv => if kv.1 = k then (kv.1, v) else kv)
  | [], _, h => by cases (show _ = [] from h); rfl
  | (j, y) :: l, _, ⟨w, ws, e1, h, t⟩ => by
    subst e1
    simp only [List.map_cons]
    by_cases e : j = k
    · simp only [e, if_true]; exact ⟨v, _, rfl, r, KVR.repl r t⟩
    · simp only [e, if_false]; exact ⟨w, _, rfl, h, KVR.repl r t⟩
theorem KVR.putk {k : κ} {x : LV} {v : V} (r : VRel K m x v) {kvs : List (κ × LV)} {vs : List (κ × V)} (h : KVR K m kvs vs) : KVR K m (putK kvs k x) (L2.putK vs k v) := by
  unfold putK L2.putK
  rw [h.any k]
  split
  · exact h.repl r
  · exact h.snoc r
theorem KVR.drop (k : κ) : ∀ {kvs : List (κ × LV)} {vs : List (κ × V)}, KVR K m kvs vs → KVR K m (dropK kvs k) (L2.dropK vs k)
  | [], _, h => by cases (show _ = [] from h); rfl
  | (j, y) :: l, _, ⟨w, ws, e1, h, t⟩ => by
    subst e1
    have ih := KVR.drop k t
    unfold dropK L2.dropK at *
    by_cases e : j = k
    · simp only [List.filter_cons, e, ne_eq, not_true_eq_false, decide_false]; exact ih
    · simp only [List.filter_cons, e, ne_eq, not_false_eq_true, decide_true, if_true]; exact ⟨w, _, rfl, h, ih⟩
end
/-- a key -/
def keyOf : LV → Option Key
  | .int i => some (.inl i)
  | .str x => some (.inr x)
  | _ => none
def keysOfL : List LV → Option (List Key)
  | [] => some []
  | x :: xs => match keyOf x, keysOfL xs with
    | some k, some ks => some (k :: ks)
    | _, _ => none
def keysOf : LV → Option (List Key)
  | .tup xs => keysOfL xs
  | _ => none
section
variable {K : PySem.W.Frag} {m : Lay} {h : LH}
theorem keyOf.v : ∀ {x : LV} {v : V} {k : Key}, keyOf x = some k → VRel K m x v → v = kV k
  | .int i, v, k, e, r => by cases (show v = _ from r); cases e; rfl
  | .str i, v, k, e, r => by cases (show v = _ from r); cases e; rfl
  | .non, _, _, e, _ => by cases e
  | .bl _, _, _, e, _ => by cases e
  | .tup _, _, _, e, _ => by cases e
  | .loc _ _, _, _, e, _ => by cases e
  | .rol _, _, _, e, _ => by cases e
  | .ref _, _, _, e, _ => by cases e
  | .ty _, _, _, e, _ => by cases e
theorem keysOfL.v : ∀ {xs : List LV} {vs : List V} {ks : List Key}, keysOfL xs = some ks → VRels K m xs vs → vs = ks.map kV
  | [], _, _, e, r => by cases (show _ = [] from r); cases e; rfl
  | x :: xs, _, ks, e, ⟨v, ws, e1, q, t⟩ => by
    subst e1
    unfold keysOfL at e
    split at e
    · rename_i k ks' h1 h2
      cases e
      rw [List.map_cons, ← keysOfL.v h2 t, ← keyOf.v h1 q]
    · cases e
theorem keysOf.v : ∀ {x : LV} {v : V} {ks : List Key}, keysOf x = some ks → VRel K m x v → ∃ a, v = .ref a ∧ m.H a = some (.tup (ks.map kV))
  | .tup xs, v, ks, e, ⟨a, vs, e1, e2, q⟩ => ⟨a, e1, by rw [← keysOfL.v e q]; exact e2⟩
  | .int _, _, _, e, _ => by cases e
  | .str _, _, _, e, _ => by cases e
  | .non, _, _, e, _ => by cases e
  | .bl _, _, _, e, _ => by cases e
  | .loc _ _, _, _, e, _ => by cases e
  | .rol _, _, _, e, _ => by cases e
  | .ref _, _, _, e, _ => by cases e
  | .ty _, _, _, e, _ => by cases e
/-- what d has at a key; d may be locked -/
def DAt (h : LH) (x y : LV) (o : Option LV) : Prop := match x with
  | .loc n v => match h n with
    | some (v', .dK kvs) => v' = v ∧ ∃ k, keyOf y = some k ∧ getK kvs k = o
    | some (v', .dT kvs) => v' = v ∧ ∃ k, keysOf y = some k ∧ getK kvs k = o
    | some (v', .fz (.dK kvs) _ _) => v' = v ∧ ∃ k, keyOf y = some k ∧ getK kvs k = o
    | some (v', .fz (.dT kvs) _ _) => v' = v ∧ ∃ k, keysOf y = some k ∧ getK kvs k = o
    | _ => False
  | _ => False
def ORl (K : PySem.W.Frag) (m : Lay) : Option LV → Option V → Prop
  | some x, some v => VRel K m x v
  | none, none => True
  | _, _ => False
theorem KVR.orl {κ : Type} [DecidableEq κ] {kvs : List (κ × LV)} {vs : List (κ × V)} (q : KVR K m kvs vs) (k : κ) : ORl K m (getK kvs k) (valV vs k) := by
  rcases q.val k with ⟨e1, e2⟩ | ⟨x, v, e1, e2, r⟩
  · rw [e1, e2]; trivial
  · rw [e1, e2]; exact r
theorem DAt.get (r : R K m h) {x y : LV} {v u : V} {o : Option LV} (d : DAt h x y o) (rx : VRel K m x v) (ry : VRel K m y u) : ∃ a ov, v = .ref a ∧ DGet m.H a u ov ∧ ORl K m o ov := by
  unfold DAt at d
  split at d
  · rename_i n k
    obtain ⟨a, e1, e2⟩ := rx
    split at d
    · rename_i kvs hn
      obtain ⟨rfl, k, hk, rfl⟩ := d
      obtain ⟨vs, e3, q⟩ := r.dK hn e2
      rw [keyOf.v hk ry]
      exact ⟨a, _, e1, DGet.k e3, q.orl k⟩
    · rename_i kvs hn
      obtain ⟨rfl, k, hk, rfl⟩ := d
      obtain ⟨vs, e3, q⟩ := r.dT hn e2
      obtain ⟨b, rfl, eb⟩ := keysOf.v hk ry
      exact ⟨a, _, e1, DGet.t e3 eb, q.orl k⟩
    · rename_i kvs ob w hn
      obtain ⟨rfl, k, hk, rfl⟩ := d
      obtain ⟨a', u0, e3, e4, rfl, nl, q⟩ := r.obj _ _ _ hn
      rw [e2] at e3; cases e3
      obtain ⟨vs, rfl, q⟩ := q
      rw [keyOf.v hk ry]
      exact ⟨a, _, e1, .inl ⟨vs, k, .inr ⟨ob, e4⟩, rfl, rfl⟩, q.orl k⟩
    · rename_i kvs ob w hn
      obtain ⟨rfl, k, hk, rfl⟩ := d
      obtain ⟨a', u0, e3, e4, rfl, nl, q⟩ := r.obj _ _ _ hn
      rw [e2] at e3; cases e3
      obtain ⟨vs, rfl, q⟩ := q
      obtain ⟨b, rfl, eb⟩ := keysOf.v hk ry
      exact ⟨a, _, e1, .inr ⟨vs, k, b, .inr ⟨ob, e4⟩, rfl, eb, rfl⟩, q.orl k⟩
    · exact d.elim
  · exact d.elim
end

/-! ### a[i] -/
def atM {α : Type} (xs : List α) : LV → (α → Prop) → Prop
  | .int i, P => optM (atI xs i) P
  | _, _ => False
def ixO (h : LH) (x y : LV) (Q : LQ) : Option (Nat × LO) → Nat → Prop
  | some (v', .lst xs), v => v' = v ∧ atM xs y fun u => Q u h
  | _, _ => ∃ u, DAt h x y (some u) ∧ Q u h
def lIx : LR2
  | .tup xs, y, h, Q => atM xs y fun u => Q u h
  | .rol ns, y, h, Q => atM ns y fun u => Q (.int u) h
  | .loc n v, y, h, Q => ixO h (.loc n v) y Q (h n) v
  | _, _, _, _ => False
theorem atM.of {α : Type} {xs : List α} {y : LV} {P : α → Prop} (q : atM xs y P) : ∃ i u, y = .int i ∧ atI xs i = some u ∧ P u := by
  cases y <;> try exact q.elim
  obtain ⟨u, e, p⟩ := optM.of q
  exact ⟨_, u, rfl, e, p⟩
section
variable {X : Cx}
theorem ix_dict (hu : X.A.units + 1 < cLine) : IxR X (fun x y H Q => ∃ a v, x = .ref a ∧ DGet H a y (some v) ∧ Q v H) := by
  intro value slice pins s σ H x y v u Q I rx ry h hs
  obtain ⟨a, z, rfl, g, q⟩ := h
  cases rx
  unfold PyProof.Rows.subscriptTail
  refine wpAny_bind ?_
  rw [getitemInPython_of_ne (dict_typeIs I g).not_modules]
  refine wpAny_bind (wpAny_specialOf (dict_typeIs I g) PySem.F.slot_dict_getitem.lookup ?_)
  have fin : wpAny (model X.prog X.w) X.A (subscripted slice false (.ref a) u) (fun r s₃ => wpAny (model X.prog X.w) X.A (letTemporaryGo value (.ref a) r >>= fun _ => pure r) (EP X pins σ Q) X.xe s₃) X.xe s := by
    rw [hs]
    exact wpAny_operating (d_getItem hu I g ry fun w' s3 I3 rw' => wpAny_bind (wpAny_letTemporaryGo (wpAny_pure ⟨z, H, I3, rw', q⟩)))
  first
    | exact wpAny_pure (wpAny_bind fin)
    | exact wpAny_bind (wpAny_pure (wpAny_bind fin))
    | exact wpAny_bind fin
theorem atI_rel {K : PySem.W.Frag} {m : Lay} {xs : List LV} {vs : List V} {i : Int} {u : LV} (q : VRels K m xs vs) (e : atI xs i = some u) : ∃ w, atI vs i = some w ∧ VRel K m u w := by
  unfold atI at e ⊢
  rw [q.length]
  cases z : ixN xs.length i with
  | none => rw [z] at e; cases e
  | some j =>
    rw [z] at e
    exact q.get e
theorem atI_int {ns : List Int} {i u : Int} (e : atI ns i = some u) : atI (ns.map V.int) i = some (V.int u) := by
  unfold atI at e ⊢
  rw [List.length_map]
  cases z : ixN ns.length i with
  | none => rw [z] at e; cases e
  | some j =>
    rw [z] at e
    show (ns.map V.int)[j]? = _
    rw [List.getElem?_map, show ns[j]? = some u from e]; rfl
theorem li_ix (hu : X.A.units + 1 < cLine) : IxR X (upR2 X.K lIx) := IxR.weak ((ix_list.or ix_tup).or (ix_dict hu)) fun x y H Q hq => by
  refine upI (r := fun x y H Q => _) hq fun m h a b QL e1 r ra rb q c => ?_
  subst e1
  cases a with
  | tup xs =>
    obtain ⟨i, u, rfl, hu, q⟩ := atM.of q
    obtain ⟨p, vs, e2, e3, q1⟩ := ra
    cases (show y = _ from rb)
    obtain ⟨w, e4, rw'⟩ := atI_rel q1 hu
    exact .inl (.inr ⟨p, vs, _, w, e2, rfl, SqT.of e3, e4, c.val r rw' q⟩)
  | rol ns =>
    obtain ⟨i, u, rfl, hu, q⟩ := atM.of q
    obtain ⟨p, e2, e3⟩ := ra
    cases (show y = _ from rb)
    exact .inl (.inl ⟨p, _, _, .int u, e2, rfl, e3.sq, atI_int hu, c.int r q⟩)
  | loc n v =>
    have dct : (∃ u, DAt h (.loc n v) b (some u) ∧ QL u h) → ∃ a v, x = .ref a ∧ DGet m.H a y (some v) ∧ Q v m.H := fun ⟨u, d, q⟩ => by
      obtain ⟨p, ov, e2, g, o⟩ := d.get r ra rb
      cases ov with
      | none => exact o.elim
      | some w => exact ⟨p, w, e2, g, c.val r o q⟩
    simp only [lIx] at q
    unfold ixO at q
    split at q
    · rename_i v' xs hn
      obtain ⟨rfl, q⟩ := q
      obtain ⟨i, u, rfl, hu, q⟩ := atM.of q
      obtain ⟨p, e2, e3⟩ := ra
      cases (show y = _ from rb)
      obtain ⟨vs, e5, q1⟩ := r.lst hn e3
      obtain ⟨w, e4, rw'⟩ := atI_rel q1 hu
      exact .inl (.inl ⟨p, vs, _, w, e2, rfl, SqL.of e5, e4, c.val r rw' q⟩)
    · exact .inr (dct q)
  | _ => exact q.elim
end
def wIx (ta tb : LTE) : LTE := wBin lIx ta tb
section
variable {X : Cx} {W : WX} {a b e : Expr} {es : List Expr} {pos : Pos} {ta tb : LTE} {tas : LTA}
theorem le_ix (hu : X.A.units + 1 < cLine) (ha : PE X a (upE X.K W ta)) (hb : PE X b (upE X.K W tb)) (hs : PlainIx b) : PE X (.Subscript a b pos) (upE X.K W (wIx ta tb)) :=
  (pe_ix (li_ix hu) ha hb hs).weak fun σ H Q ⟨m, h, s, QL, XL, e1, r1, rs, q, c, ce⟩ => ⟨m, h, s, _, XL, e1, r1, rs, q, fun m1 h1 x v ex1 r2 rx q1 =>
    ⟨m1, h1, s, _, XL, rfl, r2, rs.mono ex1, q1, fun m2 h2 y u ex2 r3 ry q2 => ⟨m2, h2, x, y, QL, rfl, r3, rx.mono ex2, ry, q2, c.mono (ex1.trans ex2)⟩, ce.mono ex1⟩, ce⟩
end

/-! ### o[i] = v -/
abbrev LSet := LV → LV → LV → LH → (LH → Prop) → Prop
def setO (n : Nm) (k : Nat) (i v : LV) (h : LH) (Q : LH → Prop) : Option (Nat × LO) → Prop
  | some (k', .lst xs) => k' = k ∧ match i with
    | .int z => optM (ixN xs.length z) fun j => Q (h.set n k (.lst (xs.set j v)))
    | _ => False
  | some (k', .dK kvs) => k' = k ∧ optM (keyOf i) fun z => kvs.length < sizeLine ∧ Q (h.set n k (.dK (putK kvs z v)))
  | some (k', .dT kvs) => k' = k ∧ optM (keysOf i) fun z => kvs.length < sizeLine ∧ Q (h.set n k (.dT (putK kvs z v)))
  | _ => False
def lSet : LSet
  | .loc n k, i, v, h, Q => setO n k i v h Q (h n)
  | _, _, _, _, _ => False
def CH (K : PySem.W.Frag) (m : Lay) (QL : LH → Prop) (Q : Hp → Prop) : Prop := ∀ m' h', Ext m m' → R K m' h' → QL h' → Q m'.H
def upSet (K : PySem.W.Frag) (l : LSet) : TSet := fun o i v H Q => ∃ m h a b c QL, m.H = H ∧ R K m h ∧ VRel K m a o ∧ VRel K m b i ∧ VRel K m c v ∧ l a b c h QL ∧ CH K m QL Q
theorem PSet.weak {X : Cx} {r r' : TSet} (h : PSet X r) (i : ∀ x y z H Q, r' x y z H Q → r x y z H Q) : PSet X r' :=
  fun pins s σ H o i' v ov iv u Q I r1 r2 r3 q => h pins s σ H o i' v ov iv u Q I r1 r2 r3 (i _ _ _ _ _ q)
theorem PSet.or {X : Cx} {r r' : TSet} (h : PSet X r) (h' : PSet X r') : PSet X (fun x y z H Q => r x y z H Q ∨ r' x y z H Q) :=
  fun pins s σ H o i' v ov iv u Q I r1 r2 r3 q => q.elim (h pins s σ H o i' v ov iv u Q I r1 r2 r3) (h' pins s σ H o i' v ov iv u Q I r1 r2 r3)
section
variable {X : Cx}
theorem set_dict (hu : X.A.units + 1 < cLine) : PSet X (fun o i v H Q => ∃ a H', o = .ref a ∧ DPut H a i v H' ∧ Q H') := by
  intro pins s σ H o i v ov iv u Q I ro ri rv h
  obtain ⟨a, H', rfl, g, q⟩ := h
  cases ro
  exact d_setItem hu I g ri rv fun s' I' => ⟨H', I', q⟩
theorem li_set (hu : X.A.units + 1 < cLine) : PSet X (upSet X.K lSet) := PSet.weak (PSet.or set_list (set_dict hu)) fun x y z H Q hq => by
  obtain ⟨m, h, a, b, cv, QL, e1, r, ra, rb, rc, q, c⟩ := hq
  subst e1
  cases a with
  | loc n k =>
    obtain ⟨p, e2, e3⟩ := ra
    simp only [lSet] at q
    unfold setO at q
    split at q
    · rename_i v' xs hn
      obtain ⟨rfl, q⟩ := q
      cases b <;> try exact q.elim
      cases (show y = _ from rb)
      obtain ⟨j, hj, q⟩ := optM.of q
      obtain ⟨vs, e5, q1⟩ := r.lst hn e3
      obtain ⟨ex, r2⟩ := r.write hn e3 (o' := .lst (xs.set j cv)) ⟨_, rfl, q1.set rc j⟩
      exact .inl ⟨p, vs, _, j, e2, rfl, e5, by rw [q1.length]; exact hj, c _ _ ex r2 q⟩
    · rename_i v' kvs hn
      obtain ⟨rfl, q⟩ := q
      obtain ⟨kz, hk, hl, q⟩ := optM.of q
      obtain ⟨vs, e5, q1⟩ := r.dK hn e3
      rw [keyOf.v hk rb]
      obtain ⟨ex, r2⟩ := r.write hn e3 (o' := .dK (putK kvs kz cv)) ⟨_, rfl, q1.putk rc⟩
      exact .inr ⟨p, _, e2, DPut.k e5 (by rw [q1.length]; exact hl), c _ _ ex r2 q⟩
    · rename_i v' kvs hn
      obtain ⟨rfl, q⟩ := q
      obtain ⟨kz, hk, hl, q⟩ := optM.of q
      obtain ⟨vs, e5, q1⟩ := r.dT hn e3
      obtain ⟨bb, rfl, eb⟩ := keysOf.v hk rb
      obtain ⟨ex, r2⟩ := r.write hn e3 (o' := .dT (putK kvs kz cv)) ⟨_, rfl, q1.putk rc⟩
      exact .inr ⟨p, _, e2, DPut.t e5 eb (by rw [q1.length]; exact hl), c _ _ ex r2 q⟩
    · exact q.elim
  | _ => exact q.elim
end

/-! ### built-in functions by values -/
/-- len -/
def lenO (h : LH) (Q : LQ) : Option (Nat × LO) → Nat → Prop
  | some (v', .lst ys), v => v' = v ∧ Q (.int ys.length) h
  | some (v', .dK ys), v => v' = v ∧ Q (.int ys.length) h
  | some (v', .dT ys), v => v' = v ∧ Q (.int ys.length) h
  | _, _ => False
def lLen : LRA
  | [.tup ys], h, Q => Q (.int ys.length) h
  | [.rol ns], h, Q => Q (.int ns.length) h
  | [.loc n v], h, Q => lenO h Q (h n) v
  | _, _, _ => False
def lInt : LRA
  | [.int i], h, Q => Q (.int i) h
  | [.bl b], h, Q => Q (.int (if b then 1 else 0)) h
  | _, _, _ => False
def lAbs : LRA
  | [.int i], h, Q => Q (.int (if i < 0 then -i else i)) h
  | _, _, _ => False
def lMax : LRA
  | [.int i, .int j], h, Q => Q (.int (max i j)) h
  | _, _, _ => False
def lMin : LRA
  | [.int i, .int j], h, Q => Q (.int (min i j)) h
  | _, _, _ => False
/-- list(..): a new list; tuple(..) -/
def listO (h : LH) (Q : LQ) : Option (Nat × LO) → Nat → Prop
  | some (v', .lst ys), v => v' = v ∧ Alloc h (.lst ys) Q
  | _, _ => False
def lList : LRA
  | [.tup ys], h, Q => Alloc h (.lst ys) Q
  | [.loc n v], h, Q => listO h Q (h n) v
  | _, _, _ => False
def tupO (h : LH) (Q : LQ) : Option (Nat × LO) → Nat → Prop
  | some (v', .lst ys), v => v' = v ∧ Q (.tup ys) h
  | _, _ => False
def lTuple : LRA
  | [.tup ys], h, Q => Q (.tup ys) h
  | [.loc n v], h, Q => tupO h Q (h n) v
  | _, _, _ => False
section
variable {X : Cx}
theorem VRels.one {K : PySem.W.Frag} {m : Lay} {x : LV} {vs : List V} (h : VRels K m [x] vs) : ∃ v, vs = [v] ∧ VRel K m x v := by
  obtain ⟨v, ws, e, q, t⟩ := h
  cases (show ws = [] from t)
  exact ⟨v, e, q⟩
theorem VRels.two {K : PySem.W.Frag} {m : Lay} {x y : LV} {vs : List V} (h : VRels K m [x, y] vs) : ∃ v w, vs = [v, w] ∧ VRel K m x v ∧ VRel K m y w := by
  obtain ⟨v, ws, e, q, t⟩ := h
  obtain ⟨w, e2, q2⟩ := VRels.one t
  subst e2
  exact ⟨v, w, e, q, q2⟩
theorem call_len_dict : CallR X (.builtin "len") (fun xs H Q => ∃ a kvs, xs = [.ref a] ∧ H a = some (.dK kvs) ∧ Q (.int kvs.length) H) := by
  intro pins s σ H xs us Q I r h
  obtain ⟨a, kvs, rfl, e, q⟩ := h
  obtain ⟨u, rfl, ru⟩ := vals1 r
  obtain rfl : u = Value.ref a := ru
  exact d_len I (.inl e) fun t s' I' => ⟨.int kvs.length, H, I', ⟨t, rfl⟩, q⟩
theorem li_len : CallR X (.builtin "len") (upRA X.K lLen) := CallR.weak ((call_len_seq.or call_len_dict).or call_len_dT) fun x H Q hq => by
  obtain ⟨m, h, as, QL, e1, r, ra, q, c⟩ := hq
  subst e1
  unfold lLen at q
  split at q
  · rename_i ys
    obtain ⟨v, rfl, p, vs, rfl, e2, q1⟩ := ra.one
    exact .inl (.inl ⟨p, vs, rfl, .inr (SqT.of e2), by rw [q1.length]; exact c.int r q⟩)
  · rename_i ns
    obtain ⟨v, rfl, p, rfl, e2⟩ := ra.one
    exact .inl (.inl ⟨p, _, rfl, .inl e2.sq, by rw [List.length_map]; exact c.int r q⟩)
  · rename_i n v
    obtain ⟨w, rfl, p, rfl, e2⟩ := ra.one
    unfold lenO at q
    split at q
    · rename_i v' ys hn
      obtain ⟨rfl, q⟩ := q
      obtain ⟨vs, e3, q1⟩ := r.lst hn e2
      exact .inl (.inl ⟨p, vs, rfl, .inl (SqL.of e3), by rw [q1.length]; exact c.int r q⟩)
    · rename_i v' ys hn
      obtain ⟨rfl, q⟩ := q
      obtain ⟨vs, e3, q1⟩ := r.dK hn e2
      exact .inl (.inr ⟨p, vs, rfl, e3, by rw [q1.length]; exact c.int r q⟩)
    · rename_i v' ys hn
      obtain ⟨rfl, q⟩ := q
      obtain ⟨vs, e3, q1⟩ := r.dT hn e2
      exact .inr ⟨p, vs, rfl, e3, by rw [q1.length]; exact c.int r q⟩
    · exact q.elim
  · exact q.elim
theorem li_int : CallR X (.type "int") (upRA X.K lInt) := CallR.weak call_int1 fun x H Q hq => by
  obtain ⟨m, h, as, QL, e1, r, ra, q, c⟩ := hq
  subst e1
  unfold lInt at q
  split at q
  · obtain ⟨v, rfl, e⟩ := ra.one
    cases (show v = _ from e)
    exact .inl ⟨_, rfl, c.int r q⟩
  · obtain ⟨v, rfl, e⟩ := ra.one
    cases (show v = _ from e)
    exact .inr ⟨_, rfl, c.int r q⟩
  · exact q.elim
theorem li_abs : CallR X (.builtin "abs") (upRA X.K lAbs) := CallR.weak call_abs fun x H Q hq => by
  obtain ⟨m, h, as, QL, e1, r, ra, q, c⟩ := hq
  subst e1
  unfold lAbs at q
  split at q
  · obtain ⟨v, rfl, e⟩ := ra.one
    cases (show v = _ from e)
    exact ⟨_, rfl, c.int r q⟩
  · exact q.elim
theorem li_max (hc : X.calm = true) : CallR X (.builtin "max") (upRA X.K lMax) := CallR.weak (call_max2 hc) fun x H Q hq => by
  obtain ⟨m, h, as, QL, e1, r, ra, q, c⟩ := hq
  subst e1
  unfold lMax at q
  split at q
  · obtain ⟨v, w, rfl, e, e2⟩ := ra.two
    cases (show v = _ from e)
    cases (show w = _ from e2)
    refine ⟨_, _, rfl, ?_⟩
    rename_i i j
    rw [show (if j > i then j else i) = max i j by split <;> omega]
    exact c.int r q
  · exact q.elim
theorem li_min (hc : X.calm = true) : CallR X (.builtin "min") (upRA X.K lMin) := CallR.weak (call_min2 hc) fun x H Q hq => by
  obtain ⟨m, h, as, QL, e1, r, ra, q, c⟩ := hq
  subst e1
  unfold lMin at q
  split at q
  · obtain ⟨v, w, rfl, e, e2⟩ := ra.two
    cases (show v = _ from e)
    cases (show w = _ from e2)
    refine ⟨_, _, rfl, ?_⟩
    rename_i i j
    rw [show (if j < i then j else i) = min i j by split <;> omega]
    exact c.int r q
  · exact q.elim
theorem li_list : CallR X (.type "list") (upRA X.K lList) := CallR.weak call_list_of fun x H Q hq => by
  obtain ⟨m, h, as, QL, e1, r, ra, q, c⟩ := hq
  subst e1
  unfold lList at q
  split at q
  · rename_i ys
    obtain ⟨v, rfl, p, vs, rfl, e2, q1⟩ := ra.one
    exact ⟨p, vs, rfl, .inr (SqT.of e2), fun l hl => q.up r c hl fun m' ex => ⟨vs, rfl, q1.mono ex⟩⟩
  · rename_i n v
    obtain ⟨w, rfl, p, rfl, e2⟩ := ra.one
    unfold listO at q
    split at q
    · rename_i v' ys hn
      obtain ⟨rfl, q⟩ := q
      obtain ⟨vs, e3, q1⟩ := r.lst hn e2
      exact ⟨p, vs, rfl, .inl (SqL.of e3), fun l hl => q.up r c hl fun m' ex => ⟨vs, rfl, q1.mono ex⟩⟩
    · exact q.elim
  · exact q.elim
theorem li_tuple : CallR X (.type "tuple") (upRA X.K lTuple) := CallR.weak call_tuple_of fun x H Q hq => by
  obtain ⟨m, h, as, QL, e1, r, ra, q, c⟩ := hq
  subst e1
  unfold lTuple at q
  split at q
  · rename_i ys
    obtain ⟨v, rfl, p, vs, rfl, e2, q1⟩ := ra.one
    exact ⟨p, vs, rfl, .inr ⟨SqT.of e2, c.val r (x := .tup ys) ⟨p, vs, rfl, e2, q1⟩ q⟩⟩
  · rename_i n v
    obtain ⟨w, rfl, p, rfl, e2⟩ := ra.one
    unfold tupO at q
    split at q
    · rename_i v' ys hn
      obtain ⟨rfl, q⟩ := q
      obtain ⟨vs, e3, q1⟩ := r.lst hn e2
      refine ⟨p, vs, rfl, .inl ⟨SqL.of e3, fun l hl => ?_⟩⟩
      obtain ⟨ex2, r3⟩ := r.grown (ex_upd (o := .tup vs) hl)
      exact c ⟨m.l, upd m.H l (.tup vs)⟩ h (.tup ys) _ ex2 r3 ⟨l, vs, rfl, upd_same, q1.mono ex2⟩ q
    · exact q.elim
  · exact q.elim
end

/-! ### isinstance -/
/-- the name of a value's type; of an instance none -/
def tyOf (h : LH) : LV → Option String
  | .non => some "NoneType"
  | .bl _ => some "bool"
  | .int _ => some "int"
  | .str _ => some "str"
  | .tup _ => some "tuple"
  | .loc n v => match h n with
    | some (v', .lst _) => if v' = v then some "list" else none
    | some (v', .dK _) => if v' = v then some "dict" else none
    | some (v', .dT _) => if v' = v then some "dict" else none
    | _ => none
  | _ => none
def lIsi : LRA
  | [x, .ty n], h, Q => ∃ t b, tyOf h x = some t ∧ kitB t n = some b ∧ Q (.bl b) h
  | _, _, _ => False
section
variable {X : Cx}
theorem tyOf.of {K : PySem.W.Frag} {m : Lay} {h : LH} (r : R K m h) : ∀ {x : LV} {v : V} {t : String}, tyOf h x = some t → VRel K m x v → TyX K m.H v (.type t)
  | .non, v, t, e, rv => by cases (show v = _ from rv); cases e; exact .base .non
  | .bl b, v, t, e, rv => by cases (show v = _ from rv); cases e; exact .base (.bl b)
  | .int b, v, t, e, rv => by cases (show v = _ from rv); cases e; exact .base (.int b)
  | .str b, v, t, e, rv => by cases (show v = _ from rv); cases e; exact .base (.str b)
  | .tup b, v, t, e, ⟨p, vs, e1, e2, q1⟩ => by subst e1; cases e; exact .base (.tup e2)
  | .loc n k, v, t, e, ⟨p, e1, e2⟩ => by
    subst e1
    unfold tyOf at e
    simp only at e
    split at e
    · rename_i v' ys hn
      split at e
      · rename_i z; subst z; cases e
        obtain ⟨vs, e3, q1⟩ := r.lst hn e2
        exact .base (.lst e3)
      · cases e
    · rename_i v' ys hn
      split at e
      · rename_i z; subst z; cases e
        obtain ⟨vs, e3, q1⟩ := r.dK hn e2
        exact .base (.dK e3)
      · cases e
    · rename_i v' ys hn
      split at e
      · rename_i z; subst z; cases e
        obtain ⟨vs, e3, q1⟩ := r.dT hn e2
        exact .base (.dT e3)
      · cases e
    · cases e
  | .rol _, _, _, e, _ => by cases e
  | .ref _, _, _, e, _ => by cases e
  | .ty _, _, _, e, _ => by cases e
theorem li_isi : CallR X (.builtin "isinstance") (upRA X.K lIsi) := CallR.weak call_isi fun x H Q hq => by
  obtain ⟨m, h, as, QL, e1, r, ra, q, c⟩ := hq
  subst e1
  unfold lIsi at q
  split at q
  · obtain ⟨v, w, rfl, e, e2⟩ := ra.two
    cases (show w = _ from e2)
    obtain ⟨t, b, h1, h2, q⟩ := q
    exact ⟨v, _, .type t, _, b, rfl, .ty _, tyOf.of r h1 e, kit_ty h2, c.bl r q⟩
  · exact q.elim
end
end LL

namespace LL
open PySem L2

/-! ### methods of lists -/
def lAppend : LRM
  | .loc n v, [y], h, Q => ∃ ys, h n = some (v, .lst ys) ∧ ys.length < sizeLine ∧ Q .non (h.set n v (.lst (ys ++ [y])))
  | _, _, _, _ => False
def lExtend : LRM
  | .loc n v, [.loc n' v'], h, Q => ∃ ys zs, h n = some (v, .lst ys) ∧ h n' = some (v', .lst zs) ∧ ys.length + zs.length ≤ sizeLine ∧ Q .non (h.set n v (.lst (ys ++ zs)))
  | _, _, _, _ => False
def lPop : LRM
  | .loc n v, [], h, Q => ∃ ys y, h n = some (v, .lst ys) ∧ ys[ys.length - 1]? = some y ∧ Q y (h.set n v (.lst ys.dropLast))
  | _, _, _, _ => False
def lPopAt : LRM
  | .loc n v, [.int i], h, Q => ∃ ys k y, h n = some (v, .lst ys) ∧ -(2 ^ 63) ≤ i ∧ i < 2 ^ 63 ∧ seqIndex? i ys.length = some k ∧ ys[k]? = some y ∧ Q y (h.set n v (.lst (ys.eraseIdx k)))
  | _, _, _, _ => False
def lReverse : LRM
  | .loc n v, [], h, Q => ∃ ys, h n = some (v, .lst ys) ∧ Q .non (h.set n v (.lst ys.reverse))
  | _, _, _, _ => False
def lClear : LRM
  | .loc n v, [], h, Q => ∃ ys, h n = some (v, .lst ys) ∧ Q .non (h.set n v (.lst []))
  | _, _, _, _ => False
section
variable {X : Cx}
theorem VRels.dropLast {K : PySem.W.Frag} {m : Lay} {xs : List LV} {vs : List V} (h : VRels K m xs vs) : VRels K m xs.dropLast vs.dropLast := by
  rw [List.dropLast_eq_take, List.dropLast_eq_take, h.length]; exact h.take _
theorem lm_append : MtR X "list.append" (upRM X.K lAppend) := MtR.weak mt_append fun x xs H Q hq => by
  obtain ⟨m, h, a, as, QL, e1, r, ra, rs, q, c⟩ := hq
  subst e1
  unfold lAppend at q
  split at q
  · obtain ⟨p, e2, e3⟩ := ra
    obtain ⟨v, rfl, rv⟩ := rs.one
    obtain ⟨ys, hn, hl, q⟩ := q
    obtain ⟨vs, e5, q1⟩ := r.lst hn e3
    obtain ⟨ex, r2⟩ := r.write hn e3 (o' := .lst _) ⟨_, rfl, q1.append (.cons rv .nil)⟩
    exact ⟨p, vs, v, e2, rfl, e5, by rw [q1.length]; exact hl, c _ _ .non _ ex r2 rfl q⟩
  · exact q.elim
theorem lm_extend : MtR X "list.extend" (upRM X.K lExtend) := MtR.weak mt_extend fun x xs H Q hq => by
  obtain ⟨m, h, a, as, QL, e1, r, ra, rs, q, c⟩ := hq
  subst e1
  unfold lExtend at q
  split at q
  · obtain ⟨p, e2, e3⟩ := ra
    obtain ⟨v, rfl, p', e4, e6⟩ := rs.one
    subst e4
    obtain ⟨ys, zs, hn, hn', hl, q⟩ := q
    obtain ⟨vs, e5, q1⟩ := r.lst hn e3
    obtain ⟨ws, e7, q2⟩ := r.lst hn' e6
    obtain ⟨ex, r2⟩ := r.write hn e3 (o' := .lst _) ⟨_, rfl, q1.append q2⟩
    exact ⟨p, p', vs, ws, e2, rfl, e5, e7, by rw [q1.length, q2.length]; exact hl, c _ _ .non _ ex r2 rfl q⟩
  · exact q.elim
theorem lm_pop : MtR X "list.pop" (upRM X.K lPop) := MtR.weak mt_pop fun x xs H Q hq => by
  obtain ⟨m, h, a, as, QL, e1, r, ra, rs, q, c⟩ := hq
  subst e1
  unfold lPop at q
  split at q
  · obtain ⟨p, e2, e3⟩ := ra
    cases (show xs = [] from rs)
    obtain ⟨ys, y, hn, hl, q⟩ := q
    obtain ⟨vs, e5, q1⟩ := r.lst hn e3
    obtain ⟨w, hw, rw'⟩ := q1.get hl
    obtain ⟨ex, r2⟩ := r.write hn e3 (o' := .lst _) ⟨_, rfl, q1.dropLast⟩
    exact ⟨p, vs, w, e2, rfl, e5, by rw [q1.length]; exact hw, c _ _ y _ ex r2 (rw'.mono ex) q⟩
  · exact q.elim
theorem lm_popAt : MtR X "list.pop" (upRM X.K lPopAt) := MtR.weak mt_popAt fun x xs H Q hq => by
  obtain ⟨m, h, a, as, QL, e1, r, ra, rs, q, c⟩ := hq
  subst e1
  unfold lPopAt at q
  split at q
  · obtain ⟨p, e2, e3⟩ := ra
    obtain ⟨v, rfl, rv⟩ := rs.one
    cases (show v = _ from rv)
    obtain ⟨ys, k, y, hn, h1, h2, h3, hl, q⟩ := q
    obtain ⟨vs, e5, q1⟩ := r.lst hn e3
    obtain ⟨w, hw, rw'⟩ := q1.get hl
    obtain ⟨ex, r2⟩ := r.write hn e3 (o' := .lst _) ⟨_, rfl, q1.eraseIdx k⟩
    exact ⟨p, vs, _, k, w, e2, rfl, e5, h1, h2, by rw [q1.length]; exact h3, hw, c _ _ y _ ex r2 (rw'.mono ex) q⟩
  · exact q.elim
theorem lm_reverse : MtR X "list.reverse" (upRM X.K lReverse) := MtR.weak mt_reverse fun x xs H Q hq => by
  obtain ⟨m, h, a, as, QL, e1, r, ra, rs, q, c⟩ := hq
  subst e1
  unfold lReverse at q
  split at q
  · obtain ⟨p, e2, e3⟩ := ra
    cases (show xs = [] from rs)
    obtain ⟨ys, hn, q⟩ := q
    obtain ⟨vs, e5, q1⟩ := r.lst hn e3
    obtain ⟨ex, r2⟩ := r.write hn e3 (o' := .lst _) ⟨_, rfl, q1.reverse⟩
    exact ⟨p, vs, e2, rfl, e5, c _ _ .non _ ex r2 rfl q⟩
  · exact q.elim
theorem lm_clear : MtR X "list.clear" (upRM X.K lClear) := MtR.weak mt_clear fun x xs H Q hq => by
  obtain ⟨m, h, a, as, QL, e1, r, ra, rs, q, c⟩ := hq
  subst e1
  unfold lClear at q
  split at q
  · obtain ⟨p, e2, e3⟩ := ra
    cases (show xs = [] from rs)
    obtain ⟨ys, hn, q⟩ := q
    obtain ⟨vs, e5, q1⟩ := r.lst hn e3
    obtain ⟨ex, r2⟩ := r.write hn e3 (o' := .lst []) ⟨_, rfl, .nil⟩
    exact ⟨p, vs, e2, rfl, e5, c _ _ .non _ ex r2 rfl q⟩
  · exact q.elim
end
/-- what kind of object stands there -/
inductive Kd where | lst | dct | ins (C : Addr) (fs : List (Str × LV)) | oth
def kdO : Option (Nat × LO) → Nat → Kd
  | some (v', .lst _), v => if v' = v then .lst else .oth
  | some (v', .dK _), v => if v' = v then .dct else .oth
  | some (v', .dT _), v => if v' = v then .dct else .oth
  | some (v', .ins C fs), v => if v' = v then .ins C fs else .oth
  | _, _ => .oth
def kd : LH → LV → Kd
  | h, .loc n v => kdO (h n) v
  | _, _ => .oth
section
variable {K : PySem.W.Frag} {m : Lay} {h : LH}
theorem kd.lst (r : R K m h) {x : LV} {v : V} (e : kd h x = .lst) (rv : VRel K m x v) : tyV K "list" v m.H := by
  unfold kd at e
  split at e
  · rename_i n k
    obtain ⟨p, e1, e2⟩ := rv
    subst e1
    unfold kdO at e
    split at e
    · rename_i v' ys hn
      split at e
      · rename_i z; subst z
        obtain ⟨vs, e5, q1⟩ := r.lst hn e2
        exact .inl ⟨rfl, vs, SqL.of e5⟩
      · cases e
    · split at e <;> cases e
    · split at e <;> cases e
    · split at e <;> cases e
    · cases e
  · cases e
theorem kd.dct (r : R K m h) {x : LV} {v : V} (e : kd h x = .dct) (rv : VRel K m x v) : tyV K "dict" v m.H := by
  unfold kd at e
  split at e
  · rename_i n k
    obtain ⟨p, e1, e2⟩ := rv
    subst e1
    unfold kdO at e
    split at e
    · split at e <;> cases e
    · rename_i v' ys hn
      split at e
      · rename_i z; subst z
        obtain ⟨vs, e5, q1⟩ := r.dK hn e2
        exact .inr (.inr (.inl ⟨rfl, .inl ⟨vs, e5⟩⟩))
      · cases e
    · rename_i v' ys hn
      split at e
      · rename_i z; subst z
        obtain ⟨vs, e5, q1⟩ := r.dT hn e2
        exact .inr (.inr (.inl ⟨rfl, .inr ⟨vs, e5⟩⟩))
      · cases e
    · split at e <;> cases e
    · cases e
  · cases e
theorem kd.ins {x : LV} {C : Addr} {fs : List (Str × LV)} (e : kd h x = .ins C fs) : InsAt h x C fs := by
  unfold kd at e
  split at e
  · rename_i n k
    unfold kdO at e
    split at e
    · split at e <;> cases e
    · split at e <;> cases e
    · split at e <;> cases e
    · rename_i v' C' fs' hn
      split at e
      · rename_i z; subst z; cases e; exact hn
      · cases e
    · cases e
  · cases e
end
/-- a method of a built-in type -/
structure BM (X : Cx) (T : String) (name : Str) (r : LRM) : Prop where
  ex : ∃ id, PlainAttrs T ∧ Slot T name id ∧ typeOf (.builtin id) = pure (.type "method_descriptor") ∧ MtR X id (upRM X.K r)
/-- o.m(..): of a list, of a dict, of an instance -/
def wMeth (G : Glob) (mt : Str) (im : Bool) (rl rd : Option LRM) (ta : LTE) (tas : LTA) : LTE := fun s h Q X => ta s h (fun x h1 => match kd h1 x with
  | .lst => match rl with
    | some r => tas s h1 (fun xs h2 => r x xs h2 Q) X
    | none => False
  | .dct => match rd with
    | some r => tas s h1 (fun xs h2 => r x xs h2 Q) X
    | none => False
  | .ins C fs => im = true ∧ ∃ sp, G.meth C mt = some sp ∧ fs.lookup mt = none ∧ tas s h1 (fun xs h2 => sp (x :: xs) h2 Q X) X
  | .oth => False) X
section
variable {X : Cx} {W : WX} {G : Glob} {T : Tab} {k : Nat} {e o : Expr} {es : List Expr} {pos apos : Pos} {ta : LTE} {tas : LTA} {mt : Str} {rl rd : Option LRM} {im : Bool} {pl : Sem Bool}
theorem le_mth (tk : Takes X W) (g : GOk G T k X.prog X.w X.K X.mg X.base) (hr : Room k X.A) (hl : ∀ r, rl = some r → BM X "list" mt r) (hd : ∀ r, rd = some r → BM X "dict" mt r)
    {n : Nat} (hi : im = true → ∃ lv, T.meth mt = some (lv, n) ∧ lv ≤ k) (ho : PE X o (upE X.K W ta)) (ha : PA X (e :: es) (upA X.K W n tas))
    (he : starEach (e :: es) X.env = (false, eval e X.env) :: starEach es X.env) (hpl : (backTo pos (starEach es X.env)).any (·.1) = false)
    (hev : eval (.Call (.Attribute o mt apos) (e :: es) [] pos) X.env = (do
      let ov ← eval o X.env
      standAt apos.atName
      let (f, first) ← holding [ov] (getMethod ov mt pl)
      callWith pos f first (backTo pos (starEach (e :: es) X.env)) (backToKw pos (keywordEach [] X.env)))) : PE X (.Call (.Attribute o mt apos) (e :: es) [] pos) (upE X.K W (wMeth G mt im rl rd ta tas)) := by
  refine ⟨fun pins s σ H Q I hq => ?_⟩
  obtain ⟨m, h, ls, QL, XL, e1, r1, rs, q, c, ce⟩ := hq
  refine PySem.W.methodCall_KW (pl := pl) (thn (ho.run pins s σ H (Mid X.K m _) I ⟨m, h, ls, _, XL, e1, r1, rs, q, fun m1 h1 x v ex1 r2 rx q1 => ⟨m1, h1, x, rfl, ex1, r2, rx, q1⟩, ce⟩) fun u s1 ⟨v, H1, I1, ru, m1, h1, x, e2, ex1, r2, rx, q1⟩ => ?_) hev
  subst e2
  have bm : ∀ (T : String) (r : LRM), BM X T mt r → tyV X.K T v m1.H → tas ls h1 (fun xs h2 => r x xs h2 QL) XL →
      wpAny (model X.prog X.w) X.A (getMethod u mt pl) (fun fx s₂ => wpAny (model X.prog X.w) X.A (callWith pos fx.1 fx.2 (backTo pos (starEach (e :: es) X.env)) (backToKw pos (keywordEach [] X.env))) (EP X pins σ Q) X.xe s₂) X.xe s1 := by
    rintro T r ⟨id, pa, sl, hty, M⟩ ty q2
    obtain ⟨z1, z2⟩ := tyV_is I1 ru ty
    refine getMethod_builtin z1 pa sl hty z2 ?_
    have hA := ha.run pos pins s1 σ m1.H (fun vs H2 => upRM X.K r v vs H2 Q) I1 ⟨m1, h1, ls, _, XL, rfl, r2, rs.mono ex1, q2, fun m2 h2 xs vs ex2 r3 rxs _ q3 => ⟨m2, h2, x, xs, QL, rfl, r3, rx.mono ex2, rxs, q3, c.mono (ex1.trans ex2)⟩, ce.mono ex1⟩
    rw [he] at hA ⊢
    refine Calls.callWith_builtin (by show (false || (backTo pos (starEach es X.env)).any (·.1)) = false; rw [hpl] <;> rfl) (Calls.evalArgs_plain ?_)
    exact thn hA fun us s2 ⟨vs, H2, I2, r, q2⟩ => M pins s2 σ H2 v vs u us Q I2 ru r q2
  simp only at q1
  split at q1
  · rename_i hk
    split at q1
    · exact bm _ _ (hl _ rfl) (kd.lst r2 hk rx) q1
    · exact q1.elim
  · rename_i hk
    split at q1
    · exact bm _ _ (hd _ rfl) (kd.dct r2 hk rx) q1
    · exact q1.elim
  · rename_i C fs hk
    obtain ⟨him, sp, gm, hno, q1⟩ := q1
    obtain ⟨lv, ht, hlv⟩ := hi him
    obtain ⟨p, dx, vs, rfl, hH, kv⟩ := (kd.ins hk).ins r2 rx
    obtain rfl : u = Value.ref p := ru
    obtain ⟨f, cl, M, fd, ps, F, B⟩ := g.meth C mt sp lv n gm ht hlv
    refine getmeth_ok I1 hH cl M (kv.lnone hno) ?_
    refine PySem.W.callWith_K (first := [.ref p]) (h₀ := X.base) I.ok.mod.kin M.kp (thn (ha.run pos pins s1 σ m1.H (fun vs H2 => liftSp X.K (n + 1) sp (.ref p :: vs) H2 Q (WE W σ)) I1 ⟨m1, h1, ls, _, XL, rfl, r2, rs.mono ex1, q1, fun m2 h2 xs vs ex2 r3 rxs hn q2 =>
      lift_of r3 (.cons (rx.mono ex2) rxs) (by rw [List.length_cons, hn]) q2 (c.mono (ex1.trans ex2)) (ce.mono (ex1.trans ex2)), ce.mono ex1⟩) fun us s2 ⟨vs, H2, I2, r, q2⟩ => ⟨I2.kIn, ?_⟩) he hpl
    exact run_fnS (us := .ref p :: us) (vs := .ref p :: vs) F (hr.mono hlv) B (passAt tk σ) I2 (.cons rfl r) q2
  · exact q1.elim
theorem le_mth0 (tk : Takes X W) (g : GOk G T k X.prog X.w X.K X.mg X.base) (hr : Room k X.A) (hl : ∀ r, rl = some r → BM X "list" mt r) (hd : ∀ r, rd = some r → BM X "dict" mt r)
    (hi : im = true → ∃ lv, T.meth mt = some (lv, 0) ∧ lv ≤ k) (ho : PE X o (upE X.K W ta))
    (hev : eval (.Call (.Attribute o mt apos) [] [] pos) X.env = (do
      let ov ← eval o X.env
      standAt apos.atName
      let (f, first) ← holding [ov] (getMethod ov mt pl)
      callWith pos f first (backTo pos (starEach [] X.env)) (backToKw pos (keywordEach [] X.env)))) : PE X (.Call (.Attribute o mt apos) [] [] pos) (upE X.K W (wMeth G mt im rl rd ta wNil)) := by
  refine ⟨fun pins s σ H Q I hq => ?_⟩
  obtain ⟨m, h, ls, QL, XL, e1, r1, rs, q, c, ce⟩ := hq
  refine PySem.W.methodCall_KW (pl := pl) (thn (ho.run pins s σ H (Mid X.K m _) I ⟨m, h, ls, _, XL, e1, r1, rs, q, fun m1 h1 x v ex1 r2 rx q1 => ⟨m1, h1, x, rfl, ex1, r2, rx, q1⟩, ce⟩) fun u s1 ⟨v, H1, I1, ru, m1, h1, x, e2, ex1, r2, rx, q1⟩ => ?_) hev
  subst e2
  have bm : ∀ (T : String) (r : LRM), BM X T mt r → tyV X.K T v m1.H → r x [] h1 QL →
      wpAny (model X.prog X.w) X.A (getMethod u mt pl) (fun fx s₂ => wpAny (model X.prog X.w) X.A (callWith pos fx.1 fx.2 (backTo pos (starEach [] X.env)) (backToKw pos (keywordEach [] X.env))) (EP X pins σ Q) X.xe s₂) X.xe s1 := by
    rintro T r ⟨id, pa, sl, hty, M⟩ ty q2
    obtain ⟨z1, z2⟩ := tyV_is I1 ru ty
    refine getMethod_builtin z1 pa sl hty z2 ?_
    exact Calls.callWith_builtin rfl (PySem.evalArgs_none (M pins s1 σ m1.H v [] u [] Q I1 ru .nil ⟨m1, h1, x, [], QL, rfl, r2, rx, rfl, q2, c.mono ex1⟩))
  simp only at q1
  split at q1
  · rename_i hk
    split at q1
    · exact bm _ _ (hl _ rfl) (kd.lst r2 hk rx) q1
    · exact q1.elim
  · rename_i hk
    split at q1
    · exact bm _ _ (hd _ rfl) (kd.dct r2 hk rx) q1
    · exact q1.elim
  · rename_i C fs hk
    obtain ⟨him, sp, gm, hno, q1⟩ := q1
    obtain ⟨lv, ht, hlv⟩ := hi him
    obtain ⟨p, dx, vs, rfl, hH, kv⟩ := (kd.ins hk).ins r2 rx
    obtain rfl : u = Value.ref p := ru
    obtain ⟨f, cl, M, fd, ps, F, B⟩ := g.meth C mt sp lv 0 gm ht hlv
    refine getmeth_ok I1 hH cl M (kv.lnone hno) ?_
    exact PySem.W.callWith_K0 (first := [.ref p]) I1.kIn M.kp (run_fnS (us := [.ref p]) (vs := [.ref p]) F (hr.mono hlv) B (passAt tk σ) I1 (.cons rfl .nil) (lift_of r2 (.cons rx .nil) rfl q1 (c.mono ex1) (ce.mono ex1)))
  · exact q1.elim
/-- how a method's call is run -/
theorem hev_of {env : Env} {args : List Expr} (hb : attributeBase o mt env (eval o env) = eval o env) (hf : methodCallForm (args.length + 0) (backTo pos (starEach args env)) (backToKw pos (keywordEach [] env)) = true) (hl : (apos.endLine == pos.line) = true) :
    eval (.Call (.Attribute o mt apos) args [] pos) env = (do
      let ov ← eval o env
      standAt apos.atName
      let (f, first) ← holding [ov] (getMethod ov mt (do return (← importBound o env).getD true))
      callWith pos f first (backTo pos (starEach args env)) (backToKw pos (keywordEach [] env))) := by
  have hp : methodCallPos true o env apos pos = pure pos := by unfold methodCallPos; simp [hl]
  rw [PySem.arm_eval_Call, hb]
  show (eval o env >>= fun ov => standAt apos.atName >>= fun _ => methodCall o mt apos pos env ov (args.length + 0) (backTo pos (starEach args env)) (backToKw pos (keywordEach [] env))) = _
  unfold methodCall
  rw [hf, hp]
  rfl
end
end LL

namespace LL
open PySem L2

/-! ### statements -/
abbrev LXS := Addr → LSt → LH → Prop
structure LEnds where
  nx : LSt → LH → Prop
  rt : LV → LH → Prop
  bk : LSt → LH → Prop := fun _ _ => False
  ct : LSt → LH → Prop := fun _ _ => False
  xc : LXS := fun _ _ _ => False
abbrev LTS := LEnds → LSt → LH → Prop
section
variable (K : PySem.W.Frag) (m : Lay)
def CS (QL : LSt → LH → Prop) (Q : St → Hp → Prop) : Prop := ∀ m' h' s σ, Ext m m' → R K m' h' → SRel K m' s σ → QL s h' → Q σ m'.H
def CXS (XL : LXS) (W : WX) : Prop := ∀ m' h' s σ c, Ext m m' → R K m' h' → SRel K m' s σ → XL c s h' → W (.ref c) none σ m'.H
structure EC (W : WX) (DL : LEnds) (D : Ends) : Prop where
  nx : CS K m DL.nx D.nx
  rt : CQ K m DL.rt D.rt
  bk : CS K m DL.bk D.bk
  ct : CS K m DL.ct D.ct
  xc : CXS K m DL.xc W
end
def upS (K : PySem.W.Frag) (W : WX) (t : LTS) : TS := fun D σ H => ∃ m h s DL, m.H = H ∧ R K m h ∧ SRel K m s σ ∧ t DL s h ∧ EC K m W DL D
section
variable {K : PySem.W.Frag} {m m' : Lay} {W : WX}
theorem CS.mono {QL : LSt → LH → Prop} {Q : St → Hp → Prop} (c : CS K m QL Q) (e : Ext m m') : CS K m' QL Q := fun m2 h2 s σ e2 => c m2 h2 s σ (e.trans e2)
theorem CXS.mono {XL : LXS} (c : CXS K m XL W) (e : Ext m m') : CXS K m' XL W := fun m2 h2 s σ x e2 => c m2 h2 s σ x (e.trans e2)
theorem EC.mono {DL : LEnds} {D : Ends} (c : EC K m W DL D) (e : Ext m m') : EC K m' W DL D := ⟨c.nx.mono e, c.rt.mono e, c.bk.mono e, c.ct.mono e, c.xc.mono e⟩
theorem CXS.at {XL : LXS} (c : CXS K m XL W) {s : LSt} {σ : St} (rs : SRel K m s σ) : CE K m (fun x h => XL x s h) (WE W σ) := fun m2 h2 x e2 r2 q => c m2 h2 s σ x e2 r2 (rs.mono e2) q
end

def wSkip : LTS := fun D s h => D.nx s h
def wSeq (t u : LTS) : LTS := fun D s h => t { D with nx := u D } s h
def wDrop (te : LTE) : LTS := fun D s h => te s h (fun _ h1 => D.nx s h1) fun c h1 => D.xc c s h1
def wRet (te : LTE) : LTS := fun D s h => te s h D.rt fun c h1 => D.xc c s h1
def wRetN : LTS := fun D _ h => D.rt .non h
def wBrk : LTS := fun D s h => D.bk s h
def wCnt : LTS := fun D s h => D.ct s h
def wIfS (c : LTT) (t u : LTS) : LTS := fun D s h => c s h (fun b h1 => if b = true then t D s h1 else u D s h1) fun c h1 => D.xc c s h1
abbrev LTG := LV → LSt → LH → (LSt → LH → Prop) → LXS → Prop
abbrev LTGs := List LV → LSt → LH → (LSt → LH → Prop) → LXS → Prop
def vName (i : Nat) : LTG := fun x s h Q _ => Q (s.set i (some x)) h
def vNil : LTGs := fun xs s h Q _ => xs = [] ∧ Q s h
def vCons (g : LTG) (r : LTGs) : LTGs := fun xs s h Q X => match xs with
  | x :: ys => g x s h (fun s1 h1 => r ys s1 h1 Q X) X
  | [] => False
def vTup (n : Nat) (g : LTGs) : LTG := fun x s h Q X => match x with
  | .tup xs => xs.length = n ∧ g xs s h Q X
  | _ => False
def vSub (to ti : LTE) : LTG := fun x s h Q X => to s h (fun o h1 => ti s h1 (fun i h2 => lSet o i x h2 fun h3 => Q s h3) fun c h2 => X c s h2) fun c h1 => X c s h1
def wAsg (te : LTE) (g : LTG) : LTS := fun D s h => te s h (fun x h1 => g x s h1 D.nx D.xc) fun c h1 => D.xc c s h1
def addI : LV → LV → (LV → Prop) → Prop
  | .int i, .int j, Q => Q (.int (i + j))
  | _, _, _ => False
/-- o.f = value -/
def setF : LV → Addr → Str → List (Str × LV) → LV → LH → (LH → Prop) → Prop
  | .loc n v, C, f, fs, y, h, Q => fs.length < 1000 ∧ Q (h.set n v (.ins C (putL f y fs)))
  | _, _, _, _, _, _, _ => False
def wFldS (G : Glob) (f : Str) (ta tv : LTE) : LTS := fun D s h => tv s h (fun y h1 => ta s h1 (fun x h2 => InsM h2 x fun C fs => G.attr C f = true ∧ setF x C f fs y h2 fun h3 => D.nx s h3) fun c h2 => D.xc c s h2) fun c h1 => D.xc c s h1
/-- o.f += value -/
def wFldA (G : Glob) (f : Str) (ta tv : LTE) : LTS := fun D s h => ta s h (fun x h1 => InsM h1 x fun C fs => G.attr C f = true ∧ optM (fs.lookup f) fun z =>
  tv s h1 (fun y h2 => InsM h2 x fun C' fs' => C' = C ∧ addI z y fun u => setF x C f fs' u h2 fun h4 => D.nx s h4) fun c h2 => D.xc c s h2) fun c h1 => D.xc c s h1
/-- up to what is forgotten -/
def Fgt (P : LSt → LH → Prop) : LSt → LH → Prop := fun s h => ∃ s0 h0, LSt.le s0 s ∧ LH.le h0 h ∧ P s0 h0
theorem LSt.le_refl (s : LSt) : LSt.le s s := ⟨rfl, fun _ _ e => e⟩
theorem fgt {P : LSt → LH → Prop} {s : LSt} {h : LH} (p : P s h) : Fgt P s h := ⟨s, h, LSt.le_refl s, LH.le_refl h, p⟩
def wWhile (c : LTT) (tb : LTS) : LTS := fun D s h => ∃ Wl : Nat → LSt → LH → Prop, (∃ n, Wl n s h) ∧ ∀ n s h, Wl n s h → c s h (fun b h1 => if b = true then
  ∃ N : LSt → LH → Prop, (∀ s' h', N s' h' → ∃ n', n' < n ∧ Wl n' s' h') ∧ tb { D with nx := Fgt N, ct := Fgt N, bk := D.nx } s h1 else D.nx s h1) fun x h1 => D.xc x s h1

def upG (K : PySem.W.Frag) (W : WX) (g : LTG) : TG := fun v σ H Q => ∃ m h x s QL XL, m.H = H ∧ R K m h ∧ VRel K m x v ∧ SRel K m s σ ∧ g x s h QL XL ∧ CS K m QL Q ∧ CXS K m XL W
def upGs (K : PySem.W.Frag) (W : WX) (g : LTGs) : TGs := fun vs σ H Q => ∃ m h xs s QL XL, m.H = H ∧ R K m h ∧ VRels K m xs vs ∧ SRel K m s σ ∧ g xs s h QL XL ∧ CS K m QL Q ∧ CXS K m XL W
theorem _root_.L2.PG.weak {X : Cx} {e : Expr} {t t' : TG} (h : PG X e t) (i : ∀ v σ H Q, t' v σ H Q → t v σ H Q) : PG X e t' := ⟨fun pins s σ H v u Q I r q => h.run pins s σ H v u Q I r (i _ _ _ _ q)⟩
theorem _root_.L2.PGs.weak {X : Cx} {e : List Expr} {t t' : TGs} (h : PGs X e t) (i : ∀ v σ H Q, t' v σ H Q → t v σ H Q) : PGs X e t' := ⟨fun pins s σ H v u Q I r q => h.run pins s σ H v u Q I r (i _ _ _ _ q)⟩

section
variable {X : Cx} {W : WX} {G : Glob} {T : Tab} {k : Nat} {a b c e o i value : Expr} {es : List Expr} {pos pos' tpos : Pos} {ta tb te tv to ti : LTE} {t u : LTT} {tas : LTA} {st : Stmt} {sts body body' : List Stmt} {ls lr : LTS} {g : LTG} {gs : LTGs} {f : Str}
theorem ls_nil : PSs X [] (upS X.K W wSkip) := pss_nil.weak fun D σ H ⟨m, h, s, DL, e1, r1, rs, q, ec⟩ => by subst e1; exact ec.nx m h s σ (Ext.refl m) r1 rs q
theorem ls_cons (h1 : PS X st (upS X.K W ls)) (h2 : PSs X sts (upS X.K W lr)) : PSs X (st :: sts) (upS X.K W (wSeq ls lr)) :=
  (pss_cons h1 h2).weak fun D σ H ⟨m, h, s, DL, e1, r1, rs, q, ec⟩ => ⟨m, h, s, _, e1, r1, rs, q, ⟨fun m1 h1 s1 σ1 ex1 r2 rs1 q1 => ⟨m1, h1, s1, DL, rfl, r2, rs1, q1, ec.mono ex1⟩, ec.rt, ec.bk, ec.ct, ec.xc⟩⟩
theorem ls_pass : PS X (.Pass pos) (upS X.K W wSkip) := ps_pass.weak fun D σ H ⟨m, h, s, DL, e1, r1, rs, q, ec⟩ => by subst e1; exact ec.nx m h s σ (Ext.refl m) r1 rs q
theorem ls_brk : PS X (.Break pos) (upS X.K W wBrk) := ps_break.weak fun D σ H ⟨m, h, s, DL, e1, r1, rs, q, ec⟩ => by subst e1; exact ec.bk m h s σ (Ext.refl m) r1 rs q
theorem ls_cnt : PS X (.Continue pos) (upS X.K W wCnt) := ps_continue.weak fun D σ H ⟨m, h, s, DL, e1, r1, rs, q, ec⟩ => by subst e1; exact ec.ct m h s σ (Ext.refl m) r1 rs q
theorem ls_expr (he : PE X e (upE X.K W te)) (hs : swapsWith e none pos.line X.env = pure false) : PS X (.Expr e pos) (upS X.K W (wDrop te)) :=
  (ps_expr he hs).weak fun D σ H ⟨m, h, s, DL, e1, r1, rs, q, ec⟩ => ⟨m, h, s, _, _, e1, r1, rs, q, fun m1 h1 x v ex1 r2 rx q1 => ec.nx m1 h1 s σ ex1 r2 (rs.mono ex1) q1, ec.xc.at rs⟩
theorem ls_ret (he : PE X e (upE X.K W te)) : PS X (.Return (some e) pos) (upS X.K W (wRet te)) :=
  (ps_ret he).weak fun D σ H ⟨m, h, s, DL, e1, r1, rs, q, ec⟩ => ⟨m, h, s, _, _, e1, r1, rs, q, ec.rt, ec.xc.at rs⟩
theorem ls_retN : PS X (.Return none pos) (upS X.K W wRetN) := ps_retN.weak fun D σ H ⟨m, h, s, DL, e1, r1, rs, q, ec⟩ => by subst e1; exact ec.rt.non r1 q
theorem ls_if (hc : PT X c (upT X.K W t)) (ha : PSs X body (upS X.K W ls)) (hb : PSs X body' (upS X.K W lr)) : PS X (.If c body body' pos) (upS X.K W (wIfS t ls lr)) :=
  (ps_if hc ha hb).weak fun D σ H ⟨m, h, s, DL, e1, r1, rs, q, ec⟩ => ⟨m, h, s, _, _, e1, r1, rs, q, fun m1 h1 b ex1 r2 q1 => by
    cases b
    · rw [if_neg Bool.false_ne_true] at q1 ⊢; exact ⟨m1, h1, s, DL, rfl, r2, rs.mono ex1, q1, ec.mono ex1⟩
    · rw [if_pos rfl] at q1 ⊢; exact ⟨m1, h1, s, DL, rfl, r2, rs.mono ex1, q1, ec.mono ex1⟩, ec.xc.at rs⟩
theorem lg_name {j : Nat} {x : Str} (h : PG X (.Name x pos) (gName j)) : PG X (.Name x pos) (upG X.K W (vName j)) :=
  h.weak fun v σ H Q ⟨m, h, x, s, QL, XL, e1, r1, rx, rs, q, c, cx⟩ => by subst e1; exact c m h _ _ (Ext.refl m) r1 (rs.set rx j) q
theorem lgs_nil : PGs X [] (upGs X.K W vNil) := pgs_nil.weak fun v σ H Q ⟨m, h, xs, s, QL, XL, e1, r1, rx, rs, ⟨e2, q⟩, c, cx⟩ => by
  subst e1 e2; cases (show v = [] from rx); exact ⟨rfl, c m h _ _ (Ext.refl m) r1 rs q⟩
theorem lgs_cons {h : PG X e (upG X.K W g) → PGs X es (upGs X.K W gs) → PGs X (e :: es) (gCons (upG X.K W g) (upGs X.K W gs))} (h1 : PG X e (upG X.K W g)) (h2 : PGs X es (upGs X.K W gs)) : PGs X (e :: es) (upGs X.K W (vCons g gs)) :=
  (h h1 h2).weak fun v σ H Q ⟨m, h, xs, s, QL, XL, e1, r1, rx, rs, q, c, cx⟩ => by
    cases xs with
    | nil => exact q.elim
    | cons x ys =>
      obtain ⟨w, ws, rfl, q1, q2⟩ := rx
      exact ⟨w, ws, rfl, m, h, x, s, _, XL, e1, r1, q1, rs, q, fun m1 h1 s1 σ1 ex1 r2 rs1 q3 => ⟨m1, h1, ys, s1, QL, XL, rfl, r2, q2.mono ex1, rs1, q3, c.mono ex1, cx.mono ex1⟩, cx⟩
theorem lg_tup {n kk : Nat} (h : PG X (.Tuple es kk pos) (gTup X.K n (upGs X.K W gs))) : PG X (.Tuple es kk pos) (upG X.K W (vTup n gs)) :=
  h.weak fun v σ H Q ⟨m, h, x, s, QL, XL, e1, r1, rx, rs, q, c, cx⟩ => by
    cases x <;> try exact q.elim
    obtain ⟨a, vs, rfl, e2, q1⟩ := rx
    subst e1
    exact ⟨a, vs, rfl, SqT.of e2, by rw [q1.length]; exact q.1, m, h, _, s, QL, XL, rfl, r1, q1, rs, q.2, c, cx⟩
theorem lg_sub (hu : X.A.units + 1 < cLine) (ho : PE X o (upE X.K W to)) (hi : PE X i (upE X.K W ti)) (h : PE X o (upE X.K W to) → PE X i (upE X.K W ti) → PSet X (upSet X.K lSet) → PG X (.Subscript o i pos) (gSub (upE X.K W to) (upE X.K W ti) (upSet X.K lSet))) : PG X (.Subscript o i pos) (upG X.K W (vSub to ti)) :=
  (h ho hi (li_set hu)).weak fun v σ H Q ⟨m, h, x, s, QL, XL, e1, r1, rx, rs, q, c, cx⟩ => ⟨m, h, s, _, _, e1, r1, rs, q, fun m1 h1 y u ex1 r2 ry q1 =>
    ⟨m1, h1, s, _, _, rfl, r2, rs.mono ex1, q1, fun m2 h2 z w ex2 r3 rz q2 => ⟨m2, h2, y, z, x, _, rfl, r3, ry.mono ex2, rz, rx.mono (ex1.trans ex2), q2, fun m3 h3 ex3 r4 q3 =>
      c m3 h3 s σ (ex1.trans (ex2.trans ex3)) r4 (rs.mono (ex1.trans (ex2.trans ex3))) q3⟩, (cx.at rs).mono ex1⟩, cx.at rs⟩
theorem ls_asg {tg : Expr} (he : PE X e (upE X.K W te)) (hg : PG X tg (upG X.K W g)) (hs : swapsWithSole [tg] e pos.line X.env = pure false) (hw : swappedStores [tg] e X.env = pure none) (h1 : (assignEach [tg] X.env).map (·.2) = [assign tg X.env]) : PS X (.Assign [tg] e pos) (upS X.K W (wAsg te g)) :=
  (ps_asg he hg hs hw h1).weak fun D σ H ⟨m, h, s, DL, e1, r1, rs, q, ec⟩ => ⟨m, h, s, _, _, e1, r1, rs, q, fun m1 h1 x v ex1 r2 rx q1 => ⟨m1, h1, x, s, _, _, rfl, r2, rx, rs.mono ex1, q1, ec.nx.mono ex1, ec.xc.mono ex1⟩, ec.xc.at rs⟩
theorem setF.of {K : PySem.W.Frag} {m : Lay} {h : LH} {x y : LV} {v u : V} {C : Addr} {fs : List (Str × LV)} {Q : LH → Prop} (q : setF x C f fs y h Q) (hi : InsAt h x C fs) (r : R K m h) (rx : VRel K m x v) (ry : VRel K m y u) :
    ∃ a dx vs, v = .ref a ∧ m.H a = some (.ins C dx vs) ∧ vs.length < 1000 ∧ ∃ h', Ext m ⟨m.l, upd m.H a (.ins C dx (putF f u vs))⟩ ∧ R K ⟨m.l, upd m.H a (.ins C dx (putF f u vs))⟩ h' ∧ Q h' := by
  cases x <;> try exact q.elim
  obtain ⟨hl, q⟩ := q
  have hn : h _ = some (_, .ins C fs) := hi
  obtain ⟨a, rfl, e2⟩ := rx
  obtain ⟨dx, vs, e3, kv⟩ := r.ins hn e2
  obtain ⟨ex, r2⟩ := r.write hn e2 (o' := .ins C (putL f y fs)) ⟨dx, _, rfl, kv.put ry⟩
  exact ⟨a, dx, vs, rfl, e3, by rw [kv.length]; exact hl, _, ex, r2, q⟩
theorem ls_fld (gk : GOk G T k X.prog X.w X.K X.mg X.base) (ha : PE X o (upE X.K W ta)) (hv : PE X value (upE X.K W tv)) (hs : swapsWith value (some (.Attribute o f pos')) pos.line X.env = pure false) : PS X (.Assign [.Attribute o f pos'] value pos) (upS X.K W (wFldS G f ta tv)) :=
  (ps_fld ha hv hs).weak fun D σ H ⟨m, h, s, DL, e1, r1, rs, q, ec⟩ => ⟨m, h, s, _, _, e1, r1, rs, q, fun m1 h1 y v ex1 r2 ry q1 =>
    ⟨m1, h1, s, _, _, rfl, r2, rs.mono ex1, q1, fun m2 h2 x u ex2 r3 rx q2 => by
      obtain ⟨C, fs, hi, ga, q2⟩ := InsM.of q2
      obtain ⟨a, dx, vs, rfl, e3, hl, h3, ex3, r4, q3⟩ := q2.of hi r3 rx (ry.mono ex2)
      obtain ⟨cl, na⟩ := gk.attr _ _ ga
      have ex := ex1.trans (ex2.trans ex3)
      exact ⟨a, C, dx, vs, rfl, e3, cl, na, hl, ec.nx _ _ s σ ex r4 (rs.mono ex) q3⟩, (ec.xc.at rs).mono ex1⟩, ec.xc.at rs⟩
theorem ls_flda (gk : GOk G T k X.prog X.w X.K X.mg X.base) (ha : PE X o (upE X.K W ta)) (hv : PE X value (upE X.K W tv)) : PS X (.AugAssign (.Attribute o f tpos) .Add value pos) (upS X.K W (wFldA G f ta tv)) :=
  (ps_fldaug ha hv in_add).weak fun D σ H ⟨m, h, s, DL, e1, r1, rs, q, ec⟩ => ⟨m, h, s, _, _, e1, r1, rs, q, fun m1 h1 x v ex1 r2 rx q1 => by
    obtain ⟨C, fs, hi, ga, q1⟩ := InsM.of q1
    obtain ⟨z, hlk, q1⟩ := q1.of
    obtain ⟨a, dx, vs, rfl, e3, kv⟩ := hi.ins r2 rx
    obtain ⟨cl, na⟩ := gk.attr _ _ ga
    rcases kv.lookup f with ⟨z, _⟩ | ⟨y', w, z1, z2, rv⟩
    · rw [z] at hlk; cases hlk
    · rw [hlk] at z1; cases z1
      refine ⟨a, C, dx, vs, _, rfl, e3, cl, na, z2, m1, h1, s, _, _, rfl, r2, rs.mono ex1, q1, fun m2 h2 y u ex2 r3 ry q2 => ?_, (ec.xc.at rs).mono ex1⟩
      obtain ⟨C', fs', hi', rfl, q2⟩ := InsM.of q2
      have hz : ∃ i j, z = .int i ∧ y = .int j := by
        cases z <;> cases y <;> first | exact q2.elim | exact ⟨_, _, rfl, rfl⟩
      obtain ⟨i, j, rfl, rfl⟩ := hz
      cases (show w = _ from rv)
      cases (show u = _ from ry)
      obtain ⟨a', dx', vs', ea, e4, hl, h3, ex3, r4, q3⟩ := q2.of hi' r3 (rx.mono ex2) (show VRel X.K m2 (.int (i + j)) _ from rfl)
      cases ea
      have ex := ex1.trans (ex2.trans ex3)
      exact ⟨_, _, rfl, rfl, dx', vs', e4, hl, ec.nx _ _ s σ ex r4 (rs.mono ex) q3⟩, ec.xc.at rs⟩
end
end LL

namespace LL
open PySem L2

/-! ### loops -/
section
variable {X : Cx} {W : WX} {c : Expr} {body : List Stmt} {pos : Pos} {t : LTT} {tb : LTS}
theorem ls_while (hp : PassesOwn (model X.prog X.w) X.A X.env X.xe) (hc : PT X c (upT X.K W t)) (hb : PSs X body (upS X.K W tb)) : PS X (.While c body [] pos) (upS X.K W (wWhile t tb)) :=
  (ps_while hp hc hb).weak fun D σ H ⟨m, h, s, DL, e1, r1, rs, ⟨Wl, ⟨n0, w0⟩, turn⟩, ec⟩ => by
    refine ⟨fun n σ' H' => ∃ m1 h1 s1, m1.H = H' ∧ Ext m m1 ∧ R X.K m1 h1 ∧ SRel X.K m1 s1 σ' ∧ Wl n s1 h1, ⟨n0, m, h, s, e1, Ext.refl m, r1, rs, w0⟩, ?_⟩
    rintro n σ' H' ⟨m1, h1, s1, e2, ex1, r2, rs1, w1⟩
    refine ⟨m1, h1, s1, _, _, e2, r2, rs1, turn n s1 h1 w1, fun m2 h2 b ex2 r3 q => ?_, (ec.xc.mono ex1).at rs1⟩
    have ex := ex1.trans ex2
    cases b
    · rw [if_neg Bool.false_ne_true] at q; exact iteF (ec.nx m2 h2 s1 _ ex r3 (rs1.mono ex2) q)
    · rw [if_pos rfl] at q
      obtain ⟨N, hN, q⟩ := q
      refine iteT ⟨fun σ' H' => ∃ m', m' < n ∧ ∃ m1 h1 s1, m1.H = H' ∧ Ext m m1 ∧ R X.K m1 h1 ∧ SRel X.K m1 s1 σ' ∧ Wl m' s1 h1, fun σ' H' z => z, m2, h2, s1, _, rfl, r3, rs1.mono ex2, q, ?_⟩
      have again : CS X.K m2 (Fgt N) fun σ' H' => ∃ m', m' < n ∧ ∃ m1 h1 s1, m1.H = H' ∧ Ext m m1 ∧ R X.K m1 h1 ∧ SRel X.K m1 s1 σ' ∧ Wl m' s1 h1 :=
        fun m3 h3 s3 σ3 ex3 r4 rs3 ⟨s0, h0, ls, lh, z⟩ => let ⟨n', hn, w3⟩ := hN _ _ z; ⟨n', hn, m3, h0, s0, rfl, ex.trans ex3, r4.le lh, rs3.le ls, w3⟩
      exact ⟨again, ec.rt.mono ex, ec.nx.mono ex, again, ec.xc.mono ex⟩
end
/-- what comes at a turn: nothing any more, or a value -/
abbrev LIt := Nat → LH → Option (Option LV)
structure ItOk (K : PySem.W.Frag) (m0 : Lay) (J : It) (L : LIt) : Prop where
  go : ∀ m h i x, Ext m0 m → R K m h → L i h = some (some x) → J.go i m.H ∧ ∀ v H', J.yld i m.H v H' → ∃ m', m'.H = H' ∧ Ext m m' ∧ R K m' h ∧ VRel K m' x v
  stop : ∀ m h i, Ext m0 m → R K m h → L i h = some none → J.stop i m.H
abbrev LTI := LSt → LH → (LIt → LH → Prop) → LX → Prop
def upIt (K : PySem.W.Frag) (W : WX) (t : LTI) : TI := fun σ H Rr => ∃ m h s RL XL, m.H = H ∧ R K m h ∧ SRel K m s σ ∧ t s h RL XL ∧ (∀ m' h' L J, Ext m m' → R K m' h' → ItOk K m' J L → RL L h' → Rr J m'.H) ∧ CE K m XL (WE W σ)
theorem _root_.L2.PI.weak {X : Cx} {tg e : Expr} {t t' : TI} (h : PI X tg e t) (i : ∀ σ H Q, t' σ H Q → t σ H Q) : PI X tg e t' := ⟨fun pins s σ H Q I q => h.run pins s σ H Q I (i _ _ _ q)⟩
def wFor (ti : LTI) (g : LTG) (tb : LTS) : LTS := fun D s h => ti s h (fun L h1 => ∃ Wl : Nat → Nat → LSt → LH → Prop, (∃ n, Wl 0 n s h1) ∧ ∀ i n s h, Wl i n s h →
  (L i h = some none ∧ D.nx s h) ∨ ∃ x, L i h = some (some x) ∧ ∃ N : LSt → LH → Prop, (∀ s' h', N s' h' → ∃ n', n' < n ∧ Wl (i + 1) n' s' h') ∧ g x s h (fun s2 h2 => tb { D with nx := Fgt N, ct := Fgt N, bk := D.nx } s2 h2) D.xc) fun c h1 => D.xc c s h1
section
variable {X : Cx} {W : WX} {iter tg : Expr} {body : List Stmt} {pos : Pos} {ti : LTI} {g : LTG} {tb : LTS}
theorem ls_for (hp : PassesOwn (model X.prog X.w) X.A X.env X.xe) (hc : X.calm = true) (hi : PI X tg iter (upIt X.K W ti)) (hg : PG X tg (upG X.K W g)) (hb : PSs X body (upS X.K W tb)) (hs : ∀ x, foldedSetIterable iter X.env x = pure x) : PS X (.For tg iter body [] pos) (upS X.K W (wFor ti g tb)) :=
  (ps_for hp hc hi hg hb hs).weak fun D σ H ⟨m, h, s, DL, e1, r1, rs, q, ec⟩ => by
    refine ⟨m, h, s, _, _, e1, r1, rs, q, fun m1 h1 L J ex1 r2 ok q1 => ?_, ec.xc.at rs⟩
    obtain ⟨Wl, ⟨n0, w0⟩, turn⟩ := q1
    refine ⟨fun i n σ' H' => ∃ m2 h2 s2, m2.H = H' ∧ Ext m1 m2 ∧ R X.K m2 h2 ∧ SRel X.K m2 s2 σ' ∧ Wl i n s2 h2, ⟨n0, m1, h1, s, rfl, Ext.refl m1, r2, rs.mono ex1, w0⟩, ?_⟩
    rintro i n σ' H' ⟨m2, h2, s2, e2, ex2, r3, rs2, w2⟩
    subst e2
    rcases turn i n s2 h2 w2 with ⟨st, q2⟩ | ⟨x, gx, N, hN, q2⟩
    · exact .inl ⟨ok.stop m2 h2 i ex2 r3 st, ec.nx m2 h2 s2 _ (ex1.trans ex2) r3 rs2 q2⟩
    · obtain ⟨go, yl⟩ := ok.go m2 h2 i x ex2 r3 gx
      refine .inr ⟨go, fun σ' H' => ∃ n', n' < n ∧ ∃ m2 h2 s2, m2.H = H' ∧ Ext m1 m2 ∧ R X.K m2 h2 ∧ SRel X.K m2 s2 σ' ∧ Wl (i + 1) n' s2 h2, fun σ' H' z => z, fun v H3 y => ?_⟩
      obtain ⟨m3, e3, ex3, r4, rv⟩ := yl v H3 y
      subst e3
      have ex13 := ex2.trans ex3
      refine ⟨m3, h2, x, s2, _, _, rfl, r4, rv, rs2.mono ex3, q2, fun m4 h4 s4 σ4 ex4 r5 rs4 q4 => ⟨m4, h4, s4, _, rfl, r5, rs4, q4, ?_⟩, (ec.xc.mono (ex1.trans ex13))⟩
      have ex := ex13.trans ex4
      have again : CS X.K m4 (Fgt N) fun σ' H' => ∃ n', n' < n ∧ ∃ m2 h2 s2, m2.H = H' ∧ Ext m1 m2 ∧ R X.K m2 h2 ∧ SRel X.K m2 s2 σ' ∧ Wl (i + 1) n' s2 h2 :=
        fun m5 h5 s5 σ5 ex5 r6 rs5 ⟨s0, h0, ls, lh, z⟩ => let ⟨n', hn, w5⟩ := hN _ _ z; ⟨n', hn, m5, h0, s0, rfl, ex.trans ex5, r6.le lh, rs5.le ls, w5⟩
      exact ⟨again, ec.rt.mono (ex1.trans ex), ec.nx.mono (ex1.trans ex), again, ec.xc.mono (ex1.trans ex)⟩
end

/-! ### what is walked -/
def listIt (n : Nm) (v : Nat) : LIt := fun i h => match h n with
  | some (v', .lst xs) => if v' = v then some xs[i]? else none
  | _ => none
def valsIt (xs : List LV) : LIt := fun i _ => some xs[i]?
def rngIt (lo : Int) (n : Nat) : LIt := fun i _ => if i < n then some (some (.int (lo + i))) else some none
def lstO : Option (Nat × LO) → Nat → Prop → Prop
  | some (v', .lst _), v, P => v' = v ∧ P
  | _, _, _ => False
theorem lstO.of {o : Option (Nat × LO)} {v : Nat} {P : Prop} (q : lstO o v P) : (∃ xs, o = some (v, .lst xs)) ∧ P := by
  unfold lstO at q
  split at q
  · obtain ⟨rfl, q⟩ := q; exact ⟨⟨_, rfl⟩, q⟩
  · exact q.elim
def seqM : LV → LH → (LIt → LH → Prop) → Prop
  | .loc n v, h, RL => lstO (h n) v (RL (listIt n v) h)
  | .tup xs, h, RL => RL (valsIt xs) h
  | .rol ns, h, RL => RL (valsIt (ns.map LV.int)) h
  | _, _, _ => False
def rngM : List LV → LH → (LIt → LH → Prop) → Prop
  | [.int j], h, RL => (-(2 ^ 62) ≤ j ∧ j < 2 ^ 62) ∧ RL (rngIt 0 j.toNat) h
  | [.int i, .int j], h, RL => (-(2 ^ 62) ≤ i ∧ i < 2 ^ 62 ∧ -(2 ^ 62) ≤ j ∧ j < 2 ^ 62) ∧ RL (rngIt i (j - i).toNat) h
  | _, _, _ => False
def wSeqI (ta : LTE) : LTI := fun s h RL X => ta s h (fun x h1 => seqM x h1 RL) X
def wRng (tas : LTA) : LTI := fun s h RL X => tas s h (fun xs h1 => rngM xs h1 RL) X
section
variable {X : Cx} {W : WX} {a b iter tg : Expr} {ta : LTE} {tas : LTA} {p pos : Pos}
theorem rng_ok {K : PySem.W.Frag} {m0 : Lay} (lo : Int) (n : Nat) : ItOk K m0 (Itr lo n) (rngIt lo n) where
  go := fun m h i x _ r e => by
    unfold rngIt at e
    split at e
    · rename_i hi
      cases e
      exact ⟨hi, fun v H' ⟨e1, e2⟩ => ⟨m, e1.symm, Ext.refl m, r, e2⟩⟩
    · cases e
  stop := fun m h i _ r e => by
    unfold rngIt at e
    split at e
    · cases e
    · rename_i hi; exact Nat.le_of_not_lt hi
theorem lit_ok {K : PySem.W.Frag} {m0 : Lay} {n : Nm} {v : Nat} {p : Addr} (e : m0.l (n, v) = some p) : ItOk K m0 (Itl K p) (listIt n v) where
  go := fun m h i x ex r g => by
    unfold listIt at g
    split at g
    · rename_i v' xs hn
      split at g
      · rename_i z; subst z
        obtain ⟨vs, e3, q⟩ := r.lst hn (ex.l _ _ e)
        have g : xs[i]? = some x := Option.some.inj g
        obtain ⟨w, hw, rv⟩ := q.get g
        refine ⟨⟨vs, w, SqL.of e3, hw⟩, fun u H' ⟨e1, e2⟩ => ⟨m, e1.symm, Ext.refl m, r, ?_⟩⟩
        have := e2 vs (SqL.of e3)
        rw [hw] at this; cases this; exact rv
      · cases g
    · cases g
  stop := fun m h i ex r g => by
    unfold listIt at g
    split at g
    · rename_i v' xs hn
      split at g
      · rename_i z; subst z
        obtain ⟨vs, e3, q⟩ := r.lst hn (ex.l _ _ e)
        have g : xs[i]? = none := Option.some.inj g
        exact ⟨vs, SqL.of e3, by rw [q.length]; exact List.getElem?_eq_none_iff.mp g⟩
      · cases g
    · cases g
theorem tit_ok {K : PySem.W.Frag} {m0 : Lay} {xs : List LV} {vs : List V} {p : Addr} (e : m0.H p = some (.tup vs)) (q : VRels K m0 xs vs) : ItOk K m0 (Itt K p) (valsIt xs) where
  go := fun m h i x ex r g => by
    have g : xs[i]? = some x := Option.some.inj g
    obtain ⟨w, hw, rv⟩ := (q.mono ex).get g
    have e3 := SqT.of (K := K) (ex.t _ _ e)
    refine ⟨⟨vs, w, e3, hw⟩, fun u H' ⟨e1, e2⟩ => ⟨m, e1.symm, Ext.refl m, r, ?_⟩⟩
    have := e2 vs e3
    rw [hw] at this; cases this; exact rv
  stop := fun m h i ex r g => by
    have g : xs[i]? = none := Option.some.inj g
    exact ⟨vs, SqT.of (ex.t _ _ e), by rw [q.length]; exact List.getElem?_eq_none_iff.mp g⟩
theorem rit_ok {K : PySem.W.Frag} {m0 : Lay} {ns : List Int} {p : Addr} (e : RoL K m0.H p (ns.map V.int)) : ItOk K m0 (Itl K p) (valsIt (ns.map LV.int)) where
  go := fun m h i x ex r g => by
    have g : (ns.map LV.int)[i]? = some x := Option.some.inj g
    obtain ⟨w, hw, rv⟩ := (VRels.ints (K := K) (m := m) ns).get g
    have e3 := (e.mono ex).sq
    refine ⟨⟨_, w, e3, hw⟩, fun u H' ⟨e1, e2⟩ => ⟨m, e1.symm, Ext.refl m, r, ?_⟩⟩
    have := e2 _ e3
    rw [hw] at this; cases this; exact rv
  stop := fun m h i ex r g => by
    have g : (ns.map LV.int)[i]? = none := Option.some.inj g
    exact ⟨_, (e.mono ex).sq, by rw [List.length_map]; simpa using List.getElem?_eq_none_iff.mp g⟩
/-- a list or a tuple, found at run time -/
theorem pi_any {tl : TE} (hl : PE X iter tl) : PI X tg iter (fun σ H Rr => tl σ H fun x H1 => ∃ a, x = .ref a ∧ ((∃ xs, SqL X.K H1 a xs ∧ Rr (Itl X.K a) H1) ∨ ∃ xs, SqT X.K H1 a xs ∧ Rr (Itt X.K a) H1)) := by
  refine ⟨fun pins s σ H Rr I hq => thn (hl.run pins s σ H _ I hq) fun v s1 ⟨x, H1, I1, rx, a, e, q⟩ => ?_⟩
  subst e
  cases rx
  have fp : ∀ b, b ∈ [s1.heap.objs.size] → FpOk X pins H1 b := fun b hb => by
    rw [List.mem_singleton.mp hb]
    exact I1.fpOk (Nat.le_refl _) (I1.hok.fresh (Nat.le_refl _))
  rcases q with ⟨xs, hq, q⟩ | ⟨xs, hq, q⟩
  · obtain ⟨its, _, pl, _⟩ := I1.list hq
    exact wpAny_pyIter_list pl.isList ⟨_, _, _, _, H1, rfl, I1.kept (t' := s1.toks) (fun _ _ => Heap.get?_push_of_some _), turn_list a _, ⟨_, Heap.get?_push_size _ rfl, rfl, rfl⟩, fp, q⟩
  · obtain ⟨its, _, pl, _⟩ := I1.tuple hq
    exact wpAny_pyIter_tuple (show s1.heap.IsTuple a its.toArray from pl) ⟨_, _, _, _, H1, rfl, I1.kept (t' := s1.toks) (fun _ _ => Heap.get?_push_of_some _), turn_tuple a _, ⟨_, Heap.get?_push_size _ rfl, rfl, rfl⟩, fp, q⟩
theorem lj_seq (ha : PE X iter (upE X.K W ta)) : PI X tg iter (upIt X.K W (wSeqI ta)) := (pi_any ha).weak fun σ H Rr ⟨m, h, s, RL, XL, e1, r1, rs, q, hR, ce⟩ =>
  ⟨m, h, s, _, _, e1, r1, rs, q, fun m1 h1 x v ex1 r2 rx q1 => by
    cases x with
    | loc n k =>
      obtain ⟨⟨xs, hn⟩, q1⟩ := lstO.of q1
      obtain ⟨p, rfl, e2⟩ := rx
      obtain ⟨vs, e3, q2⟩ := r2.lst hn e2
      exact ⟨p, rfl, .inl ⟨vs, SqL.of e3, hR m1 h1 _ _ ex1 r2 (lit_ok e2) q1⟩⟩
    | tup xs =>
      obtain ⟨p, vs, rfl, e2, q2⟩ := rx
      exact ⟨p, rfl, .inr ⟨vs, SqT.of e2, hR m1 h1 _ _ ex1 r2 (tit_ok e2 q2) q1⟩⟩
    | rol ns =>
      obtain ⟨p, rfl, e2⟩ := rx
      exact ⟨p, rfl, .inl ⟨_, e2.sq, hR m1 h1 _ _ ex1 r2 (rit_ok e2) q1⟩⟩
    | _ => exact q1.elim, ce⟩
theorem lj_rng1 (hg : Gl X "range") (hm : X.mg "range" = none) (ha : PA X [a] (upA X.K W 1 tas)) (hs : starEach [a] X.env = [(false, eval a X.env)]) : PI X tg (.Call (.Name "range" p) [a] [] pos) (upIt X.K W (wRng tas)) :=
  (pi_range1 hg hm ha hs).weak fun σ H Rr ⟨m, h, s, RL, XL, e1, r1, rs, q, hR, ce⟩ => ⟨m, h, s, _, _, e1, r1, rs, q, fun m1 h1 xs vs ex1 r2 rx hn q1 => by
    replace q1 : rngM xs h1 RL := q1
    unfold rngM at q1
    split at q1
    · rename_i j
      obtain ⟨v, rfl, rv⟩ := rx.one
      cases (show v = _ from rv)
      exact ⟨_, rfl, q1.1.1, q1.1.2, hR m1 h1 _ _ ex1 r2 (rng_ok 0 _) q1.2⟩
    · simp at hn
    · exact q1.elim, ce⟩
theorem lj_rng2 (hg : Gl X "range") (hm : X.mg "range" = none) (ha : PA X [a, b] (upA X.K W 2 tas)) (hs : starEach [a, b] X.env = [(false, eval a X.env), (false, eval b X.env)]) (hs2 : starEach [b] X.env = [(false, eval b X.env)]) :
    PI X tg (.Call (.Name "range" p) [a, b] [] pos) (upIt X.K W (wRng tas)) :=
  (pi_range2 hg hm ha hs hs2).weak fun σ H Rr ⟨m, h, s, RL, XL, e1, r1, rs, q, hR, ce⟩ => ⟨m, h, s, _, _, e1, r1, rs, q, fun m1 h1 xs vs ex1 r2 rx hn q1 => by
    replace q1 : rngM xs h1 RL := q1
    unfold rngM at q1
    split at q1
    · simp at hn
    · rename_i i j
      obtain ⟨v, w, rfl, rv, rw'⟩ := rx.two
      cases (show v = _ from rv)
      cases (show w = _ from rw')
      exact ⟨_, _, rfl, q1.1, hR m1 h1 _ _ ex1 r2 (rng_ok _ _) q1.2⟩
    · exact q1.elim, ce⟩
end
end LL

namespace LL
open PySem L2

/-! ### enumerate -/
def enumIt (L : LIt) : LIt := fun i h => match L i h with
  | some (some x) => some (some (.tup [.int (i : Nat), x]))
  | some none => some none
  | none => none
def enumM : LV → LH → (LIt → LH → Prop) → Prop
  | .loc n v, h, RL => lstO (h n) v (RL (enumIt (listIt n v)) h)
  | .rol ns, h, RL => RL (enumIt (valsIt (ns.map LV.int))) h
  | _, _, _ => False
def enum1 : List LV → LH → (LIt → LH → Prop) → Prop
  | [x], h, RL => enumM x h RL
  | _, _, _ => False
def wEnum (tas : LTA) : LTI := fun s h RL X => tas s h (fun xs h1 => enum1 xs h1 RL) X
theorem enum_ok {K : PySem.W.Frag} {m0 : Lay} {p : Addr} {L : LIt} (ok : ItOk K m0 (Itl K p) L) : ItOk K m0 (Ite K p) (enumIt L) where
  go := fun m h i x ex r g => by
    unfold enumIt at g
    split at g
    · rename_i y e
      cases g
      obtain ⟨g1, y1⟩ := ok.go m h i y ex r e
      refine ⟨g1, ?_⟩
      rintro v H' ⟨T, x1, rfl, hT, rfl, hx⟩
      obtain ⟨xs, x2, hq, hx2⟩ := g1
      obtain ⟨m', e2, ex2, r2, rv⟩ := y1 x1 m.H ⟨rfl, fun ys hy => hx ys hy⟩
      obtain ⟨e1, r1⟩ := r2.grown (ex_upd (o := .tup [.int (i : Nat), x1]) (by rw [e2]; exact hT))
      exact ⟨_, by show upd m'.H T _ = _; rw [e2], ex2.trans e1, r1, T, _, rfl, upd_same, .cons rfl (.cons (rv.mono e1) .nil)⟩
    · cases g
    · cases g
  stop := fun m h i ex r g => by
    unfold enumIt at g
    split at g
    · cases g
    · rename_i e; exact ok.stop m h i ex r e
    · cases g
section
variable {X : Cx} {W : WX} {a : Expr} {tas : LTA} {p pos : Pos}
theorem lj_enum {elts : List Expr} {kk : Nat} {tpos : Pos} (hg : Gl X "enumerate") (hm : X.mg "enumerate" = none) (ha : PA X [a] (upA X.K W 1 tas)) (hs : starEach [a] X.env = [(false, eval a X.env)]) :
    PI X (.Tuple elts kk tpos) (.Call (.Name "enumerate" p) [a] [] pos) (upIt X.K W (wEnum tas)) :=
  (pi_enum hg hm ha hs).weak fun σ H Rr ⟨m, h, s, RL, XL, e1, r1, rs, q, hR, ce⟩ => ⟨m, h, s, _, _, e1, r1, rs, q, fun m1 h1 xs vs ex1 r2 rx hn q1 => by
    replace q1 : enum1 xs h1 RL := q1
    unfold enum1 at q1
    split at q1
    · rename_i x
      obtain ⟨v, rfl, rv⟩ := rx.one
      cases x <;> try exact q1.elim
      · rename_i n k
        obtain ⟨⟨xs, hn⟩, q1⟩ := lstO.of q1
        obtain ⟨p, rfl, e2⟩ := rv
        obtain ⟨vs, e3, q2⟩ := r2.lst hn e2
        exact ⟨p, vs, rfl, SqL.of e3, hR m1 h1 _ _ ex1 r2 (enum_ok (lit_ok e2)) q1⟩
      · obtain ⟨p, rfl, e2⟩ := rv
        exact ⟨p, _, rfl, e2.sq, hR m1 h1 _ _ ex1 r2 (enum_ok (rit_ok e2)) q1⟩
    · exact q1.elim, ce⟩
end

/-! ### a list made in place -/
/-- a target of names alone -/
inductive Nt where
  | one (i : Nat) | many (is : List Nat) | nest (i : Nat) (is : List Nat)
def setAll : LSt → List Nat → List LV → LSt
  | s, i :: is, x :: xs => setAll (s.set i (some x)) is xs
  | s, _, _ => s
def ntM (g : Nt) (x : LV) (s : LSt) (P : LSt → Prop) : Prop := match g, x with
  | .one i, x => P (s.set i (some x))
  | .many is, .tup xs => xs.length = is.length ∧ P (setAll s is xs)
  | .many _, _ => False
  | .nest i is, .tup [x, .tup xs] => xs.length = is.length ∧ P (setAll (s.set i (some x)) is xs)
  | .nest _ _, _ => False
def Nt.slots : Nt → List Nat
  | .one i => [i]
  | .many is => is
  | .nest i is => i :: is
def wipeL (s : LSt) : List Nat → LSt
  | [] => s
  | v :: vs => (wipeL s vs).set v none
def gMany : List Nat → TGs
  | [] => gNil
  | i :: is => gCons (gName i) (gMany is)
def gNt (K : PySem.W.Frag) : Nt → TG
  | .one i => gName i
  | .many is => gTup K is.length (gMany is)
  | .nest i is => gTup K 2 (gCons (gName i) (gCons (gTup K is.length (gMany is)) gNil))
def LcK (tt : LTT) (g : Nt) (te : LTE) (vs : List Nat) (s : LSt) (L : LIt) (d : LV) (Q : LQ) (h2 : LH) : Prop := ∃ Wl : Nat → Nat → LH → Prop, (∃ k, Wl 0 k h2) ∧ ∀ i k h, Wl i k h →
  (L i h = some none ∧ Q d h) ∨ ∃ x, L i h = some (some x) ∧ ∃ N : LH → Prop, (∀ h', N h' → ∃ k', k' < k ∧ Wl (i + 1) k' h') ∧ ntM g x (wipeL s vs) fun s2 => tt s2 h (fun b h3 =>
    if b = true then te s2 h3 (fun y h4 => ∃ n v acc, d = .loc n v ∧ h4 n = some (v, .lst acc) ∧ acc.length < sizeLine ∧ N (h4.set n v (.lst (acc ++ [y])))) (fun _ _ => False) else N h3) fun _ _ => False
def wLc (wi : LTI) (g : Nt) (tt : LTT) (te : LTE) (vs : List Nat) : LTE := fun s h Q X => wi s h (fun L h1 => Alloc h1 (.lst []) fun d h2 => LcK tt g te vs s L d Q h2) X
theorem wipe_set (σ : St) (i : Nat) (y : Option V) : ∀ vs : List Nat, i ∈ vs → wipe (σ.set i y) vs = wipe σ vs
  | [], h => by cases h
  | v :: vs, h => by
    unfold wipe
    by_cases hv : i ∈ vs
    · rw [wipe_set σ i y vs hv]
    · have e : v = i := by
        rcases List.mem_cons.mp h with e | e
        · exact e.symm
        · exact absurd e hv
      subst e
      have : ∀ ws : List Nat, v ∉ ws → wipe (σ.set v y) ws = (wipe σ ws).set v y := by
        intro ws
        induction ws with
        | nil => intro _; rfl
        | cons w ws ih =>
          intro hw
          simp only [List.mem_cons, not_or] at hw
          unfold wipe
          rw [ih hw.2, List.set_comm _ _ hw.1]
      rw [this vs hv, List.set_set]
theorem wipe_wipe (σ : St) (vs : List Nat) : wipe (wipe σ vs) vs = wipe σ vs := by
  have : ∀ ws : List Nat, (∀ w ∈ ws, w ∈ vs) → wipe (wipe σ ws) vs = wipe σ vs := by
    intro ws
    induction ws with
    | nil => intro _; rfl
    | cons w ws ih =>
      intro h
      show wipe ((wipe σ ws).set w none) vs = _
      rw [wipe_set _ _ _ _ (h w (.head _)), ih fun z hz => h z (.tail _ hz)]
  exact this vs fun _ z => z
theorem srel_wipe {K : PySem.W.Frag} {m : Lay} {s : LSt} {σ : St} (r : SRel K m s σ) : ∀ vs : List Nat, SRel K m (wipeL s vs) (wipe σ vs)
  | [] => r
  | v :: vs => (srel_wipe r vs).forget v none
theorem many_ok {K : PySem.W.Frag} {m : Lay} {H : Hp} {vs : List Nat} : ∀ (is : List Nat) (xs : List LV) (us : List V) (s : LSt) (σ : St) (Q : St → Hp → Prop), (∀ i ∈ is, i ∈ vs) → xs.length = is.length → VRels K m xs us → SRel K m s σ → (∀ σ2, wipe σ2 vs = wipe σ vs → SRel K m (setAll s is xs) σ2 → Q σ2 H) → gMany is us σ H Q
  | [], xs, us, s, σ, Q, _, hl, r, rs, q => by
    cases xs with
    | nil => cases (show us = [] from r); exact ⟨rfl, q σ rfl rs⟩
    | cons => simp at hl
  | i :: is, xs, us, s, σ, Q, hm, hl, r, rs, q => by
    cases xs with
    | nil => simp at hl
    | cons x xs =>
      obtain ⟨v, ws, rfl, rv, rt⟩ := r
      refine ⟨v, ws, rfl, many_ok is xs ws _ _ Q (fun j hj => hm j (.tail _ hj)) (by simpa using hl) rt (rs.set rv i) fun σ2 e rs2 => q σ2 (e.trans (wipe_set _ _ _ _ (hm i (.head _)))) rs2⟩
theorem nt_ok {K : PySem.W.Frag} {m : Lay} {vs : List Nat} {g : Nt} {x : LV} {v : V} {s : LSt} {σ : St} {P : LSt → Prop} {Q : St → Hp → Prop} (hm : ∀ i ∈ g.slots, i ∈ vs) (rv : VRel K m x v) (rs : SRel K m s σ) (p : ntM g x s P) (q : ∀ σ2 s2, wipe σ2 vs = wipe σ vs → SRel K m s2 σ2 → P s2 → Q σ2 m.H) : gNt K g v σ m.H Q := by
  cases g with
  | one i => exact q _ _ (wipe_set _ _ _ _ (hm i (.head _))) (rs.set rv i) p
  | many is =>
    cases x <;> try exact p.elim
    obtain ⟨hl, p⟩ := p
    obtain ⟨a, us, rfl, e2, r2⟩ := rv
    exact ⟨a, us, rfl, SqT.of e2, by rw [r2.length, hl], many_ok is _ us s σ Q hm hl r2 rs fun σ2 e rs2 => q σ2 _ e rs2 p⟩
  | nest i is =>
    cases x <;> try exact p.elim
    rename_i ys
    match ys, p with
    | [x, .tup xs], p =>
      obtain ⟨hl, p⟩ := p
      obtain ⟨a, us, rfl, e2, r2⟩ := rv
      obtain ⟨u1, u2, rfl, r3, b, ws, rfl, e3, r4⟩ : ∃ u1 u2, us = [u1, u2] ∧ VRel K m x u1 ∧ VRel K m (.tup xs) u2 := by
        obtain ⟨v, ws, e, q, t⟩ := r2
        obtain ⟨w, ws2, e2, q2, t2⟩ := t
        cases (show ws2 = [] from t2)
        subst e2
        exact ⟨v, w, e, q, q2⟩
      refine ⟨a, _, rfl, SqT.of e2, rfl, u1, _, rfl, _, _, rfl, b, ws, rfl, SqT.of e3, by rw [r4.length, hl], ?_⟩
      refine many_ok (vs := vs) is xs ws _ _ _ (fun j hj => hm j (.tail _ hj)) hl r4 (rs.set r3 i) fun σ2 e rs2 => ⟨rfl, q σ2 _ (e.trans (wipe_set _ _ _ _ (hm i (.head _)))) rs2 p⟩
theorem Alloc.up2 {K : PySem.W.Frag} {m : Lay} {h : LH} {o : LO} {p : Addr} {u : HO} {QL : LQ} (A : Alloc h o QL) (r : R K m h) (hp : m.H p = none) (ho : ∀ m', Ext m m' → ORel K m' o u) : ∃ m' n v, m'.H = upd m.H p u ∧ Ext m m' ∧ R K m' (h.set n v o) ∧ m'.l (n, v) = some p ∧ QL (.loc n v) (h.set n v o) := by
  rcases A with ⟨n, hn, q⟩ | q
  · obtain ⟨m', v, e1, ex, r', el⟩ := r.new (n := n) hn hp ho
    exact ⟨m', n, v, e1, ex, r', el, q v⟩
  · obtain ⟨k, hk⟩ := r.fresh
    obtain ⟨m', v, e1, ex, r', el⟩ := r.new (n := .a k) hk hp ho
    exact ⟨m', .a k, v, e1, ex, r', el, q k hk v⟩
section
variable {X : Cx} {W : WX}
def noX : WX := fun _ _ _ _ => False
theorem lc_up {wi : LTI} {g : Nt} {tt : LTT} {te : LTE} {vs : List Nat} (hm : ∀ i ∈ g.slots, i ∈ vs) {σ : St} {H : Hp} {Q : VK} : upE X.K W (wLc wi g tt te vs) σ H Q → tLc (upIt X.K W wi) (gNt X.K g) (upT X.K noX tt) (upE X.K noX te) vs σ H Q :=
  fun ⟨m, h, s, QL, XL, e1, r1, rs, q, c, ce⟩ => by
    refine ⟨m, h, s, _, _, e1, r1, rs, q, fun m1 h1 L J ex1 r2 ok q1 => ?_, ce⟩
    intro D hD
    obtain ⟨m2, n, v, e2, ex2, r3, el, Wl, ⟨k0, w0⟩, turn⟩ := Alloc.up2 (u := .lst []) q1 r2 hD fun m' _ => ⟨[], rfl, .nil⟩
    refine ⟨fun i k H' => ∃ m3 h3, m3.H = H' ∧ Ext m2 m3 ∧ R X.K m3 h3 ∧ Wl i k h3, ⟨k0, m2, _, e2, Ext.refl m2, r3, w0⟩, ?_⟩
    rintro i k H' ⟨m3, h3, rfl, ex3, r4, w⟩
    have ex03 := ex2.trans ex3
    rcases turn i k h3 w with ⟨st, q2⟩ | ⟨x, gx, N, hN, q2⟩
    · exact .inl ⟨ok.stop m3 h3 i ex03 r4 st, c m3 h3 (.loc n v) (.ref D) (ex1.trans ex03) r4 ⟨D, rfl, ex3.l _ _ el⟩ q2⟩
    · obtain ⟨go, yl⟩ := ok.go m3 h3 i x ex03 r4 gx
      refine .inr ⟨go, fun H' => ∃ k', k' < k ∧ ∃ m3 h3, m3.H = H' ∧ Ext m2 m3 ∧ R X.K m3 h3 ∧ Wl (i + 1) k' h3, fun H' z => z, fun u H4 y => ?_⟩
      obtain ⟨m4, rfl, ex4, r5, rv⟩ := yl u H4 y
      refine nt_ok hm rv (srel_wipe (rs.mono (ex1.trans (ex03.trans ex4))) vs) q2 fun σ2 s2 we rs2 q3 => ⟨we.trans (wipe_wipe _ _), ?_⟩
      refine ⟨m4, h3, s2, _, _, rfl, r5, rs2, q3, fun m5 h5 b ex5 r6 q4 => ?_, fun _ _ _ _ _ z => z⟩
      have ex25 := ex3.trans (ex4.trans ex5)
      cases b
      · rw [if_neg Bool.false_ne_true] at q4
        obtain ⟨k', hk, w'⟩ := hN _ q4
        exact iteF ⟨k', hk, m5, h5, rfl, ex25, r6, w'⟩
      · rw [if_pos rfl] at q4
        refine iteT ⟨m5, h5, s2, _, _, rfl, r6, rs2.mono ex5, q4, fun m6 h6 z u6 ex6 r7 rz ⟨n', v', acc, e7, hn, hl, q5⟩ => ?_, fun _ _ _ _ _ z => z⟩
        cases e7
        have el6 := (ex25.trans ex6).l _ _ el
        obtain ⟨us, e8, ra⟩ := r7.lst hn el6
        obtain ⟨ex7, r8⟩ := r7.write (o' := .lst (acc ++ [z])) (u := .lst (us ++ [u6])) hn el6 ⟨_, rfl, ra.append (.cons rz .nil)⟩
        obtain ⟨k', hk, w'⟩ := hN _ q5
        exact ⟨us, e8, by rw [ra.length]; exact hl, k', hk, _, _, rfl, ex25.trans (ex6.trans ex7), r8, w'⟩
theorem le_lc {wi : LTI} {g : Nt} {tt : LTT} {te : LTE} {vs : List Nat} {elt : Expr} {gs : List Comprehension} {scope : Scope} {pos : Pos} (h : PE X (.ListComp elt gs scope pos) (tLc (upIt X.K W wi) (gNt X.K g) (upT X.K noX tt) (upE X.K noX te) vs)) (hm : ∀ i ∈ g.slots, i ∈ vs) :
    PE X (.ListComp elt gs scope pos) (upE X.K W (wLc wi g tt te vs)) := h.weak fun _ _ _ => lc_up hm
theorem ls_setLc {wi : LTI} {g : Nt} {tt : LTT} {te : LTE} {vs : List Nat} {i : Nat} {st : Stmt} (h : PS X st (tAsg (tLc (upIt X.K W wi) (gNt X.K g) (upT X.K noX tt) (upE X.K noX te) vs) (gName i))) (hm : ∀ i ∈ g.slots, i ∈ vs) :
    PS X st (upS X.K W (wAsg (wLc wi g tt te vs) (vName i))) :=
  h.weak fun D σ H ⟨m, h, s, DL, e1, r1, rs, q, ec⟩ => lc_up hm ⟨m, h, s, _, _, e1, r1, rs, q, fun m1 h1 x v ex1 r2 rx q1 => ec.nx m1 h1 _ _ ex1 r2 ((rs.mono ex1).set rx i) q1, ec.xc.at rs⟩
end

/-! ### slices -/
def cutL {α : Type} (xs : List α) (lo hi : Option Int) : List α := (xs.drop (HT.sIx xs.length 0 lo)).take (HT.sIx xs.length xs.length hi - HT.sIx xs.length 0 lo)
theorem cut_rel {K : PySem.W.Frag} {m : Lay} {xs : List LV} {vs : List V} (r : VRels K m xs vs) (lo hi : Option Int) : VRels K m (cutL xs lo hi) (cutV vs lo hi) := by
  unfold cutL cutV
  rw [r.length]
  exact (r.drop _).take _
def slM (o : Option (Nat × LO)) (v : Nat) (lo hi : Option Int) (h : LH) (Q : LQ) : Prop := match o with
  | some (v', .lst xs) => v' = v ∧ Alloc h (.lst (cutL xs lo hi)) Q
  | _ => False
def lSl : LV → Option Int → Option Int → LH → LQ → Prop
  | .loc n v, lo, hi, h, Q => slM (h n) v lo hi h Q
  | .rol ns, lo, hi, h, Q => Alloc h (.lst (cutL (ns.map LV.int) lo hi)) Q
  | .tup xs, lo, hi, h, Q => Q (.tup (cutL xs lo hi)) h
  | _, _, _, _, _ => False
def isI : LV → (Int → Prop) → Prop
  | .int i, P => P i
  | _, _ => False
def wPart : Option LTE → LSt → LH → (Option Int → LH → Prop) → LX → Prop
  | none, _, h, k, _ => k none h
  | some t, s, h, k, X => t s h (fun x h1 => isI x fun i => k (some i) h1) X
def wSl (te : LTE) (tl th : Option LTE) : LTE := fun s h Q X => te s h (fun x h1 => wPart tl s h1 (fun lo h2 => wPart th s h2 (fun hi h3 => lSl x lo hi h3 Q) X) X) X
def upR3 (K : PySem.W.Frag) : V → Option Int → Option Int → Hp → VK → Prop := fun x lo hi H Q => ∃ m h a QL, m.H = H ∧ R K m h ∧ VRel K m a x ∧ lSl a lo hi h QL ∧ CQ K m QL Q
def upO (K : PySem.W.Frag) (W : WX) (t : Option LTE) : TO := fun σ H Q => ∃ m h s QL XL, m.H = H ∧ R K m h ∧ SRel K m s σ ∧ wPart t s h QL XL ∧ (∀ m' h' o, Ext m m' → R K m' h' → QL o h' → Q o m'.H) ∧ CE K m XL (WE W σ)
section
variable {X : Cx} {W : WX}
theorem slr_weak {r r' : V → Option Int → Option Int → Hp → VK → Prop} (h : SlR X r) (i : ∀ x lo hi H Q, r' x lo hi H Q → r x lo hi H Q) : SlR X r' := fun pins s σ H x v vl vu lo hi sl Q I rx hs pl pu q => h pins s σ H x v vl vu lo hi sl Q I rx hs pl pu (i _ _ _ _ _ q)
theorem li_sl : SlR X (upR3 X.K) := slr_weak (sl_list.or sl_tupA) fun x lo hi H Q ⟨m, h, a, QL, e1, r, ra, q, c⟩ => by
  subst e1
  cases a <;> try exact q.elim
  · rename_i xs
    obtain ⟨p, vs, rfl, e2, rv⟩ := ra
    have q : QL (.tup (cutL xs lo hi)) h := q
    refine .inr ⟨p, vs, rfl, SqT.of e2, fun w => ?_, fun _ y hy => ?_⟩
    · have e3 : cutL xs lo hi = xs := by
        unfold cutL
        rw [← rv.length, w.1, w.2, List.drop_zero, rv.length]
        exact List.take_length
      rw [e3] at q
      exact c m h (.tup xs) (.ref p) (Ext.refl m) r ⟨p, vs, rfl, e2, rv⟩ q
    · obtain ⟨ex, r'⟩ := r.grown (ex_upd (o := .tup (cutV vs lo hi)) hy)
      exact c ⟨m.l, upd m.H y (.tup (cutV vs lo hi))⟩ h (.tup (cutL xs lo hi)) (.ref y) ex r' ⟨y, _, rfl, upd_same, (cut_rel rv lo hi).mono ex⟩ q
  · rename_i n k
    replace q : slM (h n) k lo hi h QL := q
    unfold slM at q
    split at q
    · rename_i v' xs hn
      obtain ⟨rfl, q⟩ := q
      obtain ⟨p, rfl, e2⟩ := ra
      obtain ⟨vs, e3, rv⟩ := r.lst hn e2
      exact .inl ⟨p, vs, rfl, SqL.of e3, fun y hy => q.up r c hy fun m' ex => ⟨_, rfl, (cut_rel rv lo hi).mono ex⟩⟩
    · exact q.elim
  · obtain ⟨p, rfl, e2⟩ := ra
    exact .inl ⟨p, _, rfl, e2.sq, fun y hy => Alloc.up q r c hy fun m' ex => ⟨_, rfl, (cut_rel (VRels.ints _) lo hi).mono ex⟩⟩
theorem po_weak {e : Option Expr} {t t' : TO} (h : PO X e t) (i : ∀ σ H Q, t' σ H Q → t σ H Q) : PO X e t' := ⟨fun pins s σ H Q I q => h.run pins s σ H Q I (i _ _ _ q)⟩
theorem lo_none : PO X none (upO X.K W none) := po_weak po_none fun σ H Q ⟨m, h, s, QL, XL, e1, r, rs, q, c, ce⟩ => by subst e1; exact c m h none (Ext.refl m) r q
theorem lo_some {e : Expr} {t : LTE} (h : PE X e (upE X.K W t)) : PO X (some e) (upO X.K W (some t)) := po_weak (po_some h) fun σ H Q ⟨m, h, s, QL, XL, e1, r, rs, q, c, ce⟩ =>
  ⟨m, h, s, _, XL, e1, r, rs, q, fun m1 h1 x v ex1 r1 rx q1 => by
    cases x <;> try exact q1.elim
    exact ⟨_, rx, c m1 h1 _ ex1 r1 q1⟩, ce⟩
theorem le_sl {e : Expr} {lo hi : Option Expr} {te : LTE} {tl th : Option LTE} {p2 pos : Pos} (he : PE X e (upE X.K W te)) (hl : PO X lo (upO X.K W tl)) (hh : PO X hi (upO X.K W th)) : PE X (.Subscript e (.Slice lo hi none p2) pos) (upE X.K W (wSl te tl th)) :=
  (pe_slice li_sl he hl hh).weak fun σ H Q ⟨m, h, s, QL, XL, e1, r, rs, q, c, ce⟩ =>
    ⟨m, h, s, _, XL, e1, r, rs, q, fun m1 h1 x v ex1 r1 rx q1 => ⟨m1, h1, s, _, XL, rfl, r1, rs.mono ex1, q1, fun m2 h2 o ex2 r2 q2 => ⟨m2, h2, s, _, XL, rfl, r2, rs.mono (ex1.trans ex2), q2, fun m3 h3 o3 ex3 r3 q3 =>
      ⟨m3, h3, x, QL, rfl, r3, rx.mono (ex2.trans ex3), q3, c.mono (ex1.trans (ex2.trans ex3))⟩, ce.mono (ex1.trans ex2)⟩, ce.mono ex1⟩, ce⟩
end

/-! ### {} -/
def wDnew : LTE := fun _ h Q _ => Alloc h (.dK []) Q ∨ Alloc h (.dT []) Q
theorem le_dnew {X : Cx} {W : WX} {pos : Pos} : PE X (.Dict [] [] pos) (upE X.K W wDnew) := (pe_dnewK.or pe_dnewT).weak fun σ H Q ⟨m, h, s, QL, XL, e1, r, rs, q, c, ce⟩ => by
  subst e1
  rcases q with q | q
  · exact .inl fun p hp => q.up r c hp fun m' ex => ⟨[], rfl, rfl⟩
  · exact .inr fun p hp => q.up r c hp fun m' ex => ⟨[], rfl, rfl⟩

/-! ### len of an object with __len__ -/
section
variable {X : Cx} {C : Addr} {pins : List (Addr × Obj)} {σ : St} {H : Hp} {s : Shared} {f : Addr} {fd : FuncData} {ps : List Str} {sp : Sp} {n : Nat}
theorem olen_run {Q : VK} {a dx : Addr} {fs : List (Str × V)} (F : FnOk X.prog X.w X.K X.mg X.base (L2.CX X.prog X.w) n f fd ps sp) (hr : Room (n + 1) X.A) (b : Binds X.K fd ps []) (I : Inv X pins σ H s) (ha : H a = some (.ins C dx fs)) (hm : Meth X.K C "__len__" f)
    (hsp : sp [.ref a] H (fun v H' => ∃ i, v = .int i ∧ (0 ≤ i ∧ i < 2 ^ 63) ∧ Q (.int i) H') fun _ _ _ => False) : wpAny (model X.prog X.w) X.A (call (.builtin "len") [.ref a]) (EP X pins σ Q) X.xe s := by
  obtain ⟨mA, J, _⟩ := ins_get I.hok ha
  obtain ⟨od, J, _⟩ := J.look
  obtain ⟨m, hF⟩ := I.fr
  refine PySem.W.len_K hF I.ok.mod.kin J hm.at_ hm.fn ?_
  have hl := F.len _ _ _ _ hsp
  have r2 : Vals [V.ref a] [Value.ref a] := .cons rfl .nil
  refine wpAny_call (codeAny_mono (F.run X.A.in1 X.stack s H ⟨[.ref a], []⟩ [.ref a] [.ref a] _ _ hr.in1 I.env0.in1 (by
    have := b s [.ref a] I.kIn (by simpa using hl)
    simpa using this) r2 hsp) fun r s' hq => ?_)
  cases r with
  | error e =>
    obtain ⟨_, _, _, _, _, _, _, _, _, _, _, _, z⟩ := hq
    exact z.elim
  | ok fl =>
    cases fl with
    | ret u =>
      obtain ⟨v, H', I', rv, i, rfl, hi, q⟩ := I.after hq
      obtain ⟨t, rfl⟩ := rv
      exact ⟨hi, .int i, H', I'.tok _, ⟨_, rfl⟩, q⟩
    | next => exact False.elim hq
    | brk => exact False.elim hq
    | cont => exact False.elim hq
end
def olM (G : Glob) (x : LV) (h : LH) (Q : LQ) : Addr → List (Str × LV) → Prop := fun C _ => optM (G.meth C "__len__") fun sp => sp [x] h (fun y h2 => isI y fun i => (0 ≤ i ∧ i < 2 ^ 63) ∧ Q (.int i) h2) fun _ _ => False
def wOlen (G : Glob) (ta : LTE) : LTE := fun s h Q X => ta s h (fun x h1 => InsM h1 x fun C fs => olM G x h1 Q C fs) X
section
variable {G : Glob} {T : Tab} {k : Nat} {X : Cx} {W : WX} {a : Expr} {ta : LTE} {p pos : Pos}
theorem le_olen (g : GOk G T k X.prog X.w X.K X.mg X.base) (hr : Room k X.A) {lv : Nat} (ht : T.meth "__len__" = some (lv, 0)) (hk : lv + 1 ≤ k) (hg : Gl X "len") (hm : X.mg "len" = none) (ha : PE X a (upE X.K W ta)) (he : starEach [a] X.env = [(false, eval a X.env)]) :
    PE X (.Call (.Name "len" p) [a] [] pos) (upE X.K W (wOlen G ta)) := by
  refine ⟨fun pins s σ H Q I hq => ?_⟩
  obtain ⟨m, h, ls, QL, XL, e1, r1, rs, q, c, ce⟩ := hq
  refine wpAny_Call_Name_kw (ld_blt I hg hm PySem.boot_len ?_ (by decide) (by decide))
  refine PyProof.Rows.callWith_builtin1 (thn ((pa_cons ha pa_nil he).run pos pins s σ H (fun vs H1 => ∃ m1 h1 x v, vs = [v] ∧ m1.H = H1 ∧ Ext m m1 ∧ R X.K m1 h1 ∧ VRel X.K m1 x v ∧ InsM h1 x fun C fs => olM G x h1 QL C fs) I
    ⟨m, h, ls, _, XL, e1, r1, rs, q, fun m1 h1 x v ex1 r2 rx q1 => ⟨m1, h1, x, v, rfl, rfl, ex1, r2, rx, q1⟩, ce⟩) fun us s1 ⟨vs, H1, I1, ru, m1, h1, x, v, e2, e3, ex1, r2, rx, q1⟩ => ?_) he rfl
  subst e2 e3
  obtain ⟨C, fs, hi, q1⟩ := InsM.of q1
  obtain ⟨pa, dx, vs, rfl, hH, kv⟩ := hi.ins r2 rx
  obtain ⟨sp, gm, q2⟩ := optM.of q1
  obtain ⟨f, cl, hme, fd, ps, F, B⟩ := g.meth C _ sp lv 0 gm ht (by omega)
  cases ru with
  | cons ru rn =>
    cases rn
    obtain rfl : _ = Value.ref pa := ru
    refine olen_run F (hr.mono hk) B I1 hH hme ⟨m1, h1, [x], _, fun _ _ => False, rfl, r2, ⟨_, _, rfl, rx, rfl⟩, rfl, q2, fun m2 h2 y w ex2 r3 ry q3 => ?_, fun _ _ _ _ _ z => z⟩
    cases y <;> try exact q3.elim
    rename_i i
    exact ⟨i, ry, q3.1, c m2 h2 (.int i) (.int i) (ex1.trans ex2) r3 rfl q3.2⟩
end
end LL

namespace LL
open PySem L2

/-! ### d.items() of a dict with tuple keys -/
section
open PyProof.Rows PyProof.V PySem.Spec PySem.W
variable {X : Cx} {pins : List (Addr × Obj)} {σ : L2.St} {H : Hp} {s : Shared} {d : Addr} {o : Obj}
theorem frzT2 {kvs : List (List Key × V)} (I : Inv X pins σ H s) (h : H d = some (.frz o (.dT kvs))) :
    (d == sysModules) = false ∧ s.heap.get? d = some o ∧ o.ExactDict ∧ ∃ (es : Array DictEntry) (ep : Nat), o.data = .dict es ep ∧ es.size = kvs.length ∧
      ∀ (i : Nat) (k : List Key) (v : V), kvs[i]? = some (k, v) → ∃ (en : DictEntry) (q : Addr), es[i]? = some en ∧ en.key = .ref q ∧ H q = some (.tup (k.map kV)) ∧ RelV v en.val := by
  obtain ⟨hd, z, hs, xs, pr, o', es, ep, ho, hx, hdt, he, _⟩ := I.hok d _ h
  rw [hd] at ho
  cases ho
  refine ⟨hs, hd, hx, es, ep, hdt, ?_, fun i k v e => ?_⟩
  · have l1 : es.size = xs.length := size_of_entries he
    have l2 : kvs.length = xs.length := Paired.length pr
    omega
  · obtain ⟨b, hb, e1, e2, e3⟩ := paired_get pr e
    have q := entry_at he i
    rw [hb] at q
    exact ⟨_, b.2.1, q, rfl, e2, e3⟩
def ItiT (d : Addr) (o : Obj) (kvs : List (List Key × V)) : It :=
  ⟨fun i H => H d = some (.frz o (.dT kvs)) ∧ i < kvs.length, fun i H x H' => ∃ T k v q, kvs[i]? = some (k, v) ∧ x = .ref T ∧ H T = none ∧ H q = some (.tup (k.map kV)) ∧ H' = upd H T (.tup [.ref q, v]), fun i H => H d = some (.frz o (.dT kvs)) ∧ kvs.length ≤ i⟩
variable {P : Program} {w : World} {K : PySem.W.Frag} {es : Array DictEntry} {ep : Nat}
theorem turn_itemsT {kvs : List (List Key × V)} {elts : List Expr} {kk : Nat} {tpos : Pos} (it : Addr) (hod : o.data = .dict es ep) :
    Turn P w K (.Tuple elts kk tpos) (ItiT d o kvs) [it] it (fun i h => ∃ ok ov, IsItemIter h it d i kvs.length ep ok ov) where
  mem := by simp
  obj := fun i h st b hb => by
    have e : b = it := by simpa using hb
    subst e
    obtain ⟨ok, ov, e⟩ := st
    exact ⟨_, e, fun v z => nomatch z⟩
  keep := fun i h h' st k => let ⟨ok, ov, e⟩ := st; ⟨ok, ov, k it (by simp) _ e⟩
  item := by
    intro X hP hw hK hc i pins s σ H E I hf st hg
    subst hP hw hK
    obtain ⟨hd, hi⟩ := hg
    obtain ⟨hs, hgd, hx, es', ep', hdt, hsz, ent⟩ := frzT2 I hd
    obtain ⟨rfl, rfl⟩ := dict_ep hod hdt
    obtain ⟨⟨k, v⟩, hkv⟩ : ∃ p, kvs[i]? = some p := ⟨kvs[i], List.getElem?_eq_getElem hi⟩
    obtain ⟨en, q, hen, hkey, hq, rv⟩ := ent i k v hkv
    obtain ⟨ok, ov, he⟩ := st
    rw [← hsz] at he
    have hi' : i < es'.size := by rw [hsz]; exact hi
    have een : es'[i] = en := by rw [Array.getElem?_eq_getElem hi'] at hen; exact Option.some.inj hen
    have hlt : it < s.heap.objs.size := Heap.lt_size he
    refine DT.nextI he ⟨o, hgd, hx, hdt⟩ hi' fun h' ho hT hz hk => ?_
    rw [een] at ho hT
    refine ⟨_, rfl, wpAny_letOwnedTupleGo_items (s := { s with heap := h' }) ho fun h'' he' sb => ?_⟩
    have hT2 : h''.get? s.heap.objs.size = some { cls := .type "tuple", data := .seq #[en.key, en.val] } := (sb.2 _ (Nat.ne_of_gt hlt)).trans hT
    have new : ObjOk X.prog X.w (upd H s.heap.objs.size (.tup [.ref q, v])) h'' s.heap.objs.size (.tup [.ref q, v]) :=
      ⟨by show 2 ≤ sizeLine; decide, [en.key, en.val], .cons hkey (.cons rv .nil), ⟨_, hT2, rfl, _, rfl⟩⟩
    have I1 : Inv X pins σ (upd H s.heap.objs.size (.tup [.ref q, v])) { s with heap := h'' } :=
      I.turnedNew (t' := s.toks) (ch := [it]) (fun b ob hb e => (sb.2 b (by simpa using hb)).trans (hk b ob (by simpa using hb) e)) hf (Nat.le_refl _) new
    refine ⟨.ref s.heap.objs.size, _, I1, rfl, ⟨_, k, v, q, hkv, rfl, I.hok.fresh (Nat.le_refl _), hq, rfl⟩, ⟨en.key, en.val, ?_⟩, fun b hb => ?_⟩
    · rw [← hsz]; exact he'
    · have e : b = it := by simpa using hb
      rw [e, upd_ne (Nat.ne_of_lt hlt)]
      exact (hf it (by simp)).1
  done := by
    intro X hP hw hK hc i pins s σ H E I hf st hg
    subst hP hw hK
    obtain ⟨hd, hi⟩ := hg
    obtain ⟨f0, f1, f2, f3, f4, f5⟩ := hf it (by simp)
    obtain ⟨hs, hgd, hx, es', ep', hdt, hsz, ent⟩ := frzT2 I hd
    obtain ⟨rfl, rfl⟩ := dict_ep hod hdt
    obtain ⟨ok, ov, he⟩ := st
    rw [← hsz] at he
    exact DT.endI (I.ok.hd hc) he ⟨o, hgd, hx, hdt⟩ (by rw [hsz]; exact hi) fun h' eb => ⟨rfl, I.turned (t' := s.toks) (fun b ob hb e => eb b ob hb e) f0 f1 f3 f4 f5⟩
  self := fun A i s Q E st h => let ⟨_, _, e⟩ := st; PySem.W.kcp_self e h
def iItemsT (td : TE) : TI := fun σ H R => td σ H fun x H1 => ∃ d o kvs, x = .ref d ∧ H1 d = some (.frz o (.dT kvs)) ∧ R (ItiT d o kvs) H1
theorem pi_itemsT {X : Cx} {tg e : Expr} {td : TE} {apos cpos : Pos} {elts : List Expr} {kk : Nat} {tpos : Pos} (he : PE X e td) (hbase : attributeBase e "items" X.env (eval e X.env) = eval e X.env) (hline : (apos.endLine == cpos.line) = true) :
    PI X (.Tuple elts kk tpos) (.Call (.Attribute e "items" apos) [] [] cpos) (iItemsT td) := by
  refine ⟨fun pins s σ H R I h => ?_⟩
  refine wpAny_Call_method (T := "dict") (id := "dict.items") hbase rfl hline F.plainAttrs_dict F.slot_dict_items F.type_dict_items (thn (he.run pins s σ H _ I h) fun u s1 ⟨x, H1, I1, rx, d, o, kvs, ex, hd, q⟩ => ?_)
  subst ex
  obtain rfl : u = Value.ref d := rx
  obtain ⟨hs, hgd, hx, es, ep, hdt, hsz, ent⟩ := frzT2 I1 hd
  have hm : DT.Raw s1.heap d es ep := ⟨o, hgd, hx, hdt⟩
  refine ⟨hm.typeIs, ?_, ?_⟩
  · intro a e; cases e; exact ⟨o, hgd, hx.2.1⟩
  have I2 : Inv X pins σ H1 { s1 with heap := s1.heap.push { cls := .type "dict_items", data := .fields #[.ref d] } } := I1.kept (t' := s1.toks) fun b ob q => Heap.get?_push_of_some _ q
  have fin : wpAny (model X.prog X.w) X.A (pyIter (.ref s1.heap.objs.size)) (PIE X pins σ (.Tuple elts kk tpos) R) X.xe { s1 with heap := s1.heap.push { cls := .type "dict_items", data := .fields #[.ref d] } } := by
    refine DT.iterI (d := d) (es := es) (ep := ep) ⟨_, Heap.get?_push_size _ rfl, rfl, rfl⟩ (hm.push _) (pi_one (tk := s1.toks) I2 _ (turn_itemsT _ hdt) ⟨.none, .none, ?_⟩ q)
    rw [← hsz]
    exact Heap.get?_push_size _ rfl
  show wpAny _ _ (callWith cpos (.builtin "dict.items") [.ref d] [] []) _ X.xe s1
  exact method_meetsIn F.slot_dict_items F.entry_dict_items rfl (PySem.evalArgs_none ⟨rfl, hm.typeIs, F.args_dict_items_1 _, _, DT.meetsItems (es := es) (ep := ep) hs, ⟨hm, fin⟩⟩)
end

/-! ### dicts walked: locked meanwhile -/
def keyL : Key → LV
  | .inl i => .int i
  | .inr x => .str x
inductive Dk where | items | vals
def isD : LO → Bool
  | .dK _ => true | .dT _ => true | _ => false
/-- what a walk gives -/
def dkL : Dk → LO → Option (List LV)
  | .items, .dK kvs => some (kvs.map fun kv => .tup [keyL kv.1, kv.2])
  | .items, .dT kvs => some (kvs.map fun kv => .tup [.tup (kv.1.map keyL), kv.2])
  | .vals, .dK kvs => some (kvs.map fun kv => kv.2)
  | _, _ => none
open Classical in
noncomputable def fzIt (n : Nm) (v : Nat) (o : LO) (ob : Obj) (w : HO) (xs : List LV) : LIt := fun i h => if h n = some (v, .fz o ob w) then some xs[i]? else none
theorem fzIt_at {n : Nm} {v : Nat} {o : LO} {ob : Obj} {w : HO} {xs : List LV} {h : LH} (e : h n = some (v, .fz o ob w)) (i : Nat) : fzIt n v o ob w xs i h = some xs[i]? := if_pos e
def itmO (dk : Dk) (n : Nm) (v : Nat) (h : LH) (RL : LIt → LH → Prop) : Option (Nat × LO) → Prop
  | some (v', .fz o ob w) => v' = v ∧ optM (dkL dk o) fun xs => RL (fzIt n v o ob w xs) h
  | _ => False
def itmM (dk : Dk) : LV → LH → (LIt → LH → Prop) → Prop
  | .loc n v, h, RL => itmO dk n v h RL (h n)
  | _, _, _ => False
def wItm (dk : Dk) (te : LTE) : LTI := fun s h RL X => te s h (fun x h1 => itmM dk x h1 RL) X
theorem itmM.of {dk : Dk} {x : LV} {h : LH} {RL : LIt → LH → Prop} (q : itmM dk x h RL) : ∃ n v o ob w xs, x = .loc n v ∧ h n = some (v, .fz o ob w) ∧ dkL dk o = some xs ∧ RL (fzIt n v o ob w xs) h := by
  unfold itmM at q
  split at q
  · unfold itmO at q
    split at q
    · rename_i hn
      obtain ⟨rfl, q⟩ := q
      obtain ⟨xs, e, q⟩ := optM.of q
      exact ⟨_, _, _, _, _, xs, rfl, hn, e, q⟩
    · exact q.elim
  · exact q.elim
theorem keyL_rel {K : PySem.W.Frag} {m : Lay} (k : Key) : VRel K m (keyL k) (kV k) := by cases k <;> rfl
theorem keyLs_rel {K : PySem.W.Frag} {m : Lay} : ∀ ks : List Key, VRels K m (ks.map keyL) (ks.map kV)
  | [] => rfl
  | k :: ks => .cons (keyL_rel k) (keyLs_rel ks)
theorem KVR.get2 {κ : Type} {K : PySem.W.Frag} {m : Lay} : ∀ {xs : List (κ × LV)} {vs : List (κ × V)} {i : Nat} {k : κ} {x : LV}, KVR K m xs vs → xs[i]? = some (k, x) → ∃ v, vs[i]? = some (k, v) ∧ VRel K m x v
  | [], _, _, _, _, _, e => by simp at e
  | y :: _, _, 0, k, x, ⟨v, ws, e1, h, t⟩, e => by subst e1; simp at e; subst e; exact ⟨v, rfl, h⟩
  | _ :: _, _, i + 1, _, _, ⟨v, ws, e1, h, t⟩, e => by
    subst e1
    obtain ⟨u, h1, h2⟩ := KVR.get2 t (i := i) (by simpa using e)
    exact ⟨u, by simpa using h1, h2⟩
theorem R.fz {K : PySem.W.Frag} {m : Lay} {h : LH} (r : R K m h) {n : Nm} {v : Nat} {o : LO} {ob : Obj} {w : HO} {a : Addr} (hn : h n = some (v, .fz o ob w)) (ha : m.l (n, v) = some a) : m.H a = some (.frz ob w) ∧ (∀ xs, w ≠ .lst xs) ∧ ORel K m o w := by
  obtain ⟨a', u, e1, e2, e3, nl, q⟩ := r.obj n v _ hn
  rw [ha] at e1; cases e1
  subst e3
  exact ⟨e2, nl, q⟩
theorem ok_itK {K : PySem.W.Frag} {m0 : Lay} {n : Nm} {v : Nat} {kvs : List (Key × LV)} {vs : List (Key × V)} {ob : Obj} {a : Addr} (ha : m0.l (n, v) = some a) (q : KVR K m0 kvs vs) :
    ItOk K m0 (Iti a ob vs) (fzIt n v (.dK kvs) ob (.dK vs) (kvs.map fun kv => .tup [keyL kv.1, kv.2])) where
  go := fun m h i x ex r g => by
    unfold fzIt at g
    split at g
    · rename_i hn
      obtain ⟨e1, _, _⟩ := r.fz hn (ex.l _ _ ha)
      have g : (kvs.map fun kv => LV.tup [keyL kv.1, kv.2])[i]? = some x := Option.some.inj g
      rw [List.getElem?_map, Option.map_eq_some_iff] at g
      obtain ⟨⟨k, y⟩, hy, rfl⟩ := g
      obtain ⟨u, hu, ru⟩ := q.get2 hy
      refine ⟨⟨e1, (List.getElem?_eq_some_iff.mp hu).1⟩, fun z H' ⟨T, k', v', hk, ez, hT, eH⟩ => ?_⟩
      rw [hu] at hk; cases hk
      subst ez eH
      obtain ⟨ex2, r2⟩ := r.grown (ex_upd (o := .tup [kV k, u]) hT)
      exact ⟨_, rfl, ex2, r2, T, _, rfl, upd_same, .cons (keyL_rel k) (.cons ((ru.mono ex).mono ex2) .nil)⟩
    · cases g
  stop := fun m h i ex r g => by
    unfold fzIt at g
    split at g
    · rename_i hn
      obtain ⟨e1, _, _⟩ := r.fz hn (ex.l _ _ ha)
      have g : (kvs.map fun kv => LV.tup [keyL kv.1, kv.2])[i]? = none := Option.some.inj g
      rw [List.getElem?_eq_none_iff, List.length_map] at g
      exact ⟨e1, by rw [q.length]; exact g⟩
    · cases g
theorem ok_itT {K : PySem.W.Frag} {m0 : Lay} {n : Nm} {v : Nat} {kvs : List (List Key × LV)} {vs : List (List Key × V)} {ob : Obj} {a : Addr} (ha : m0.l (n, v) = some a) (q : KVR K m0 kvs vs) :
    ItOk K m0 (ItiT a ob vs) (fzIt n v (.dT kvs) ob (.dT vs) (kvs.map fun kv => .tup [.tup (kv.1.map keyL), kv.2])) where
  go := fun m h i x ex r g => by
    unfold fzIt at g
    split at g
    · rename_i hn
      obtain ⟨e1, _, _⟩ := r.fz hn (ex.l _ _ ha)
      have g : (kvs.map fun kv => LV.tup [.tup (kv.1.map keyL), kv.2])[i]? = some x := Option.some.inj g
      rw [List.getElem?_map, Option.map_eq_some_iff] at g
      obtain ⟨⟨k, y⟩, hy, rfl⟩ := g
      obtain ⟨u, hu, ru⟩ := q.get2 hy
      refine ⟨⟨e1, (List.getElem?_eq_some_iff.mp hu).1⟩, fun z H' ⟨T, k', v', b, hk, ez, hT, hb, eH⟩ => ?_⟩
      rw [hu] at hk; cases hk
      subst ez eH
      obtain ⟨ex2, r2⟩ := r.grown (ex_upd (o := .tup [.ref b, u]) hT)
      exact ⟨_, rfl, ex2, r2, T, _, rfl, upd_same, .cons ⟨b, _, rfl, ex2.t _ _ hb, keyLs_rel k⟩ (.cons ((ru.mono ex).mono ex2) .nil)⟩
    · cases g
  stop := fun m h i ex r g => by
    unfold fzIt at g
    split at g
    · rename_i hn
      obtain ⟨e1, _, _⟩ := r.fz hn (ex.l _ _ ha)
      have g : (kvs.map fun kv => LV.tup [.tup (kv.1.map keyL), kv.2])[i]? = none := Option.some.inj g
      rw [List.getElem?_eq_none_iff, List.length_map] at g
      exact ⟨e1, by rw [q.length]; exact g⟩
    · cases g
theorem ok_vals {K : PySem.W.Frag} {m0 : Lay} {n : Nm} {v : Nat} {kvs : List (Key × LV)} {vs : List (Key × V)} {ob : Obj} {a : Addr} (ha : m0.l (n, v) = some a) (q : KVR K m0 kvs vs) :
    ItOk K m0 (Itd a ob vs) (fzIt n v (.dK kvs) ob (.dK vs) (kvs.map fun kv => kv.2)) where
  go := fun m h i x ex r g => by
    unfold fzIt at g
    split at g
    · rename_i hn
      obtain ⟨e1, _, _⟩ := r.fz hn (ex.l _ _ ha)
      have g : (kvs.map fun kv => kv.2)[i]? = some x := Option.some.inj g
      rw [List.getElem?_map, Option.map_eq_some_iff] at g
      obtain ⟨⟨k, y⟩, hy, rfl⟩ := g
      obtain ⟨u, hu, ru⟩ := q.get2 hy
      refine ⟨⟨e1, (List.getElem?_eq_some_iff.mp hu).1⟩, fun z H' ⟨eH, k', hk⟩ => ?_⟩
      rw [hu] at hk; cases hk
      exact ⟨m, eH.symm, Ext.refl m, r, ru.mono ex⟩
    · cases g
  stop := fun m h i ex r g => by
    unfold fzIt at g
    split at g
    · rename_i hn
      obtain ⟨e1, _, _⟩ := r.fz hn (ex.l _ _ ha)
      have g : (kvs.map fun kv => kv.2)[i]? = none := Option.some.inj g
      rw [List.getElem?_eq_none_iff, List.length_map] at g
      exact ⟨e1, by rw [q.length]; exact g⟩
    · cases g
/-- d.items(), whatever its keys -/
def iItems2 (td : TE) : TI := fun σ H R => td σ H fun x H1 => (∃ d o kvs, x = .ref d ∧ H1 d = some (.frz o (.dK kvs)) ∧ R (Iti d o kvs) H1) ∨ ∃ d o kvs, x = .ref d ∧ H1 d = some (.frz o (.dT kvs)) ∧ R (ItiT d o kvs) H1
section
open PyProof.Rows PyProof.V PySem.Spec PySem.W
theorem pi_items2 {X : Cx} {e : Expr} {td : TE} {apos cpos : Pos} {elts : List Expr} {kk : Nat} {tpos : Pos} (he : PE X e td) (hbase : attributeBase e "items" X.env (eval e X.env) = eval e X.env) (hline : (apos.endLine == cpos.line) = true) :
    PI X (.Tuple elts kk tpos) (.Call (.Attribute e "items" apos) [] [] cpos) (iItems2 td) := by
  refine ⟨fun pins s σ H R I h => ?_⟩
  refine wpAny_Call_method (T := "dict") (id := "dict.items") hbase rfl hline F.plainAttrs_dict F.slot_dict_items F.type_dict_items (thn (he.run pins s σ H _ I h) fun u s1 ⟨x, H1, I1, rx, q⟩ => ?_)
  rcases q with ⟨d, o, kvs, ex, hd, q⟩ | ⟨d, o, kvs, ex, hd, q⟩
  · subst ex
    obtain rfl : u = Value.ref d := rx
    obtain ⟨hs, hgd, hx, es, ep, vs, hdt, hsz, kv, hm⟩ := I1.frzK hd
    have hl : kvs.length = vs.length := Paired.length kv
    refine ⟨hm.dictOf.typeIs, hm.dictOf.mapOf.noDict, ?_⟩
    have I2 : Inv X pins σ H1 { s1 with heap := s1.heap.push { cls := .type "dict_items", data := .fields #[.ref d] } } := I1.kept (t' := s1.toks) fun b ob q => Heap.get?_push_of_some _ q
    have fin : wpAny (model X.prog X.w) X.A (pyIter (.ref s1.heap.objs.size)) (PIE X pins σ (.Tuple elts kk tpos) R) X.xe { s1 with heap := s1.heap.push { cls := .type "dict_items", data := .fields #[.ref d] } } := by
      refine wpAny_pyIter_items (d := d) (knd := mixKind X.prog X.w) ⟨_, Heap.get?_push_size _ rfl, rfl, rfl⟩ (hm.push _) (pi_one (tk := s1.toks) I2 _ (turn_items _ hdt) ⟨.none, .none, ?_⟩ q)
      rw [hl]
      exact Heap.get?_push_size _ rfl
    show wpAny _ _ (callWith cpos (.builtin "dict.items") [.ref d] [] []) _ X.xe s1
    exact method_meetsIn F.slot_dict_items F.entry_dict_items rfl (PySem.evalArgs_none ⟨rfl, hm.dictOf.typeIs, F.args_dict_items_1 _, _, meets_dict_items (mixKind X.prog X.w) d hs, ⟨vs, hm.dictOf⟩, fin⟩)
  · subst ex
    obtain rfl : u = Value.ref d := rx
    obtain ⟨hs, hgd, hx, es, ep, hdt, hsz, ent⟩ := frzT2 I1 hd
    have hm : DT.Raw s1.heap d es ep := ⟨o, hgd, hx, hdt⟩
    refine ⟨hm.typeIs, ?_, ?_⟩
    · intro a e; cases e; exact ⟨o, hgd, hx.2.1⟩
    have I2 : Inv X pins σ H1 { s1 with heap := s1.heap.push { cls := .type "dict_items", data := .fields #[.ref d] } } := I1.kept (t' := s1.toks) fun b ob q => Heap.get?_push_of_some _ q
    have fin : wpAny (model X.prog X.w) X.A (pyIter (.ref s1.heap.objs.size)) (PIE X pins σ (.Tuple elts kk tpos) R) X.xe { s1 with heap := s1.heap.push { cls := .type "dict_items", data := .fields #[.ref d] } } := by
      refine DT.iterI (d := d) (es := es) (ep := ep) ⟨_, Heap.get?_push_size _ rfl, rfl, rfl⟩ (hm.push _) (pi_one (tk := s1.toks) I2 _ (turn_itemsT _ hdt) ⟨.none, .none, ?_⟩ q)
      rw [← hsz]
      exact Heap.get?_push_size _ rfl
    show wpAny _ _ (callWith cpos (.builtin "dict.items") [.ref d] [] []) _ X.xe s1
    exact method_meetsIn F.slot_dict_items F.entry_dict_items rfl (PySem.evalArgs_none ⟨rfl, hm.typeIs, F.args_dict_items_1 _, _, DT.meetsItems (es := es) (ep := ep) hs, ⟨hm, fin⟩⟩)
end
section
variable {X : Cx} {W : WX} {e tg : Expr} {te : LTE} {apos cpos : Pos} {elts : List Expr} {kk : Nat} {tpos : Pos}
theorem lj_items (he : PE X e (upE X.K W te)) (hbase : attributeBase e "items" X.env (eval e X.env) = eval e X.env) (hline : (apos.endLine == cpos.line) = true) :
    PI X (.Tuple elts kk tpos) (.Call (.Attribute e "items" apos) [] [] cpos) (upIt X.K W (wItm .items te)) := (pi_items2 he hbase hline).weak fun σ H Rr ⟨m, h, s, RL, XL, e1, r1, rs, q, hR, ce⟩ =>
  ⟨m, h, s, _, _, e1, r1, rs, q, fun m1 h1 x v ex1 r2 rx q1 => by
    obtain ⟨n, k, o, ob, w, xs, rfl, hn, hd, q1⟩ := q1.of
    obtain ⟨p, rfl, e2⟩ := rx
    obtain ⟨e3, nl, q2⟩ := r2.fz hn e2
    cases o with
    | dK kvs =>
      cases hd
      obtain ⟨vs, rfl, q2⟩ := q2
      exact .inl ⟨p, _, _, rfl, e3, hR m1 h1 _ _ ex1 r2 (ok_itK e2 q2) q1⟩
    | dT kvs =>
      cases hd
      obtain ⟨vs, rfl, q2⟩ := q2
      exact .inr ⟨p, _, _, rfl, e3, hR m1 h1 _ _ ex1 r2 (ok_itT e2 q2) q1⟩
    | _ => (cases hd), ce⟩
theorem lj_vals (he : PE X e (upE X.K W te)) (hbase : attributeBase e "values" X.env (eval e X.env) = eval e X.env) (hline : (apos.endLine == cpos.line) = true) :
    PI X tg (.Call (.Attribute e "values" apos) [] [] cpos) (upIt X.K W (wItm .vals te)) := (pi_values he hbase hline).weak fun σ H Rr ⟨m, h, s, RL, XL, e1, r1, rs, q, hR, ce⟩ =>
  ⟨m, h, s, _, _, e1, r1, rs, q, fun m1 h1 x v ex1 r2 rx q1 => by
    obtain ⟨n, k, o, ob, w, xs, rfl, hn, hd, q1⟩ := q1.of
    obtain ⟨p, rfl, e2⟩ := rx
    obtain ⟨e3, nl, q2⟩ := r2.fz hn e2
    cases o with
    | dK kvs =>
      cases hd
      obtain ⟨vs, rfl, q2⟩ := q2
      exact ⟨p, _, _, rfl, e3, hR m1 h1 _ _ ex1 r2 (ok_vals e2 q2) q1⟩
    | _ => (cases hd), ce⟩
end
/-- the statement runs while the dict at n is locked -/
def lkE (n : Nm) (v : Nat) (o : LO) (ob : Obj) (w : HO) (D : LEnds) : LEnds :=
  { nx := fun s h => h n = some (v, .fz o ob w) ∧ D.nx s (h.set n v o), rt := fun x h => h n = some (v, .fz o ob w) ∧ D.rt x (h.set n v o),
    bk := fun s h => h n = some (v, .fz o ob w) ∧ D.bk s (h.set n v o), ct := fun s h => h n = some (v, .fz o ob w) ∧ D.ct s (h.set n v o), xc := fun _ _ _ => False }
def wLock (t : LTS) : LTS := fun D s h => ∃ n v o, isD o = true ∧ h n = some (v, o) ∧ ∀ ob w, t (lkE n v o ob w D) s (h.set n v (.fz o ob w))
def wLockE (t : LTE) : LTE := fun s h Q X => ∃ n v o, isD o = true ∧ h n = some (v, o) ∧ ∀ ob w, t s (h.set n v (.fz o ob w)) (fun x h1 => h1 n = some (v, .fz o ob w) ∧ Q x (h1.set n v o)) fun _ _ => False
section
variable {K : PySem.W.Frag} {m m' : Lay} {h h' : LH} {n : Nm} {v : Nat} {o : LO} {ob : Obj} {w u : HO} {a : Addr}
theorem isD_mut (hd : isD o = true) (q : ORel K m o u) : Mut (some u) ∧ ∀ xs, u ≠ .lst xs := by
  cases o with
  | dK kvs => obtain ⟨vs, rfl, _⟩ := q; exact ⟨trivial, fun xs z => by cases z⟩
  | dT kvs => obtain ⟨vs, rfl, _⟩ := q; exact ⟨trivial, fun xs z => by cases z⟩
  | _ => cases hd
theorem R.lock (r : R K m h) (hn : h n = some (v, o)) (hd : isD o = true) (ha : m.l (n, v) = some a) (hu : m.H a = some u) (q : ORel K m o u) (od : Obj) :
    Ext m ⟨m.l, upd m.H a (.frz od u)⟩ ∧ R K ⟨m.l, upd m.H a (.frz od u)⟩ (h.set n v (.fz o od u)) := r.write hn ha ⟨rfl, (isD_mut hd q).2, q⟩
theorem R.unlock (r : R K m h) (hn : h n = some (v, .fz o ob w)) (ha : m.l (n, v) = some a) : m.H a = some (.frz ob w) ∧ Ext m ⟨m.l, upd m.H a w⟩ ∧ R K ⟨m.l, upd m.H a w⟩ (h.set n v o) := by
  obtain ⟨e, nl, q⟩ := r.fz hn ha
  exact ⟨e, r.write hn ha q⟩
end
section
variable {X : Cx} {W : WX}
theorem ls_lock {st : Stmt} {t : LTS} (hs : PS X st (upS X.K W t)) : PS X st (upS X.K W (wLock t)) := (ps_lock hs).weak fun D σ H ⟨m, h, s, DL, e1, r, rs, ⟨n, v, o, hd, hn, q⟩, ec⟩ => by
  subst e1
  obtain ⟨a, u, ha, hu, ho⟩ := r.obj n v o hn
  refine ⟨a, u, hu, (isD_mut hd ho).1, fun od => ?_⟩
  obtain ⟨ex, r1⟩ := r.lock hn hd ha hu ho od
  refine ⟨_, _, s, _, rfl, r1, rs.mono ex, q od u, ?_⟩
  refine ⟨fun m' h' s' σ' e r' rs' ⟨z, q'⟩ => ?_, fun m' h' x v' e r' rx ⟨z, q'⟩ => ?_, fun m' h' s' σ' e r' rs' ⟨z, q'⟩ => ?_, fun m' h' s' σ' e r' rs' ⟨z, q'⟩ => ?_, fun _ _ _ _ _ _ _ _ z => z.elim⟩
  · obtain ⟨e3, ex3, r3⟩ := r'.unlock z (e.l _ _ ha)
    exact ⟨e3, ec.nx _ _ _ _ (ex.trans (e.trans ex3)) r3 (rs'.mono ex3) q'⟩
  · obtain ⟨e3, ex3, r3⟩ := r'.unlock z (e.l _ _ ha)
    exact ⟨e3, ec.rt _ _ _ _ (ex.trans (e.trans ex3)) r3 (rx.mono ex3) q'⟩
  · obtain ⟨e3, ex3, r3⟩ := r'.unlock z (e.l _ _ ha)
    exact ⟨e3, ec.bk _ _ _ _ (ex.trans (e.trans ex3)) r3 (rs'.mono ex3) q'⟩
  · obtain ⟨e3, ex3, r3⟩ := r'.unlock z (e.l _ _ ha)
    exact ⟨e3, ec.ct _ _ _ _ (ex.trans (e.trans ex3)) r3 (rs'.mono ex3) q'⟩
theorem le_lock {e : Expr} {t : LTE} (he : PE X e (upE X.K W t)) : PE X e (upE X.K W (wLockE t)) := (pe_lock he).weak fun σ H Q ⟨m, h, s, QL, XL, e1, r, rs, ⟨n, v, o, hd, hn, q⟩, c, ce⟩ => by
  subst e1
  obtain ⟨a, u, ha, hu, ho⟩ := r.obj n v o hn
  refine ⟨a, u, hu, (isD_mut hd ho).1, fun od => ?_⟩
  obtain ⟨ex, r1⟩ := r.lock hn hd ha hu ho od
  refine ⟨_, _, s, _, _, rfl, r1, rs.mono ex, q od u, fun m' h' x v' e r' rx ⟨z, q'⟩ => ?_, fun _ _ _ _ _ z => z.elim⟩
  obtain ⟨e3, ex3, r3⟩ := r'.unlock z (e.l _ _ ha)
  exact ⟨e3, c _ _ _ _ (ex.trans (e.trans ex3)) r3 (rx.mono ex3) q'⟩
end
end LL

namespace LL
open PySem L2

/-! ### what a dict has at a key -/
def lookO (v : Nat) (y : LV) (P : Option LV → Prop) : Option (Nat × LO) → Prop
  | some (v', .dK kvs) => v' = v ∧ optM (keyOf y) fun k => P (getK kvs k)
  | some (v', .dT kvs) => v' = v ∧ optM (keysOf y) fun k => P (getK kvs k)
  | some (v', .fz (.dK kvs) _ _) => v' = v ∧ optM (keyOf y) fun k => P (getK kvs k)
  | some (v', .fz (.dT kvs) _ _) => v' = v ∧ optM (keysOf y) fun k => P (getK kvs k)
  | _ => False
def lookM (h : LH) : LV → LV → (Option LV → Prop) → Prop
  | .loc n v, y, P => lookO v y P (h n)
  | _, _, _ => False
theorem lookM.of {h : LH} {x y : LV} {P : Option LV → Prop} (q : lookM h x y P) : ∃ o, DAt h x y o ∧ P o := by
  unfold lookM at q
  split at q
  · rename_i n v _
    unfold lookO at q
    unfold DAt
    split at q
    all_goals first
      | exact q.elim
      | (rename_i hn; obtain ⟨rfl, q⟩ := q; obtain ⟨k, hk, q⟩ := optM.of q; simp only [hn]; exact ⟨_, ⟨by first | rfl | trivial, k, hk, rfl⟩, q⟩)
  · exact q.elim
/-- d.get(y), d.get(y, z) -/
def lDGet : LRM
  | x, [y], h, Q => lookM h x y fun o => Q (o.getD .non) h
  | x, [y, z], h, Q => lookM h x y fun o => Q (o.getD z) h
  | _, _, _, _ => False
section
variable {X : Cx}
theorem orl_getD {K : PySem.W.Frag} {m : Lay} {o : Option LV} {ov : Option V} {d : LV} {e : V} (q : ORl K m o ov) (rd : VRel K m d e) : VRel K m (o.getD d) (ov.getD e) := by
  cases o <;> cases ov <;> first | exact rd | exact q | exact q.elim
theorem mt_get (hu : X.A.units + 1 < cLine) : MtR X "dict.get" (fun x xs H Q => (∃ a y o, x = .ref a ∧ xs = [y] ∧ DGet H a y o ∧ Q (o.getD .non) H) ∨ ∃ a y z o, x = .ref a ∧ xs = [y, z] ∧ DGet H a y o ∧ Q (o.getD z) H) := by
  intro pins s σ H x xs v us Q I rx rxs h
  rcases h with ⟨a, y, o, rfl, rfl, g, q⟩ | ⟨a, y, z, o, rfl, rfl, g, q⟩
  · cases rx
    obtain ⟨u, rfl, ru⟩ := vals1 rxs
    exact d_get1 hu I g ru fun w' s' I' rw' => ⟨_, H, I', rw', q⟩
  · cases rx
    obtain ⟨u1, u2, rfl, r1, r2⟩ := vals2 rxs
    exact d_get2 hu I g r1 r2 fun w' s' I' rw' => ⟨_, H, I', rw', q⟩
theorem lm_get (hu : X.A.units + 1 < cLine) : MtR X "dict.get" (upRM X.K lDGet) := MtR.weak (mt_get hu) fun x xs H Q hq => by
  obtain ⟨m, h, a, as, QL, e1, r, ra, rs, q, c⟩ := hq
  subst e1
  unfold lDGet at q
  split at q
  · obtain ⟨o, d, q⟩ := q.of
    obtain ⟨v, rfl, rv⟩ := rs.one
    obtain ⟨p, ov, e2, g, oo⟩ := d.get r ra rv
    exact .inl ⟨p, v, ov, e2, rfl, g, c.val r (orl_getD oo (show VRel X.K m LV.non V.non from rfl)) q⟩
  · obtain ⟨o, d, q⟩ := q.of
    obtain ⟨v, w, rfl, rv, rw'⟩ := rs.two
    obtain ⟨p, ov, e2, g, oo⟩ := d.get r ra rv
    exact .inr ⟨p, v, w, ov, e2, rfl, g, c.val r (orl_getD oo rw') q⟩
  · exact q.elim
end

/-! ### removals -/
/-- the dict at n loses the key y: what stood there, the heap behind -/
def takeO (n : Nm) (v : Nat) (y : LV) (h : LH) (P : Option LV → LH → Prop) : Option (Nat × LO) → Prop
  | some (v', .dK kvs) => v' = v ∧ optM (keyOf y) fun k => P (getK kvs k) (h.set n v (.dK (dropK kvs k)))
  | some (v', .dT kvs) => v' = v ∧ optM (keysOf y) fun k => P (getK kvs k) (h.set n v (.dT (dropK kvs k)))
  | _ => False
def takeM : LV → LV → LH → (Option LV → LH → Prop) → Prop
  | .loc n v, y, h, P => takeO n v y h P (h n)
  | _, _, _, _ => False
section
open PySem.Spec PyProof.Rows
variable {X : Cx}
theorem d_delT {pins : List (Addr × Obj)} {σ : L2.St} {H : Hp} {s : Shared} {a b : Addr} {kvs : List (List Key × V)} {k : List Key} {A : Around} {E : Value → Shared → Prop} {Q : Unit → Shared → Prop} (hu : A.units + 1 < cLine) (I : Inv X pins σ H s) (e : H a = some (.dT kvs))
    (eb : H b = some (.tup (k.map kV))) (l : (valV kvs k).isSome = true) (h : ∀ s', Inv X pins σ (upd H a (.dT (L2.dropK kvs k))) s' → Q () s') : wpAny (model X.prog X.w) A (delItem (.ref a) (.ref b)) Q E s := by
  obtain ⟨z, hd, xs', rel, dd⟩ := dt_of I.hok e
  have hz : xs'.length ≤ sizeLine := by rw [← Paired.length rel]; exact z
  have q := (rel.val k).isSome_eq
  rw [Option.isSome_map] at q
  rw [q] at l
  obtain ⟨p, hp⟩ := Option.isSome_iff_exists.mp l
  refine wpAny_delItem_heap (knd := tupleKind (mixKind X.prog X.w)) (k := k) (tupleKind_room_in1 hu) (key_of I.hok eb) hd dd hp (fun h' dd' hs => h _ ?_) hz
  obtain ⟨o, es, ep, hq, h2, h3, h4, _, h5⟩ := dd'
  exact d_write I (by rw [e]; exact True.intro) hs ⟨o, hq⟩ ⟨Nat.le_trans (dropK_le kvs k) z, hd, _, (L2.DX.KT_drop k rel).keeps (fun c ys ec => (by rw [upd_ne (ne_of ec e (fun z => nomatch z))]; exact ec)), o, es, ep, hq, h2, h3, h4, h5⟩
/-- the heap behind del a[y] -/
def DDel (H : Hp) (a : Addr) (y : V) (o : Option V) (H' : Hp) : Prop :=
  (∃ kvs k, H a = some (.dK kvs) ∧ y = kV k ∧ o = valV kvs k ∧ H' = upd H a (.dK (L2.dropK kvs k))) ∨ ∃ kvs k b, H a = some (.dT kvs) ∧ y = .ref b ∧ H b = some (.tup (k.map kV)) ∧ o = valV kvs k ∧ H' = upd H a (.dT (L2.dropK kvs k))
theorem ps_del2 (hu : X.A.units + 1 < cLine) {o i : Expr} {tpos pos : Pos} {td ty : TE} (ho : PE X o td) (hi : PE X i ty) : PS X (.Delete [.Subscript o i tpos] pos) (fun D σ H => td σ H fun x H1 => ty σ H1 fun y H2 => ∃ a v H3, x = .ref a ∧ DDel H2 a y (some v) H3 ∧ D.nx σ H3) := by
  refine ⟨fun pins s σ H D I h => ?_⟩
  refine wpAny_Delete (wpAny_deleteEach_cons (wpAny_delete_Subscript (thn (ho.run pins s σ H _ I h) fun u s1 ⟨x, H1, I1, rx, q1⟩ => thn (hi.run pins s1 σ H1 _ I1 q1) fun iv s2 ⟨y, H2, I2, ry, a, v, H3, ex, d, q2⟩ => ?_)))
  subst ex
  obtain rfl : u = Value.ref a := rx
  rcases d with ⟨kvs, k, e, ey, l, eH⟩ | ⟨kvs, k, b, e, ey, eb, l, eH⟩
  · subst ey eH
    exact d_delItem I2 e ry (by rw [← l]; rfl) fun s3 I3 => wpAny_deleteEach_nil ⟨σ, _, I3, q2⟩
  · subst ey eH
    cases (show iv = Value.ref b from ry)
    exact d_delT hu I2 e eb (by rw [← l]; rfl) fun s3 I3 => wpAny_deleteEach_nil ⟨σ, _, I3, q2⟩
theorem takeM.of {K : PySem.W.Frag} {m : Lay} {h : LH} (r : R K m h) {x y : LV} {v u : V} {P : Option LV → LH → Prop} (q : takeM x y h P) (rx : VRel K m x v) (ry : VRel K m y u) :
    ∃ a ov o H' h', v = .ref a ∧ DDel m.H a u ov H' ∧ ORl K m o ov ∧ P o h' ∧ Ext m ⟨m.l, H'⟩ ∧ R K ⟨m.l, H'⟩ h' := by
  unfold takeM at q
  split at q
  · rename_i n k _
    obtain ⟨a, e1, e2⟩ := rx
    unfold takeO at q
    split at q
    · rename_i v' kvs hn
      obtain ⟨rfl, q⟩ := q
      obtain ⟨kz, hk, q⟩ := optM.of q
      obtain ⟨vs, e5, q1⟩ := r.dK hn e2
      obtain ⟨ex, r2⟩ := r.write hn e2 (o' := .dK (dropK kvs kz)) ⟨_, rfl, q1.drop kz⟩
      exact ⟨a, _, _, _, _, e1, .inl ⟨vs, kz, e5, keyOf.v hk ry, rfl, rfl⟩, q1.orl kz, q, ex, r2⟩
    · rename_i v' kvs hn
      obtain ⟨rfl, q⟩ := q
      obtain ⟨kz, hk, q⟩ := optM.of q
      obtain ⟨vs, e5, q1⟩ := r.dT hn e2
      obtain ⟨b, eb, e6⟩ := keysOf.v hk ry
      obtain ⟨ex, r2⟩ := r.write hn e2 (o' := .dT (dropK kvs kz)) ⟨_, rfl, q1.drop kz⟩
      exact ⟨a, _, _, _, _, e1, .inr ⟨vs, kz, b, e5, eb, e6, rfl, rfl⟩, q1.orl kz, q, ex, r2⟩
    · exact q.elim
  · exact q.elim
end
def wDel (ta tb : LTE) : LTS := fun D s h => ta s h (fun x h1 => tb s h1 (fun y h2 => takeM x y h2 fun o h3 => o.isSome = true ∧ D.nx s h3) fun c h2 => D.xc c s h2) fun c h1 => D.xc c s h1
section
variable {X : Cx} {W : WX} {a b : Expr} {ta tb : LTE} {tpos pos : Pos}
theorem ls_del (hu : X.A.units + 1 < cLine) (ha : PE X a (upE X.K W ta)) (hb : PE X b (upE X.K W tb)) : PS X (.Delete [.Subscript a b tpos] pos) (upS X.K W (wDel ta tb)) :=
  (ps_del2 hu ha hb).weak fun D σ H ⟨m, h, s, DL, e1, r1, rs, q, ec⟩ => ⟨m, h, s, _, _, e1, r1, rs, q, fun m1 h1 x v ex1 r2 rx q1 =>
    ⟨m1, h1, s, _, _, rfl, r2, rs.mono ex1, q1, fun m2 h2 y u ex2 r3 ry q2 => by
      obtain ⟨p, ov, o, H', h', e2, d, oo, ⟨ho, q3⟩, ex3, r4⟩ := takeM.of r3 q2 (rx.mono ex2) ry
      cases o with
      | none => cases ho
      | some y =>
        cases ov with
        | none => exact oo.elim
        | some z => exact ⟨p, z, H', e2, d, ec.nx _ _ _ _ (ex1.trans (ex2.trans ex3)) r4 (rs.mono (ex1.trans (ex2.trans ex3))) q3⟩, (ec.xc.mono ex1).at (rs.mono ex1)⟩, ec.xc.at rs⟩
end
/-- d.pop(y), d.pop(y, z) -/
def popR (z : LV) (h : LH) (Q : LQ) : Option LV → LH → Prop
  | some u, h3 => Q u h3
  | none, _ => Q z h
def lDPop : LRM
  | x, [y], h, Q => takeM x y h fun o h3 => optM o fun u => Q u h3
  | x, [y, z], h, Q => takeM x y h fun o h3 => popR z h Q o h3
  | _, _, _, _ => False
section
open PySem.Spec PyProof.Rows
variable {X : Cx}
theorem mt_pop2 (hu : X.A.units + 1 < cLine) : MtR X "dict.pop" (fun x xs H Q => (∃ a y v H', x = .ref a ∧ xs = [y] ∧ DDel H a y (some v) H' ∧ Q v H') ∨ (∃ a y z v H', x = .ref a ∧ xs = [y, z] ∧ DDel H a y (some v) H' ∧ Q v H') ∨ ∃ a y z H', x = .ref a ∧ xs = [y, z] ∧ DDel H a y none H' ∧ Q z H) := by
  intro pins s σ H x xs v us Q I rx rxs h
  have popT : ∀ {a b : Addr} {rest : List Value} {kvs : List (List Key × V)} {k : List Key}, H a = some (.dT kvs) → H b = some (.tup (k.map kV)) → (rest = [] ∨ ∃ x, rest = [x]) → ∀ v, valV kvs k = some v → Q v (upd H a (.dT (L2.dropK kvs k))) →
      wpAny (model X.prog X.w) X.A (call (.builtin "dict.pop") (.ref a :: .ref b :: rest)) (EP X pins σ Q) X.xe s := by
    intro a b rest kvs k e eb hr v ev q
    obtain ⟨z, hd, xs', rel, dd⟩ := dt_of I.hok e
    have hz : xs'.length ≤ sizeLine := by rw [← Paired.length rel]; exact z
    have ha : argsOk "dict.pop" ⟨.ref a :: .ref b :: rest, []⟩ := by
      rcases hr with q | ⟨x, q⟩
      · subst q; exact PySem.F.args_dict_pop_2 _ _
      · subst q; exact PySem.F.args_dict_pop_3 _ _ _
    refine call_meetsIn PySem.F.slot_dict_pop dd.typeIs PySem.F.entry_dict_pop ha (meetsH_dict_pop (tupleKind (mixKind X.prog X.w)) a b hd rest hr)
      ⟨tupleKind_room_in1 hu, k, xs', key_of I.hok eb, dd, hz, fun p hp h' dd' hs => ?_, fun hn tk => ?_⟩
    · have r := rel.val k
      rw [ev, hp] at r
      obtain ⟨o, es, ep, hq, h2, h3, h4, _, h5⟩ := dd'
      have I2 : Inv X pins σ (upd H a (.dT (L2.dropK kvs k))) { s with heap := h', toks := s.toks + (tupleKind (mixKind X.prog X.w)).draws k } :=
        d_write I (by rw [e]; exact True.intro) hs ⟨o, hq⟩ ⟨Nat.le_trans (dropK_le kvs k) z, hd, _, (L2.DX.KT_drop k rel).keeps (fun c ys ec => (by rw [upd_ne (ne_of ec e (fun z => nomatch z))]; exact ec)), o, es, ep, hq, h2, h3, h4, h5⟩
      show EP X pins σ Q p.2 _
      exact ⟨v, _, I2, r, q⟩
    · have r := rel.val k
      rw [ev, hn] at r
      exact (show False from r).elim
  rcases h with ⟨a, y, v, H', rfl, rfl, d, q⟩ | ⟨a, y, z, v, H', rfl, rfl, d, q⟩ | ⟨a, y, z, H', rfl, rfl, d, q⟩
  · cases rx
    obtain ⟨u, rfl, ru⟩ := vals1 rxs
    rcases d with ⟨kvs, k, e, ey, l, eH⟩ | ⟨kvs, k, b, e, ey, eb, l, eH⟩
    · subst ey eH
      exact d_pop I e ru l.symm (.inl rfl) fun w' s' I' rw' => ⟨v, _, I', rw', q⟩
    · subst ey eH
      cases (show u = Value.ref b from ru)
      exact popT e eb (.inl rfl) v l.symm q
  · cases rx
    obtain ⟨u1, u2, rfl, r1, r2⟩ := vals2 rxs
    rcases d with ⟨kvs, k, e, ey, l, eH⟩ | ⟨kvs, k, b, e, ey, eb, l, eH⟩
    · subst ey eH
      exact d_pop I e r1 l.symm (.inr ⟨_, rfl⟩) fun w' s' I' rw' => ⟨v, _, I', rw', q⟩
    · subst ey eH
      cases (show u1 = Value.ref b from r1)
      exact popT e eb (.inr ⟨_, rfl⟩) v l.symm q
  · cases rx
    obtain ⟨u1, u2, rfl, r1, r2⟩ := vals2 rxs
    rcases d with ⟨kvs, k, e, ey, l, eH⟩ | ⟨kvs, k, b, e, ey, eb, l, eH⟩
    · subst ey
      exact d_popD I e r1 l.symm fun s' I' => ⟨z, _, I', r2, q⟩
    · subst ey
      cases (show u1 = Value.ref b from r1)
      refine L2.DX.mt_popT hu pins s σ H _ _ _ _ Q I (show RelV (V.ref a) (Value.ref a) from rfl) (.cons (show RelV (V.ref b) (Value.ref b) from rfl) (.cons r2 .nil)) ⟨a, kvs, k, b, z, rfl, rfl, e, eb, fun v ev => ?_, fun _ => q⟩
      rw [← l] at ev; cases ev
theorem lm_popd (hu : X.A.units + 1 < cLine) : MtR X "dict.pop" (upRM X.K lDPop) := MtR.weak (mt_pop2 hu) fun x xs H Q hq => by
  obtain ⟨m, h, a, as, QL, e1, r, ra, rs, q, c⟩ := hq
  subst e1
  unfold lDPop at q
  split at q
  · obtain ⟨v, rfl, rv⟩ := rs.one
    obtain ⟨p, ov, o, H', h', e2, d, oo, q3, ex3, r4⟩ := takeM.of r q ra rv
    obtain ⟨u, rfl, q3⟩ := optM.of q3
    cases ov with
    | none => exact oo.elim
    | some z => exact .inl ⟨p, v, z, H', e2, rfl, d, c _ _ _ _ ex3 r4 ((show VRel _ _ u z from oo).mono ex3) q3⟩
  · obtain ⟨v, w, rfl, rv, rw'⟩ := rs.two
    obtain ⟨p, ov, o, H', h', e2, d, oo, q3, ex3, r4⟩ := takeM.of r q ra rv
    cases o with
    | none =>
      cases ov with
      | some z => exact oo.elim
      | none => exact .inr (.inr ⟨p, v, w, H', e2, rfl, d, c.val r rw' q3⟩)
    | some u =>
      cases ov with
      | none => exact oo.elim
      | some z => exact .inr (.inl ⟨p, v, w, z, H', e2, rfl, d, c _ _ _ _ ex3 r4 ((show VRel _ _ u z from oo).mono ex3) q3⟩)
  · exact q.elim
end
end LL

namespace LL
open PySem L2

/-! ### in, not in -/
/-- one of them? -/
def inP (xs : List LV) (a : LV) (P : Bool → Prop) : Prop := ∃ k, k ≤ 60 ∧ nb k a = true ∧ nbs k xs = true ∧ P (xs.any fun y => PyData.eqv (pd y) (pd a))
open Classical in
theorem inP_dec {k : Nat} {xs : List LV} {a : LV} {P : Bool → Prop} (hk : k ≤ 60) (ha : nb k a = true) (hx : nbs k xs = true) (p : P (decide (a ∈ xs))) : inP xs a P := by
  refine ⟨k, hk, ha, hx, ?_⟩
  have : ∀ xs : List LV, nbs k xs = true → (xs.any fun y => PyData.eqv (pd y) (pd a)) = decide (a ∈ xs) := by
    intro xs
    induction xs with
    | nil => intro _; simp
    | cons y ys ih =>
      intro h
      rw [nbs, Bool.and_eq_true] at h
      rw [List.any_cons, ih h.2, eqv_pd k k y a h.1 ha]
      by_cases e : y = a
      · subst e; simp
      · have e2 : ¬ a = y := fun z => e z.symm
        simp [e, e2]
  rw [this xs hx]
  exact p
def inO (a x : LV) (h : LH) (P : Bool → Prop) : Option (Nat × LO) → Nat → Prop
  | some (v', .lst xs), v => v' = v ∧ inP xs a P
  | _, _ => lookM h x a fun o => P o.isSome
def inM (a : LV) (h : LH) (P : Bool → Prop) : LV → Prop
  | .tup xs => inP xs a P
  | .loc n v => inO a (.loc n v) h P (h n) v
  | _ => False
def lIn : LR2 := fun a b h Q => inM a h (fun k => Q (.bl k) h) b
def lNin : LR2 := fun a b h Q => inM a h (fun k => Q (.bl (!k)) h) b
/-- what is asked of the heap -/
def InR (K : PySem.W.Frag) (x y : V) (H : Hp) (P : Bool → Prop) : Prop :=
  (∃ a o, y = .ref a ∧ DGet H a x o ∧ P o.isSome) ∨ ∃ d ds, Dp K H x d ∧ (Dp K H y (.list ds) ∨ Dp K H y (.tuple ds)) ∧ d.plain = true ∧ PyData.plainAll ds = true ∧ d.depth ≤ 60 ∧ P (ds.any fun z => PyData.eqv z d)
section
variable {X : Cx}
theorem op_inB (hu : X.A.units + 64 < cLine) : OpR X (compareOp .In) (fun x y H Q => InR X.K x y H fun b => Q (.bl b) H) := by
  intro pins s σ H x y v u Q I rx ry h
  rcases h with ⟨a, o, rfl, g, q⟩ | ⟨d, ds, hd, he, sd, se, hm, q⟩
  · cases ry
    exact d_in (by omega) I g rx fun s' I' => ⟨.bl _, H, I', rfl, q⟩
  · obtain ⟨as, r1⟩ := Dp.reads I d x v hd rx
    rcases he with he | he
    · obtain ⟨bs, r2⟩ := Dp.reads I _ y u he ry
      exact SeqAt.in_list_data r2 r1 se sd (by omega) ⟨.bl _, H, I, rfl, q⟩
    · obtain ⟨bs, r2⟩ := Dp.reads I _ y u he ry
      exact SeqAt.in_tuple_data r2 r1 se sd (by omega) ⟨.bl _, H, I, rfl, q⟩
theorem op_ninB (hu : X.A.units + 64 < cLine) : OpR X (compareOp .NotIn) (fun x y H Q => InR X.K x y H fun b => Q (.bl (!b)) H) := by
  intro pins s σ H x y v u Q I rx ry h
  rcases h with ⟨a, o, rfl, g, q⟩ | ⟨d, ds, hd, he, sd, se, hm, q⟩
  · cases ry
    exact d_notIn (by omega) I g rx fun s' I' => ⟨.bl _, H, I', rfl, q⟩
  · obtain ⟨as, r1⟩ := Dp.reads I d x v hd rx
    rcases he with he | he
    · obtain ⟨bs, r2⟩ := Dp.reads I _ y u he ry
      exact SeqAt.notIn_list_data r2 r1 se sd (by omega) ⟨.bl _, H, I, rfl, q⟩
    · obtain ⟨bs, r2⟩ := Dp.reads I _ y u he ry
      exact SeqAt.notIn_tuple_data r2 r1 se sd (by omega) ⟨.bl _, H, I, rfl, q⟩
theorem any_pd {a : LV} : ∀ xs : List LV, (xs.any fun y => PyData.eqv (pd y) (pd a)) = (pds xs).any fun z => PyData.eqv z (pd a)
  | [] => by rw [pds]; rfl
  | x :: xs => by rw [pds, List.any_cons, List.any_cons, any_pd xs]
theorem inM.of {m : Lay} {h : LH} (r : R X.K m h) {a b : LV} {x y : V} {P : Bool → Prop} (q : inM a h P b) (ra : VRel X.K m a x) (rb : VRel X.K m b y) : InR X.K x y m.H P := by
  unfold inM at q
  have dct : ∀ {b : LV} {y : V}, VRel X.K m b y → lookM h b a (fun o => P o.isSome) → InR X.K x y m.H P := fun rb q => by
    obtain ⟨o, d, q⟩ := q.of
    obtain ⟨p, ov, e2, g, oo⟩ := d.get r rb ra
    refine .inl ⟨p, ov, e2, g, ?_⟩
    cases o <;> cases ov <;> first | exact q | exact oo.elim
  split at q
  · rename_i xs
    obtain ⟨k, hk, ha, hx, q⟩ := q
    obtain ⟨h1, h2, h3⟩ := nb_dat (h := h) k 6 a ha
    obtain ⟨h4, h5, h6⟩ := nbs_dat (h := h) k 6 xs hx
    refine .inr ⟨pd a, pds xs, dat_dp r _ _ _ _ h1 ra, .inr ?_, h3, h6, by omega, by rw [← any_pd]; exact q⟩
    exact dat_dp r 6 (.tup xs) _ _ (by rw [dat, h4]; rfl) rb
  · rename_i n v
    unfold inO at q
    split at q
    · rename_i v' xs hn
      obtain ⟨rfl, k, hk, ha, hx, q⟩ := q
      obtain ⟨h1, h2, h3⟩ := nb_dat (h := h) k 6 a ha
      obtain ⟨h4, h5, h6⟩ := nbs_dat (h := h) k 6 xs hx
      refine .inr ⟨pd a, pds xs, dat_dp r _ _ _ _ h1 ra, .inl ?_, h3, h6, by omega, by rw [← any_pd]; exact q⟩
      exact dat_dp r 6 _ _ _ (dat_ll (j := 5) hn hx) rb
    · exact dct rb q
  · exact q.elim
theorem li_in (hu : X.A.units + 64 < cLine) : OpR X (compareOp .In) (upR2 X.K lIn) := OpR.weak (op_inB hu) fun x y H Q hq => by
  refine upI (r := fun x y H Q => _) hq fun m h a b QL e1 r ra rb q c => ?_
  subst e1
  have := inM.of r (P := fun k => QL (.bl k) h) q ra rb
  rcases this with ⟨p, o, e, g, z⟩ | ⟨d, ds, h1, h2, h3, h4, h5, z⟩
  · exact .inl ⟨p, o, e, g, c.bl r z⟩
  · exact .inr ⟨d, ds, h1, h2, h3, h4, h5, c.bl r z⟩
theorem li_nin (hu : X.A.units + 64 < cLine) : OpR X (compareOp .NotIn) (upR2 X.K lNin) := OpR.weak (op_ninB hu) fun x y H Q hq => by
  refine upI (r := fun x y H Q => _) hq fun m h a b QL e1 r ra rb q c => ?_
  subst e1
  have := inM.of r (P := fun k => QL (.bl (!k)) h) q ra rb
  rcases this with ⟨p, o, e, g, z⟩ | ⟨d, ds, h1, h2, h3, h4, h5, z⟩
  · exact .inl ⟨p, o, e, g, c.bl r z⟩
  · exact .inr ⟨d, ds, h1, h2, h3, h4, h5, c.bl r z⟩
end

/-! ### is: of truth values -/
def LV.isBl : LV → Bool → Bool
  | .bl a, b => a == b
  | _, _ => false
def lIsB : LR2
  | a, .non, h, Q => Q (.bl a.isNon) h
  | .bl a, .bl b, h, Q => Q (.bl (a == b)) h
  | _, _, _, _ => False
def lNotB : LR2
  | a, .non, h, Q => Q (.bl (!a.isNon)) h
  | .bl a, .bl b, h, Q => Q (.bl (!(a == b))) h
  | _, _, _, _ => False
end LL

namespace LL
open PySem L2

/-! ### sorted: of a dict's keys, of lists -/
theorem vals_perm {vs out : List Value} (p : out.Perm vs) : ∀ {xs : List V}, Vals xs vs → ∃ ys, ys.Perm xs ∧ Vals ys out := by
  induction p with
  | nil => intro xs r; exact ⟨xs, .refl _, r⟩
  | cons a _ ih =>
    intro xs r
    cases r with
    | cons rx rt => obtain ⟨ys, p, r⟩ := ih rt; exact ⟨_ :: ys, p.cons _, .cons rx r⟩
  | swap a b l =>
    intro xs r
    cases r with
    | cons rx rt =>
      cases rt with
      | cons ry rt => exact ⟨_, .swap _ _ _, .cons ry (.cons rx rt)⟩
  | trans _ _ ih1 ih2 =>
    intro xs r
    obtain ⟨ys, p1, r1⟩ := ih2 r
    obtain ⟨zs, p2, r2⟩ := ih1 r1
    exact ⟨zs, p2.trans p1, r2⟩
section
open PySem.Spec PyProof.Rows
variable {X : Cx} {pins : List (Addr × Obj)} {σ : L2.St} {H : Hp} {s : Shared}
theorem sortedD_run {d : Addr} {es : Array DictEntry} {ep : Nat} {o : Obj} {ltv : Value → Value → Bool} {Q : VK} (I : Inv X pins σ H s) (hc : X.calm = true) (lo : (d == sysModules) = false) (ho : s.heap.get? d = some o) (hx : o.ExactDict) (hd : o.data = .dict es ep)
    (hz : es.size ≤ sizeLine) (O : SrtO.Swo ltv)
    (hS : ∀ (s1 : Shared) (a : Addr), (∀ b o, s.heap.get? b = some o → b ≠ a ∧ s1.heap.get? b = some o) → s1.heap.get? a = some (seqObj "list" (es.toList.map (·.key)).toArray 0) → 2 ≤ es.size → SrtO.SortableO X.prog X.w X.A.in1.in1 s1 a (es.toList.map (·.key)) ltv)
    (q : ∀ (out : List Value) (p : Addr), SrtO.Srtd ltv out → SrtO.Stb ltv out (es.toList.map (·.key)) → H p = none → ∃ ys, Vals ys out ∧ Q (.ref p) (upd H p (.lst ys))) :
    wpAny (model X.prog X.w) X.A (call (.builtin "sorted") [.ref d]) (EP X pins σ Q) X.xe s := by
  refine Calls.call_function_entry PyProof.Rows.kind_sorted PyProof.Rows.plain_sorted PyProof.Rows.entry_sorted (PyProof.Rows.args_sorted1 _) ?_
  unfold Builtin.«sorted»
  refine wpAny_bind (m := checkCount "sorted" 1 1 _) (wpAny_pure ?_)
  refine wpAny_bind (PySem.W.kdu_collect (A := X.A.in1) (kdl_raw lo hx hd) (I.ok.hd hc) ho hz fun h' tk acc hk hacc => ?_)
  have ea : acc.toList = es.toList.map (·.key) := by
    apply List.ext_getElem?
    intro j
    rw [List.getElem?_map, Array.getElem?_toList, Array.getElem?_toList]
    cases hj : acc[j]? with
    | none =>
      have h1 := Array.getElem?_eq_none_iff.mp hj
      rw [hacc.1] at h1
      rw [Array.getElem?_eq_none h1]; rfl
    | some v =>
      obtain ⟨en, hen, hv⟩ := hacc.2 j v hj
      rw [hen, hv]; rfl
  have hal : acc.toList.length = es.size := by rw [Array.length_toList, hacc.1]
  have I1 : Inv X pins σ H { s with heap := h', toks := tk } := I.kept hk
  refine wpAny_bind (wpAny_newList ?_ (by rw [hal]; exact hz))
  have hoL : (h'.push (seqObj "list" acc.toList.toArray 0)).get? h'.objs.size = some (seqObj "list" acc.toList.toArray 0) := Heap.get?_push_size _ rfl
  show wpAny _ _ _ _ _ { s with heap := h'.push (seqObj "list" acc.toList.toArray 0), toks := tk }
  refine wpAny_bind (wpAny_holding (wpAny_call_entry PyProof.Rows.slot_list_sort ⟨_, hoL, rfl⟩ PyProof.Rows.entry_list_sort
    (SrtO.list_sort_ord (s := { s with heap := h'.push (seqObj "list" acc.toList.toArray 0), toks := tk }) O hoL (by rw [hal]; exact hz) (fun h2 => ?_) fun out h1 h2 => ⟨_, rfl, ?_⟩) (PyProof.Rows.args_list_sort _)))
  · rw [ea] at hoL ⊢
    refine hS _ _ (fun b o e => ⟨Nat.ne_of_lt (Heap.lt_size (hk b o e)), ?_⟩) hoL (by rw [hal] at h2; exact h2)
    rw [← ea]
    exact Heap.get?_push_of_some _ (hk b o e)
  · obtain ⟨e', he'⟩ := PyProof.Rows.sortedHeap_at (vs := acc.toList) (out := out.toArray) hoL
    rw [ea] at h2
    obtain ⟨ys, hr, hq⟩ := q out _ h1 h2 (I1.hok.fresh (Nat.le_refl _))
    have hlen : ys.length ≤ sizeLine := by rw [hr.length, h2.perm.length_eq, List.length_map, Array.length_toList]; exact hz
    refine wpAny_pure ⟨_, rfl, .ref h'.objs.size, upd H h'.objs.size (.lst ys), I1.laid (t' := tk) (fun b u e => ?_) (Nat.le_refl _)
      (show ObjOk X.prog X.w _ _ _ (.lst ys) from ⟨hlen, out, e', hr, he'⟩), rfl, hq⟩
    have hb : b < h'.objs.size := Heap.lt_size e
    rw [PyProof.Rows.sortedHeap_old (Nat.ne_of_lt hb) (by rw [size_push']; exact Nat.lt_succ_of_lt hb)]
    exact Heap.get?_push_of_some _ e
theorem pairs_ints : ∀ {es : List DictEntry} {ws : List (Key × Value)} {ks : List Int}, Pairs (mixKind X.prog X.w) es ws → ws.map (·.1) = ks.map Sum.inl → IntsAre (es.map (·.key)) ks
  | _, _, ks, .nil, e => by
    cases ks with
    | nil => exact .nil
    | cons => cases e
  | _, _, ks, .cons hk hv r, e => by
    cases ks with
    | nil => cases e
    | cons k ks =>
      simp only [List.map_cons, List.cons.injEq] at e
      rcases keyIs_shape hk with ⟨i, t, ek, ev⟩ | ⟨z, t, ek, ev⟩
      · rw [e.1] at ek; cases ek
        simp only [List.map_cons, ev]
        exact .cons k t (pairs_ints r e.2)
      · rw [e.1] at ek; cases ek
/-- ints -/
theorem cr_sortedDI2 (hc : X.calm = true) : CallR X (.builtin "sorted") (fun vs H Q => ∃ (a : Addr) (kvs : List (Key × V)) (ks : List Int), vs = [.ref a] ∧ H a = some (.dK kvs) ∧ kvs.map (·.1) = ks.map Sum.inl ∧
    ∀ (ns : List Int) (p : Addr), ns.Perm ks → ns.Pairwise (· ≤ ·) → H p = none → Q (.ref p) (upd H p (.lst (ns.map V.int)))) := by
  intro pins s σ H vs us Q I r h
  obtain ⟨a, kvs, ks, rfl, hH, hks, q⟩ := h
  obtain ⟨u, rfl, rx⟩ := vals1 r
  cases rx
  obtain ⟨z, lo, ws, rel, dd⟩ := dk_of I.hok hH
  obtain ⟨ep, o, es, ho, hx, hd, hko, hpr, hnd⟩ : ∃ ep, s.heap.DictAt (mixKind X.prog X.w) a ws ep := dd.dictAt
  have hS : IntsAre (es.toList.map (·.key)) ks := pairs_ints hpr (rel.keys.symm.trans hks)
  have hes : es.size = kvs.length := by rw [← Array.length_toList, hpr.length]; exact (Paired.length rel).symm
  refine sortedD_run I hc lo ho hx hd (by rw [hes]; exact z) SrtO.swo_int (fun s1 b _ _ h2 => SrtO.ints_sortable hS (by rw [List.length_map, Array.length_toList]; exact h2)) fun out p h1 h2 h5 => ?_
  obtain ⟨k1, k2, k3⟩ := SrtO.ints_out hS h1 h2
  exact ⟨_, vals_of_ints k1, q _ p k2 k3 h5⟩
/-- the pair that a reference stands for -/
theorem pair_key {H : Hp} {vs : List Value} {ks : List (Int × Int)} (h : Paired (fun v n => ∃ t, v = Value.ref t ∧ H t = some (.tup [.int (n : Int × Int).1, .int n.2])) vs ks) :
    ∃ k : Value → Int × Int, (∀ v ∈ vs, ∃ t, v = Value.ref t ∧ H t = some (.tup [.int (k v).1, .int (k v).2])) ∧ vs.map k = ks := by
  refine ⟨fun v => match v with
    | .ref t => match H t with
      | some (.tup [.int i, .int j]) => (i, j)
      | _ => (0, 0)
    | _ => (0, 0), ?_, ?_⟩
  · induction h with
    | nil => intro v hv; cases hv
    | cons h r ih =>
      intro v hv
      rcases List.mem_cons.mp hv with e | hv
      · obtain ⟨t, e2, ht⟩ := h
        subst e e2
        exact ⟨t, rfl, by simp only [ht]⟩
      · exact ih v hv
  · induction h with
    | nil => rfl
    | cons h r ih =>
      obtain ⟨t, e2, ht⟩ := h
      subst e2
      simp only [List.map_cons, ht, ih]
/-- pairs of ints -/
theorem cr_sortedDP (hc : X.calm = true) : CallR X (.builtin "sorted") (fun vs H Q => ∃ (a : Addr) (kvs : List (List Key × V)) (ks : List (Int × Int)), vs = [.ref a] ∧ H a = some (.dT kvs) ∧ kvs.map (·.1) = ks.map (fun p => [Sum.inl p.1, Sum.inl p.2]) ∧
    ∀ (ys : List V) (ns : List (Int × Int)) (p : Addr), ns.Perm ks → ns.Pairwise (fun x y => SrtO.lexB y x = false) → Paired (fun y n => ∃ t, y = V.ref t ∧ H t = some (.tup [.int (n : Int × Int).1, .int n.2])) ys ns → H p = none → Q (.ref p) (upd H p (.lst ys))) := by
  intro pins s σ H vs us Q I r h
  obtain ⟨a, kvs, ks, rfl, hH, hks, q⟩ := h
  obtain ⟨u, rfl, rx⟩ := vals1 r
  cases rx
  obtain ⟨z, lo, xs, pr, o, es, ep, ho, hx, hd, he, hnd⟩ := I.hok a _ hH
  have hes : es.size = kvs.length := by rw [← Array.length_toList, he, List.length_map]; exact (Paired.length pr).symm
  have key : ∀ {kvs : List (List Key × V)} {xs : List (List Key × Addr × Value)} {ks : List (Int × Int)}, Paired (fun (p : List Key × V) (q : List Key × Addr × Value) => p.1 = q.1 ∧ H q.2.1 = some (.tup (p.1.map kV)) ∧ RelV p.2 q.2.2) kvs xs →
      kvs.map (·.1) = ks.map (fun p => [Sum.inl p.1, Sum.inl p.2]) → Paired (fun v n => ∃ t, v = Value.ref t ∧ H t = some (.tup [.int (n : Int × Int).1, .int n.2])) (xs.map fun x => Value.ref x.2.1) ks := by
    intro kvs xs ks pr
    induction pr generalizing ks with
    | nil => intro e; cases ks with
      | nil => exact .nil
      | cons => cases e
    | cons h r ih => intro e; cases ks with
      | nil => cases e
      | cons n ks =>
        simp only [List.map_cons, List.cons.injEq] at e
        exact .cons ⟨_, rfl, by rw [h.2.1, e.1]; rfl⟩ (ih e.2)
  have ek : es.toList.map (·.key) = xs.map fun x => Value.ref x.2.1 := by rw [he, List.map_map]; rfl
  have hk := key pr hks
  rw [← ek] at hk
  obtain ⟨k, hkk⟩ := pair_key hk
  have hp : ∀ v ∈ es.toList.map (·.key), Srt.IsPair s.heap v (k v).1 (k v).2 := fun v hv => by
    obtain ⟨t, rfl, ht⟩ := hkk.1 v hv
    obtain ⟨_, its2, r2, o2, ho2, hc2, n2, hd2⟩ := I.hok _ _ ht
    obtain ⟨u1, u2, rfl, ri, rj⟩ := vals2 r2
    obtain ⟨t1, rfl⟩ := ri
    obtain ⟨t2, rfl⟩ := rj
    exact ⟨t, o2, t1, t2, n2, rfl, ho2, hc2, hd2⟩
  refine sortedD_run I hc lo ho hx hd (by rw [hes]; exact z) (SrtO.swo_lex k) (fun s1 b kp hb h2 => SrtO.pairs_sortableO (by rw [List.length_map, Array.length_toList]; omega) (fun v hv => (hp v hv).keeps fun c o e _ => (kp c o e).2) fun o e => ?_) fun out p h1 h2 h5 => ?_
  · rw [hb] at e; cases e; intro c; exact absurd (Value.type.inj c) (by decide)
  · have hm : ∀ v ∈ out, ∃ t, v = Value.ref t ∧ H t = some (.tup [.int (k v).1, .int (k v).2]) := fun v hv => hkk.1 v (h2.perm.mem_iff.mp hv)
    refine ⟨out.map backV, vals_back fun u hu => let ⟨t, e, _⟩ := hm u hu; ⟨t, e⟩, q _ (out.map k) p ?_ (List.pairwise_map.mpr h1) ?_ h5⟩
    · rw [← hkk.2]; exact h2.perm.map k
    · clear h1 h2
      induction out with
      | nil => exact .nil
      | cons v out ih =>
        obtain ⟨t, e, ht⟩ := hm v List.mem_cons_self
        exact .cons ⟨t, by rw [e]; rfl, ht⟩ (ih fun u hu => hm u (List.mem_cons_of_mem _ hu))
end

/-! ### tuples with different first ints -/
section
open PySem.Spec PyProof.Rows
/-- a tuple, its first item an int -/
def IsFst (h : Heap) (v : Value) (x : Int) : Prop := ∃ a o t xs n, v = .ref a ∧ h.get? a = some o ∧ o.cls = .type "tuple" ∧ o.data = .seq xs n ∧ xs[0]? = some (.int x t)
theorem IsFst.keeps {h h' : Heap} {v : Value} {x : Int} (p : IsFst h v x) (k : ∀ b o, h.get? b = some o → o.cls = .type "tuple" → h'.get? b = some o) : IsFst h' v x := by
  obtain ⟨a, o, t, xs, n, e, ho, hc, hd, hx⟩ := p
  exact ⟨a, o, t, xs, n, e, k _ _ ho hc, hc, hd, hx⟩
variable {prog : Program} {w : World} {A : Around} {s : Shared}
theorem kat_self {fin : Bool} {Q : Bool → Shared → Prop} : ∀ (l : List Value) (i : Nat), Q fin s → PySem.W.KatLex prog w A true fin Q (l.zip l) i s
  | [], _, h => PySem.W.kat_nil h
  | v :: l, i, h => PySem.W.kat_cons (SeqAt.EqAt.same v prog w _ _ (PySem.W.kat_yes (kat_self l (i + 1) h)))
def ltF (k : Value → Int) (v u : Value) : Bool := decide (k v < k u)
theorem swo_f (k : Value → Int) : SrtO.Swo (ltF k) := by
  refine ⟨fun x y h => ?_, fun x y z h1 h2 => ?_⟩
  · have a := of_decide_eq_true (p := k x < k y) h
    exact decide_eq_false (p := k y < k x) (by omega)
  · have a := of_decide_eq_false (p := k y < k x) h1
    have b := of_decide_eq_false (p := k z < k y) h2
    exact decide_eq_false (p := k z < k x) (by omega)
theorem fst_cmp {vs : List Value} {k : Value → Int} (hp : ∀ v ∈ vs, IsFst s.heap v (k v)) (hi : ∀ v ∈ vs, ∀ u ∈ vs, k v = k u → v = u) : SrtO.Cmp prog w A s (tuples' true) (fun p => p.1 ∈ vs) (SrtO.lt2 (ltF k)) := by
  intro p q hm hm'
  have h1 := hp _ hm
  have h2 := hp _ hm'
  have hi := hi _ hm _ hm'
  show wpAny (model prog w) A (keyLt' (tuples' true) p.1 q.1) (fun r s' => s' = s ∧ r = decide (k p.1 < k q.1)) (fun _ _ => False) s
  generalize k p.1 = x at h1 hi ⊢
  generalize k q.1 = x' at h2 hi ⊢
  obtain ⟨a, o, t, xs, n, e, ho, hc, hd, hx⟩ := h1
  obtain ⟨a', o', t', xs', n', e', ho', hc', hd', hx'⟩ := h2
  rw [e, e'] at hi
  rw [e, e']
  by_cases ex : x = x'
  · have ea := Value.ref.inj (hi ex)
    subst ea
    rw [ho] at ho'; cases ho'
    rw [hd] at hd'; cases hd'
    refine PySem.W.kat_lt ho hd ho hd ?_
    refine kat_self _ 0 ⟨rfl, ?_⟩
    rw [ex, decide_eq_false (Nat.lt_irrefl _), decide_eq_false (Int.lt_irrefl _)]
  · refine PySem.W.kat_lt ho hd ho' hd' ?_
    obtain ⟨l⟩ := xs
    obtain ⟨l'⟩ := xs'
    cases l with
    | nil => simp at hx
    | cons v l =>
      cases l' with
      | nil => simp at hx'
      | cons u l' =>
        have hx : v = .int x t := by simpa using hx
        have hx' : u = .int x' t' := by simpa using hx'
        subst hx hx'
        refine PySem.W.kat_cons (SeqAt.EqAt.int_int x t x' t' prog w _ _ ?_)
        refine PySem.W.kat_go (fun e1 => absurd (by simpa using e1) ex) (fun e1 => PySem.W.kat_no (oneLt_int ⟨rfl, rfl⟩))
theorem fst_sortable {a : Addr} {vs : List Value} {k : Value → Int} (h0 : 0 < vs.length) (hp : ∀ v ∈ vs, IsFst s.heap v (k v)) (hi : ∀ v ∈ vs, ∀ u ∈ vs, k v = k u → v = u) (ha : ∀ o, s.heap.get? a = some o → o.cls ≠ .type "tuple") : SrtO.SortableO prog w A s a vs (ltF k) := by
  intro h' keep
  have hp' : ∀ v ∈ vs, IsFst h' v (k v) := fun v hm => (hp v hm).keeps fun b o e c => keep b o (fun z => by subst z; exact ha o e c) e
  have fs : ∀ (vs : List Value), (∀ v ∈ vs, IsFst h' v (k v)) → ∃ fs, PySem.W.KatTups h' vs fs ∧ fs.length = vs.length ∧ ∀ v ∈ fs, ∃ i t, v = Value.int i t := by
    intro vs
    induction vs with
    | nil => intro _; exact ⟨[], .nil, rfl, fun v hv => by cases hv⟩
    | cons v vs ih =>
      intro hp
      obtain ⟨fs, h1, h2, h3⟩ := ih fun u hu => hp u (List.mem_cons_of_mem _ hu)
      obtain ⟨a, o, t, xs, n, e, ho, hc, hd, hx⟩ := hp v List.mem_cons_self
      subst e
      refine ⟨_ :: fs, .cons ho hc hd hx h1, by simp [h2], fun u hu => ?_⟩
      rcases List.mem_cons.mp hu with e | hu
      · exact ⟨_, _, e⟩
      · exact h3 u hu
  obtain ⟨fs, h1, h2, h3⟩ := fs vs hp'
  refine ⟨tuples' true, fun Q E hq => ?_, fst_cmp hp' hi⟩
  refine PySem.W.kat_kind (T := .type "int") h1 (by omega) (fun f hm => ?_) (by rfl) ?_
  · obtain ⟨x, t, rfl⟩ := h3 f hm
    exact PySem.W.Looks.now
  · have e : (Value.type "int" != Value.type "tuple") = true := by first | decide +kernel | rfl | decide
    rw [e]
    exact hq
variable {X : Cx}
theorem cr_sortedF : CallR X (.builtin "sorted") (fun vs H Q => ∃ (a : Addr) (xs : List V) (k : V → Int), vs = [V.ref a] ∧ SqL X.K H a xs ∧ (∀ x ∈ xs, ∃ t r, x = V.ref t ∧ H t = some (.tup (.int (k x) :: r))) ∧ (∀ x ∈ xs, ∀ y ∈ xs, k x = k y → x = y) ∧
    ∀ ys p, ys.Perm xs → ys.Pairwise (fun x y => k x ≤ k y) → H p = none → Q (.ref p) (upd H p (.lst ys))) := by
  intro pins s σ H vs us Q I r h
  obtain ⟨a, xs, k, rfl, hs, hx, hi, q⟩ := h
  obtain ⟨its, rv, hl, hz⟩ := I.list hs
  obtain ⟨u, rfl, ru⟩ := vals1 r
  obtain rfl : u = Value.ref a := ru
  obtain ⟨e1, e2⟩ := refs_back rv fun x m => by
    obtain ⟨t, _, e, _⟩ := hx x m
    exact ⟨t, e⟩
  have hp : ∀ v ∈ its, IsFst s.heap v (k (backV v)) := fun v hv => by
    obtain ⟨t, rfl⟩ := e2 v hv
    have hm : V.ref t ∈ xs := by rw [e1]; exact List.mem_map.mpr ⟨_, hv, rfl⟩
    obtain ⟨t', r, e, ht⟩ := hx _ hm
    cases e
    obtain ⟨_, its2, r2, o, ho, hc, n, hd⟩ := I.hok _ _ ht
    cases r2 with
    | cons ri rr =>
      obtain ⟨t1, rfl⟩ := ri
      exact ⟨t, o, t1, _, n, rfl, ho, hc, hd, rfl⟩
  have hinj : ∀ v ∈ its, ∀ u ∈ its, k (backV v) = k (backV u) → v = u := fun v hv u hu e => by
    obtain ⟨t, rfl⟩ := e2 v hv
    obtain ⟨t2, rfl⟩ := e2 u hu
    have := hi (.ref t) (by rw [e1]; exact List.mem_map.mpr ⟨_, hv, rfl⟩) (.ref t2) (by rw [e1]; exact List.mem_map.mpr ⟨_, hu, rfl⟩) e
    cases this; rfl
  refine SrtO.sorted_ord (swo_f fun v => k (backV v)) hl.isList (by rw [← rv.length]; exact hz) (fun h2 h₁ a' ha' kk => fst_sortable (s := { s with heap := h₁ }) (by omega) (fun v hv => (hp v hv).keeps fun b o e _ => (kk b o e).2) hinj fun o e => ?_) fun out h1 h2 => ?_
  · have e' : some o = some (seqObj "list" its.toArray 0) := e.symm.trans ha'
    cases e'
    intro c; exact absurd (Value.type.inj c) (by decide)
  · have h3 : ∀ u ∈ out, ∃ a, u = Value.ref a := fun u hu => e2 u (h2.perm.mem_iff.mp hu)
    obtain ⟨ep, he'⟩ := PyProof.Rows.sortedAll_at s.heap its out.toArray
    refine ⟨.ref _, upd H (s.heap.objs.size + 1) (.lst (out.map backV)), I.laid (t' := s.toks) (fun _ _ => PyProof.Rows.sortedAll_old) (Nat.le_succ _) ⟨?_, out, ep, vals_back h3, he'⟩, rfl, q _ _ ?_ ?_ (I.hok.fresh (Nat.le_succ _))⟩
    · rw [List.length_map, h2.perm.length_eq, ← rv.length]; exact hz
    · rw [e1]; exact h2.perm.map backV
    · exact List.pairwise_map.mpr (h1.imp fun {x y} h => Int.not_lt.mp (of_decide_eq_false (p := k (backV y) < k (backV x)) h))
end
end LL

namespace LL
open PySem L2

/-! ### sorted, logically -/
def leI (a b : Int) : Bool := decide (a ≤ b)
def leP (p q : Int × Int) : Bool := !SrtO.lexB q p
def leF (p q : Int × List LV) : Bool := decide (p.1 ≤ q.1)
def sortI (l : List Int) : List Int := l.mergeSort leI
def sortP (l : List (Int × Int)) : List (Int × Int) := l.mergeSort leP
def sortF (l : List (Int × List LV)) : List (Int × List LV) := l.mergeSort leF
def pv (p : Int × Int) : LV := .tup [.int p.1, .int p.2]
def tv (r : Int × List LV) : LV := .tup (.int r.1 :: r.2)
theorem leP_iff {p q : Int × Int} : leP p q = true ↔ p.1 < q.1 ∨ (p.1 = q.1 ∧ p.2 ≤ q.2) := by
  unfold leP
  rw [Bool.not_eq_true', SrtO.lexB_no]
  omega
theorem sortI_perm (l : List Int) : (sortI l).Perm l := List.mergeSort_perm l leI
theorem sortP_perm (l : List (Int × Int)) : (sortP l).Perm l := List.mergeSort_perm l leP
theorem sortF_perm (l : List (Int × List LV)) : (sortF l).Perm l := List.mergeSort_perm l leF
theorem sortI_ord (l : List Int) : (sortI l).Pairwise (· ≤ ·) :=
  (List.pairwise_mergeSort (le := leI) (fun a b c h1 h2 => by simp only [leI, decide_eq_true_eq] at *; omega) (fun a b => by simp only [leI, Bool.or_eq_true, decide_eq_true_eq]; omega) l).imp fun h => of_decide_eq_true h
theorem sortP_ord (l : List (Int × Int)) : (sortP l).Pairwise (fun p q => leP p q = true) :=
  List.pairwise_mergeSort (le := leP) (fun a b c h1 h2 => by rw [leP_iff] at *; omega) (fun a b => by rw [Bool.or_eq_true, leP_iff, leP_iff]; omega) l
theorem sortF_ord (l : List (Int × List LV)) : (sortF l).Pairwise (fun p q => p.1 ≤ q.1) :=
  (List.pairwise_mergeSort (le := leF) (fun a b c h1 h2 => by simp only [leF, decide_eq_true_eq] at *; omega) (fun a b => by simp only [leF, Bool.or_eq_true, decide_eq_true_eq]; omega) l).imp fun h => of_decide_eq_true h
theorem sortI_uniq {l m : List Int} (p : m.Perm l) (h : m.Pairwise (· ≤ ·)) : m = sortI l :=
  List.Perm.eq_of_pairwise (le := (· ≤ ·)) (fun a b _ _ h1 h2 => by omega) h (sortI_ord l) (p.trans (sortI_perm l).symm)
theorem sortP_uniq {l m : List (Int × Int)} (p : m.Perm l) (h : m.Pairwise (fun p q => leP p q = true)) : m = sortP l :=
  List.Perm.eq_of_pairwise (le := fun p q => leP p q = true) (fun a b _ _ h1 h2 => by rw [leP_iff] at *; exact Prod.ext (by omega) (by omega)) h (sortP_ord l) (p.trans (sortP_perm l).symm)
theorem nodup_fst {β : Type} : ∀ {l : List (Int × β)}, (l.map Prod.fst).Nodup → ∀ a ∈ l, ∀ b ∈ l, a.1 = b.1 → a = b
  | [], _, a, ha, _, _, _ => by cases ha
  | x :: l, h, a, ha, b, hb, e => by
    rw [List.map_cons, List.nodup_cons] at h
    rcases List.mem_cons.mp ha with h1 | h1 <;> rcases List.mem_cons.mp hb with h2 | h2
    · rw [h1, h2]
    · exact absurd (List.mem_map.mpr ⟨b, h2, by rw [← e, h1]⟩) h.1
    · exact absurd (List.mem_map.mpr ⟨a, h1, by rw [e, h2]⟩) h.1
    · exact nodup_fst h.2 a h1 b h2 e
theorem sortF_uniq {l m : List (Int × List LV)} (hn : (l.map Prod.fst).Nodup) (p : m.Perm l) (h : m.Pairwise (fun p q => p.1 ≤ q.1)) : m = sortF l :=
  List.Perm.eq_of_pairwise (le := fun p q => p.1 ≤ q.1) (fun a b ha hb h1 h2 => nodup_fst hn a (p.mem_iff.mp ha) b ((sortF_perm l).mem_iff.mp hb) (by omega)) h (sortF_ord l) (p.trans (sortF_perm l).symm)
/-- a permutation of what f gave -/
theorem perm_map {α β : Type} {f : α → β} {zs m : List β} (p : zs.Perm m) : ∀ {l : List α}, m = l.map f → ∃ l' : List α, l'.Perm l ∧ zs = l'.map f := by
  induction p with
  | nil => intro l e; cases l with
    | nil => exact ⟨[], .refl _, rfl⟩
    | cons => cases e
  | cons a _ ih =>
    intro l e
    cases l with
    | nil => cases e
    | cons x l =>
      rw [List.map_cons, List.cons.injEq] at e
      obtain ⟨l', p, rfl⟩ := ih e.2
      exact ⟨x :: l', p.cons x, by rw [List.map_cons, e.1]⟩
  | swap a b m =>
    intro l e
    match l, e with
    | x :: y :: l, e =>
      simp only [List.map_cons, List.cons.injEq] at e
      exact ⟨y :: x :: l, .swap _ _ _, by simp only [List.map_cons, e.1, e.2.1, e.2.2]⟩
  | trans _ _ ih1 ih2 =>
    intro l e
    obtain ⟨l1, p1, e1⟩ := ih2 e
    obtain ⟨l2, p2, e2⟩ := ih1 e1
    exact ⟨l2, p2.trans p1, e2⟩
theorem VRels.perm {K : PySem.W.Frag} {m : Lay} {vs out : List V} (p : out.Perm vs) : ∀ {xs : List LV}, VRels K m xs vs → ∃ ys, ys.Perm xs ∧ VRels K m ys out := by
  induction p with
  | nil => intro xs r; exact ⟨xs, .refl _, r⟩
  | cons a _ ih =>
    intro xs r
    cases xs with
    | nil => cases (show _ = [] from r)
    | cons x xs =>
      obtain ⟨v, ws, e, rx, rt⟩ := r
      cases e
      obtain ⟨ys, p, r⟩ := ih rt
      exact ⟨_ :: ys, p.cons _, .cons rx r⟩
  | swap a b l =>
    intro xs r
    cases xs with
    | nil => cases (show _ = [] from r)
    | cons x xs =>
      obtain ⟨v, ws, e, rx, rt⟩ := r
      cases e
      cases xs with
      | nil => cases (show _ = [] from rt)
      | cons y xs =>
        obtain ⟨v, ws, e, ry, rt⟩ := rt
        cases e
        exact ⟨_, .swap _ _ _, .cons ry (.cons rx rt)⟩
  | trans _ _ ih1 ih2 =>
    intro xs r
    obtain ⟨ys, p1, r1⟩ := ih2 r
    obtain ⟨zs, p2, r2⟩ := ih1 r1
    exact ⟨zs, p2.trans p1, r2⟩
def sortO (h : LH) (Q : LQ) : Option (Nat × LO) → Nat → Prop
  | some (v', .lst xs), v => v' = v ∧ ((∃ ns : List Int, xs = ns.map LV.int ∧ Alloc h (.lst ((sortI ns).map LV.int)) Q) ∨ (∃ ps, xs = ps.map pv ∧ Alloc h (.lst ((sortP ps).map pv)) Q) ∨ ∃ rs, xs = rs.map tv ∧ (rs.map Prod.fst).Nodup ∧ Alloc h (.lst ((sortF rs).map tv)) Q)
  | some (v', .dK kvs), v => v' = v ∧ ∃ ks : List Int, kvs.map (·.1) = ks.map Sum.inl ∧ Alloc h (.lst ((sortI ks).map LV.int)) Q
  | some (v', .dT kvs), v => v' = v ∧ ∃ ks : List (Int × Int), kvs.map (·.1) = ks.map (fun p => [Sum.inl p.1, Sum.inl p.2]) ∧ Alloc h (.lst ((sortP ks).map pv)) Q
  | _, _ => False
def lSorted : LRA
  | [.loc n v], h, Q => sortO h Q (h n) v
  | _, _, _ => False
section
variable {X : Cx}
theorem KVR.keys {κ : Type} {K : PySem.W.Frag} {m : Lay} : ∀ {xs : List (κ × LV)} {vs : List (κ × V)}, KVR K m xs vs → vs.map (·.1) = xs.map (·.1)
  | [], _, h => by cases (show _ = [] from h); rfl
  | _ :: _, _, ⟨v, ws, e1, h, t⟩ => by subst e1; simp [KVR.keys t]
theorem paired_pv {K : PySem.W.Frag} {m : Lay} {ys : List V} {ns : List (Int × Int)} (h : Paired (fun y n => ∃ t, y = V.ref t ∧ m.H t = some (.tup [.int (n : Int × Int).1, .int n.2])) ys ns) : VRels K m (ns.map pv) ys := by
  induction h with
  | nil => exact .nil
  | cons h r ih =>
    obtain ⟨t, e, ht⟩ := h
    subst e
    exact .cons ⟨t, _, rfl, ht, .cons rfl (.cons rfl .nil)⟩ ih
theorem pv_fst {K : PySem.W.Frag} {m : Lay} {v : V} {p : Int × Int} (h : VRel K m (pv p) v) : ∃ t, v = .ref t ∧ m.H t = some (.tup [.int p.1, .int p.2]) := by
  obtain ⟨a, vs, e, e2, r⟩ := h
  obtain ⟨v1, v2, rfl, r1, r2⟩ := r.two
  cases (show v1 = _ from r1)
  cases (show v2 = _ from r2)
  exact ⟨a, e, e2⟩
theorem tv_fst {K : PySem.W.Frag} {m : Lay} {v : V} {p : Int × List LV} (h : VRel K m (tv p) v) : ∃ t r, v = .ref t ∧ m.H t = some (.tup (.int p.1 :: r)) := by
  obtain ⟨a, vs, e, e2, v1, ws, e3, r1, r2⟩ := h
  cases (show v1 = _ from r1)
  subst e3
  exact ⟨a, _, e, e2⟩
theorem VRels.mem' {K : PySem.W.Frag} {m : Lay} : ∀ {xs : List LV} {vs : List V} {v : V}, VRels K m xs vs → v ∈ vs → ∃ x ∈ xs, VRel K m x v
  | [], _, _, h, e => by cases (show _ = [] from h); cases e
  | x :: _, _, _, ⟨v, ws, e1, h, t⟩, e => by
    subst e1
    rcases List.mem_cons.mp e with e | e
    · subst e; exact ⟨x, List.mem_cons_self, h⟩
    · obtain ⟨y, hy, r⟩ := VRels.mem' t e
      exact ⟨y, List.mem_cons_of_mem _ hy, r⟩
/-- an int read off a value -/
theorem key1 (H : Hp) : ∃ k : V → Int, ∀ t i r, H t = some (.tup (.int i :: r)) → k (.ref t) = i := ⟨fun v => match v with
    | .ref t => match H t with
      | some (.tup (.int i :: _)) => i
      | _ => 0
    | _ => 0, fun t i r e => by simp only [e]⟩
theorem key2 (H : Hp) : ∃ k : V → Int × Int, ∀ t i j, H t = some (.tup [.int i, .int j]) → k (.ref t) = (i, j) := ⟨fun v => match v with
    | .ref t => match H t with
      | some (.tup [.int i, .int j]) => (i, j)
      | _ => (0, 0)
    | _ => (0, 0), fun t i j e => by simp only [e]⟩
theorem li_sorted (hc : X.calm = true) : CallR X (.builtin "sorted") (upRA X.K lSorted) := CallR.weak (((cr_sortedI.or cr_sortedPO).or cr_sortedF).or ((cr_sortedDI2 hc).or (cr_sortedDP hc))) fun x H Q hq => by
  obtain ⟨m, h, as, QL, e1, r, ra, q, c⟩ := hq
  subst e1
  unfold lSorted at q
  split at q
  · rename_i n v
    obtain ⟨w, rfl, p, rfl, e2⟩ := ra.one
    unfold sortO at q
    split at q
    · rename_i v' xs hn
      obtain ⟨rfl, q⟩ := q
      obtain ⟨vs, e3, q1⟩ := r.lst hn e2
      rcases q with ⟨ns, rfl, q⟩ | ⟨ps, rfl, q⟩ | ⟨rs, rfl, nd, q⟩
      · refine .inl (.inl (.inl ⟨p, ns, rfl, by rw [← q1.ints_inv]; exact .of e3, fun ns' d hp ho hd => ?_⟩))
        rw [sortI_uniq hp ho]
        exact q.up r c hd fun m' ex => ⟨_, rfl, .ints _⟩
      · obtain ⟨k, hk⟩ := key2 m.H
        have hv : ∀ y ∈ vs, ∃ t p, p ∈ ps ∧ y = V.ref t ∧ m.H t = some (.tup [.int p.1, .int p.2]) ∧ k y = p := fun y hy => by
          obtain ⟨x, hx, rx⟩ := q1.mem' hy
          obtain ⟨p, hp, rfl⟩ := List.mem_map.mp hx
          obtain ⟨t, e, ht⟩ := pv_fst rx
          exact ⟨t, p, hp, e, ht, by rw [e, hk _ _ _ ht]⟩
        refine .inl (.inl (.inr ⟨p, vs, k, rfl, .of e3, fun y hy => ?_, fun ys d h1 h2 hd => ?_⟩))
        · obtain ⟨t, p, _, e, ht, ek⟩ := hv y hy
          exact ⟨t, e, by rw [ek]; exact ht⟩
        · obtain ⟨zs, pz, rz⟩ := q1.perm h2.perm
          obtain ⟨ps', pp, rfl⟩ := perm_map pz rfl
          have ek : ys.map k = ps' := by
            clear pz pp h1 h2
            induction ps' generalizing ys with
            | nil => cases (show ys = [] from rz); rfl
            | cons p ps' ih =>
              obtain ⟨v, ws, e, rv, rt⟩ := rz
              subst e
              obtain ⟨t, e, ht⟩ := pv_fst rv
              rw [List.map_cons, ih ws rt, e, hk _ _ _ ht]
          have := sortP_uniq pp (by rw [← ek]; exact List.pairwise_map.mpr (h1.imp fun {x y} h => by unfold leP; rw [show SrtO.lexB (k y) (k x) = false from h]; rfl))
          subst this
          exact q.up r c hd fun m' ex => ⟨_, rfl, rz.mono ex⟩
      · obtain ⟨k, hk⟩ := key1 m.H
        have hv : ∀ y ∈ vs, ∃ p ∈ rs, ∃ t r, y = V.ref t ∧ m.H t = some (.tup (.int p.1 :: r)) ∧ k y = p.1 := fun y hy => by
          obtain ⟨x, hx, rx⟩ := q1.mem' hy
          obtain ⟨p, hp, rfl⟩ := List.mem_map.mp hx
          obtain ⟨t, r, e, ht⟩ := tv_fst rx
          exact ⟨p, hp, t, r, e, ht, by rw [e, hk _ _ _ ht]⟩
        have inj : ∀ x ∈ vs, ∀ y ∈ vs, k x = k y → x = y := by
          have key : ∀ {rs : List (Int × List LV)} {vs : List V}, VRels X.K m (rs.map tv) vs → (rs.map Prod.fst).Nodup → ∀ (i j : Nat) x y, vs[i]? = some x → vs[j]? = some y → k x = k y → i = j := by
            intro rs vs q1 nd i j x y hi hj e
            obtain ⟨a, ha, ra⟩ := q1.get' hi
            obtain ⟨b, hb, rb⟩ := q1.get' hj
            rw [List.getElem?_map, Option.map_eq_some_iff] at ha hb
            obtain ⟨a, ha, rfl⟩ := ha
            obtain ⟨b, hb, rfl⟩ := hb
            obtain ⟨t, r, e1, ht⟩ := tv_fst ra
            obtain ⟨t', r', e1', ht'⟩ := tv_fst rb
            rw [e1, hk _ _ _ ht, e1', hk _ _ _ ht'] at e
            have z1 : (rs.map Prod.fst)[i]? = some a.1 := by rw [List.getElem?_map, ha]; rfl
            have z2 : (rs.map Prod.fst)[j]? = some a.1 := by rw [List.getElem?_map, hb, e]; rfl
            have l1 := (List.getElem?_eq_some_iff.mp z1).1
            exact (List.getElem?_inj l1 nd).mp (z1.trans z2.symm)
          intro x hx y hy e
          obtain ⟨i, hi⟩ := List.getElem?_of_mem hx
          obtain ⟨j, hj⟩ := List.getElem?_of_mem hy
          have := key q1 nd i j x y hi hj e
          subst this
          rw [hi] at hj; cases hj; rfl
        refine .inl (.inr ⟨p, vs, k, rfl, .of e3, fun y hy => ?_, inj, fun ys d h1 h2 hd => ?_⟩)
        · obtain ⟨p, _, t, r, e, ht, ek⟩ := hv y hy
          exact ⟨t, r, e, by rw [ek]; exact ht⟩
        · obtain ⟨zs, pz, rz⟩ := q1.perm h1
          obtain ⟨rs', pp, rfl⟩ := perm_map pz rfl
          have ek : ys.map k = rs'.map Prod.fst := by
            clear pz pp h1 h2
            induction rs' generalizing ys with
            | nil => cases (show ys = [] from rz); rfl
            | cons p rs' ih =>
              obtain ⟨v, ws, e, rv, rt⟩ := rz
              subst e
              obtain ⟨t, r, e, ht⟩ := tv_fst rv
              rw [List.map_cons, List.map_cons, ih ws rt, e, hk _ _ _ ht]
          have := sortF_uniq nd pp (by
            have z : (ys.map k).Pairwise (· ≤ ·) := List.pairwise_map.mpr h2
            rw [ek] at z
            exact List.pairwise_map.mp z)
          subst this
          exact q.up r c hd fun m' ex => ⟨_, rfl, rz.mono ex⟩
    · rename_i v' kvs hn
      obtain ⟨rfl, ks, hks, q⟩ := q
      obtain ⟨vs, e3, q1⟩ := r.dK hn e2
      refine .inr (.inl ⟨p, vs, ks, rfl, e3, q1.keys.trans hks, fun ns d hp ho hd => ?_⟩)
      rw [sortI_uniq hp ho]
      exact q.up r c hd fun m' ex => ⟨_, rfl, .ints _⟩
    · rename_i v' kvs hn
      obtain ⟨rfl, ks, hks, q⟩ := q
      obtain ⟨vs, e3, q1⟩ := r.dT hn e2
      refine .inr (.inr ⟨p, vs, ks, rfl, e3, q1.keys.trans hks, fun ys ns d hp ho hpr hd => ?_⟩)
      have := sortP_uniq hp (ho.imp fun {x y} h => by unfold leP; rw [h]; rfl)
      subst this
      have rz := paired_pv (K := X.K) hpr
      exact q.up r c hd fun m' ex => ⟨_, rfl, rz.mono ex⟩
    · exact q.elim
  · exact q.elim
end
end LL

namespace LL
open PySem L2

/-! ### list.remove, list.count of plain data -/
def lRemove : LRM
  | .loc n v, [y], h, Q => ∃ ys k j, h n = some (v, .lst ys) ∧ k ≤ 60 ∧ nb k y = true ∧ nbs k ys = true ∧ ys[j]? = some y ∧ (∀ i : Nat, i < j → ys[i]? ≠ some y) ∧ Q .non (h.set n v (.lst (ys.eraseIdx j)))
  | _, _, _, _ => False
def lCount : LRM
  | .loc n v, [y], h, Q => ∃ ys ds d, h n = some (v, .lst ys) ∧ dats h 6 ys = some ds ∧ dat h 6 y = some d ∧ d.depth ≤ 60 ∧ Q (.int (ds.countP fun z => PyData.eqv z d : Nat)) h
  | _, _, _, _ => False
theorem pds_get : ∀ (ys : List LV) (i : Nat), (pds ys)[i]? = ys[i]?.map pd
  | [], i => by rw [pds]; simp
  | y :: ys, 0 => by rw [pds]; rfl
  | y :: ys, i + 1 => by rw [pds]; simpa using pds_get ys i
theorem pds_len : ∀ ys : List LV, (pds ys).length = ys.length
  | [] => by rw [pds]; rfl
  | y :: ys => by rw [pds, List.length_cons, List.length_cons, pds_len ys]
theorem nbs_get {k : Nat} : ∀ {ys : List LV} {i : Nat} {y : LV}, nbs k ys = true → ys[i]? = some y → nb k y = true
  | [], _, _, _, e => by simp at e
  | y :: ys, 0, _, h, e => by
    rw [nbs, Bool.and_eq_true] at h
    simp at e; subst e; exact h.1
  | y :: ys, i + 1, z, h, e => by
    rw [nbs, Bool.and_eq_true] at h
    exact nbs_get h.2 (by simpa using e)
section
open PySem.Spec PyProof.Rows
variable {X : Cx}
theorem mt_removeD (hu : X.A.units + 64 < cLine) : MtR X "list.remove" (fun x xs H Q => ∃ l vs v ds d j, x = .ref l ∧ xs = [v] ∧ H l = some (.lst vs) ∧ DpAll X.K H vs ds ∧ Dp X.K H v d ∧ PyData.plainAll ds = true ∧ d.plain = true ∧ d.depth ≤ 60 ∧ SeqAt.dataPlace ds d = some j ∧ Q .non (upd H l (.lst (vs.eraseIdx j)))) := by
  intro pins s σ H x xs v us Q I rx rxs h
  obtain ⟨l, vs, y, ds, d, j, rfl, rfl, hH, hd, he, sd, se, hm, hp, q⟩ := h
  cases rx
  obtain ⟨u, rfl, ru⟩ := rxs.one
  obtain ⟨z, its, n, r, hl, e⟩ := I.lstM hH
  obtain ⟨as, r1⟩ := Dp.readsAll I ds vs its hd r
  obtain ⟨bs, r2⟩ := Dp.reads I d y u he ru
  have hl2 : s.heap.IsList l its.toArray := ⟨_, e, rfl, n, rfl⟩
  refine SeqAt.remove_list_data hl2 (by simpa using r1) r2 sd se (by omega) hp (by simp only [List.size_toArray]; omega) ?_
  refine ⟨.non, _, I.lset (its' := its.eraseIdx j) (t' := s.toks) hH e ?_ (r.eraseIdx j) ?_, rfl, q⟩
  · show its.toArray.eraseIdxIfInBounds j = (its.eraseIdx j).toArray
    rw [List.eraseIdxIfInBounds_toArray]
  · have := List.length_eraseIdx_le vs j
    omega
theorem mt_countD (hu : X.A.units + 64 < cLine) : MtR X "list.count" (fun x xs H Q => ∃ l vs v ds d, x = .ref l ∧ xs = [v] ∧ H l = some (.lst vs) ∧ DpAll X.K H vs ds ∧ Dp X.K H v d ∧ PyData.plainAll ds = true ∧ d.plain = true ∧ d.depth ≤ 60 ∧ Q (.int (ds.countP fun z => PyData.eqv z d : Nat)) H) := by
  intro pins s σ H x xs v us Q I rx rxs h
  obtain ⟨l, vs, y, ds, d, rfl, rfl, hH, hd, he, sd, se, hm, q⟩ := h
  cases rx
  obtain ⟨u, rfl, ru⟩ := rxs.one
  obtain ⟨z, its, n, r, hl, e⟩ := I.lstM hH
  obtain ⟨as, r1⟩ := Dp.readsAll I ds vs its hd r
  obtain ⟨bs, r2⟩ := Dp.reads I d y u he ru
  have hl2 : s.heap.IsList l its.toArray := ⟨_, e, rfl, n, rfl⟩
  exact SeqAt.count_list_data hl2 (by simpa using r1) r2 sd se (by omega) ⟨.int _, H, I.tok _, ⟨_, rfl⟩, q⟩
theorem lm_count (hu : X.A.units + 64 < cLine) : MtR X "list.count" (upRM X.K lCount) := MtR.weak (mt_countD hu) fun x xs H Q hq => by
  obtain ⟨m, h, a, as, QL, e1, r, ra, rs, q, c⟩ := hq
  subst e1
  unfold lCount at q
  split at q
  · obtain ⟨p, e2, e3⟩ := ra
    obtain ⟨v, rfl, rv⟩ := rs.one
    obtain ⟨ys, ds, d, hn, h1, h2, h3, q⟩ := q
    obtain ⟨vs, e5, q1⟩ := r.lst hn e3
    exact ⟨p, vs, v, ds, d, e2, rfl, e5, dats_dp r _ _ _ _ h1 q1, dat_dp r _ _ _ _ h2 rv, dats_plain _ _ _ h1, dat_plain _ _ _ h2, h3, c.int r q⟩
  · exact q.elim
open Classical in
theorem lm_remove (hu : X.A.units + 64 < cLine) : MtR X "list.remove" (upRM X.K lRemove) := MtR.weak (mt_removeD hu) fun x xs H Q hq => by
  obtain ⟨m, h, a, as, QL, e1, r, ra, rs, q, c⟩ := hq
  subst e1
  unfold lRemove at q
  split at q
  · rename_i n v0 y
    obtain ⟨p, e2, e3⟩ := ra
    obtain ⟨v, rfl, rv⟩ := rs.one
    obtain ⟨ys, k, j, hn, hk, ny, nys, hj, hno, q⟩ := q
    obtain ⟨vs, e5, q1⟩ := r.lst hn e3
    obtain ⟨h1, h2, h3⟩ := nb_dat (h := h) k 6 y ny
    obtain ⟨h4, h5, h6⟩ := nbs_dat (h := h) k 6 ys nys
    obtain ⟨ex, r2⟩ := r.write hn e3 (o' := .lst _) ⟨_, rfl, q1.eraseIdx j⟩
    refine ⟨p, vs, v, pds ys, pd y, j, e2, rfl, e5, dats_dp r _ _ _ _ h4 q1, dat_dp r _ _ _ _ h1 rv, h6, h3, by omega, ?_, c _ _ .non _ ex r2 rfl q⟩
    have hjl := (List.getElem?_eq_some_iff.mp hj).1
    have hlen : (pds ys).length = ys.length := pds_len ys
    unfold SeqAt.dataPlace
    rw [List.findIdx?_eq_some_iff_getElem]
    have at_ : ∀ (i : Nat) (hi : i < (pds ys).length), (pds ys)[i] = pd (ys[i]'(by omega)) := fun i hi => by
      have := pds_get ys i
      rw [List.getElem?_eq_getElem hi, List.getElem?_eq_getElem (by omega)] at this
      exact Option.some.inj this
    refine ⟨by omega, ?_, fun i hi => ?_⟩
    · have e : ys[j] = y := by rw [List.getElem?_eq_getElem hjl] at hj; exact Option.some.inj hj
      rw [at_ j (by omega), e, eqv_pd k k y y ny ny]
      simp
    · have hil : i < ys.length := by omega
      have := hno i hi
      rw [List.getElem?_eq_getElem hil] at this
      rw [at_ i (by omega), eqv_pd k k _ y (nbs_get nys (List.getElem?_eq_getElem hil)) ny]
      simpa using this
  · exact q.elim
end

/-! ### list(d), list(range(..)) -/
def listO2 (h : LH) (Q : LQ) : Option (Nat × LO) → Nat → Prop
  | some (v', .lst ys), v => v' = v ∧ Alloc h (.lst ys) Q
  | some (v', .dK kvs), v => v' = v ∧ Alloc h (.lst (kvs.map fun kv => keyL kv.1)) Q
  | some (v', .dT kvs), v => v' = v ∧ Alloc h (.lst (kvs.map fun kv => .tup (kv.1.map keyL))) Q
  | _, _ => False
def lListC : LRA
  | [.tup ys], h, Q => Alloc h (.lst ys) Q
  | [.loc n v], h, Q => listO2 h Q (h n) v
  | _, _, _ => False
section
variable {X : Cx}
theorem keys_rel {K : PySem.W.Frag} {m : Lay} : ∀ {kvs : List (Key × LV)} {vs : List (Key × V)}, KVR K m kvs vs → VRels K m (kvs.map fun kv => keyL kv.1) (vs.map fun kv => kV kv.1)
  | [], _, h => by cases (show _ = [] from h); rfl
  | _ :: _, _, ⟨v, ws, e1, h, t⟩ => by subst e1; exact .cons (keyL_rel _) (keys_rel t)
theorem keysT_rel {K : PySem.W.Frag} {m : Lay} {bs : List Addr} : ∀ {kvs : List (List Key × LV)} {vs : List (List Key × V)}, KVR K m kvs vs → IsKeys m.H vs bs → VRels K m (kvs.map fun kv => .tup (kv.1.map keyL)) (bs.map V.ref) := by
  intro kvs vs q i
  induction i generalizing kvs with
  | nil => cases kvs with
    | nil => rfl
    | cons => obtain ⟨v, ws, e, _⟩ := q; cases e
  | cons h t ih => cases kvs with
    | nil => cases (show _ = [] from q)
    | cons kv kvs =>
      obtain ⟨v, ws, e, r, t'⟩ := q
      cases e
      exact .cons ⟨_, _, rfl, h, keyLs_rel _⟩ (ih t')
theorem li_listC (hc : X.calm = true) : CallR X (.type "list") (upRA X.K lListC) := CallR.weak ((call_list_of.or (call_list_dK hc)).or (call_list_dT hc)) fun x H Q hq => by
  obtain ⟨m, h, as, QL, e1, r, ra, q, c⟩ := hq
  subst e1
  unfold lListC at q
  split at q
  · rename_i ys
    obtain ⟨v, rfl, p, vs, rfl, e2, q1⟩ := ra.one
    exact .inl (.inl ⟨p, vs, rfl, .inr (SqT.of e2), fun l hl => q.up r c hl fun m' ex => ⟨vs, rfl, q1.mono ex⟩⟩)
  · rename_i n v
    obtain ⟨w, rfl, p, rfl, e2⟩ := ra.one
    unfold listO2 at q
    split at q
    · rename_i v' ys hn
      obtain ⟨rfl, q⟩ := q
      obtain ⟨vs, e3, q1⟩ := r.lst hn e2
      exact .inl (.inl ⟨p, vs, rfl, .inl (SqL.of e3), fun l hl => q.up r c hl fun m' ex => ⟨vs, rfl, q1.mono ex⟩⟩)
    · rename_i v' ys hn
      obtain ⟨rfl, q⟩ := q
      obtain ⟨vs, e3, q1⟩ := r.dK hn e2
      exact .inl (.inr ⟨p, vs, rfl, e3, fun l hl => q.up r c hl fun m' ex => ⟨_, rfl, (keys_rel q1).mono ex⟩⟩)
    · rename_i v' ys hn
      obtain ⟨rfl, q⟩ := q
      obtain ⟨vs, e3, q1⟩ := r.dT hn e2
      exact .inr ⟨p, vs, rfl, .of e3, fun l bs hl hb => q.up r c hl fun m' ex => ⟨_, rfl, (keysT_rel q1 hb).mono ex⟩⟩
    · exact q.elim
  · exact q.elim
end
/-- the ints a .. b - 1 -/
def rgL (a b : Int) : List LV := (List.range (b - a).toNat).map fun i => LV.int (a + (i : Nat))
def lsRg : List LV → LH → LQ → Prop
  | [.int b], h, Q => RgOk 0 b ∧ Alloc h (.lst (rgL 0 b)) Q
  | [.int a, .int b], h, Q => RgOk a b ∧ Alloc h (.lst (rgL a b)) Q
  | _, _, _ => False
def wLsRg (tas : LTA) : LTE := fun s h Q X => tas s h (fun xs h1 => lsRg xs h1 Q) X
section
variable {X : Cx} {W : WX} {a b : Expr} {ta tb : LTE} {p p2 pos pos2 : Pos} {tas : LTA}
theorem rgV_rel {K : PySem.W.Frag} {m : Lay} (a b : Int) : VRels K m (rgL a b) (rgV a b) := by
  unfold rgL rgV
  generalize List.range (b - a).toNat = l
  induction l with
  | nil => rfl
  | cons x l ih => exact .cons rfl ih
open PySem.Spec PyProof.Rows in
theorem prg_n {es : List Expr} {t : TA} {p pos : Pos} (hg : Gl X "range") (hm : X.mg "range" = none) (ha : PA X es t) (h1 : es.length = 1 ∨ es.length = 2) (st : starEach es X.env = es.map fun x => (false, eval x X.env)) (st2 : ∀ {a b : Expr}, es = [a, b] → starEach [b] X.env = [(false, eval b X.env)]) :
    PRg X (.Call (.Name "range" p) es [] pos) (fun σ H Q => t σ H fun vs H1 => (∃ n, vs = [.int n] ∧ Q 0 n H1) ∨ ∃ i j, vs = [.int i, .int j] ∧ Q i j H1) := by
  intro pins s σ H Q I h
  refine Call_ (ld_blt I hg hm boot_range ?_ (by decide) (by decide))
  have hA := ha.run pos pins s σ H _ I h
  rcases h1 with h1 | h1
  · match es, h1 with
    | [a], _ =>
      refine PyProof.Rows.callWith_type1 (thn hA fun us s1 ⟨vs, H1, I1, r, q⟩ => ?_) st rfl
      rcases q with ⟨n, rfl, q⟩ | ⟨i, j, rfl, q⟩
      · obtain ⟨u, rfl, t, rfl⟩ := r.one
        exact call_range_1 ⟨_, 0, n, _, _, _, H1, rfl, IsRange.new _ _ _ _ _ _ _, I1.kept fun b u e => Heap.get?_push_of_some _ e, q⟩
      · obtain ⟨u1, u2, rfl, ⟨t, rfl⟩, ⟨t', rfl⟩⟩ := r.two
        exact call_range_2 ⟨_, i, j, _, _, _, H1, rfl, IsRange.new _ _ _ _ _ _ _, I1.kept fun b u e => Heap.get?_push_of_some _ e, q⟩
  · match es, h1 with
    | [a, b], _ =>
      refine PyProof.Rows.callWith_type1 (thn hA fun us s1 ⟨vs, H1, I1, r, q⟩ => ?_) (by rw [st, st2 rfl]; rfl) (by rw [st2 rfl]; rfl)
      rcases q with ⟨n, rfl, q⟩ | ⟨i, j, rfl, q⟩
      · obtain ⟨u, rfl, t, rfl⟩ := r.one
        exact call_range_1 ⟨_, 0, n, _, _, _, H1, rfl, IsRange.new _ _ _ _ _ _ _, I1.kept fun b u e => Heap.get?_push_of_some _ e, q⟩
      · obtain ⟨u1, u2, rfl, ⟨t, rfl⟩, ⟨t', rfl⟩⟩ := r.two
        exact call_range_2 ⟨_, i, j, _, _, _, H1, rfl, IsRange.new _ _ _ _ _ _ _, I1.kept fun b u e => Heap.get?_push_of_some _ e, q⟩
theorem le_lsRg {es : List Expr} {n : Nat} (hc : X.calm = true) (hg : Gl X "list") (hm : X.mg "list" = none) (hg2 : Gl X "range") (hm2 : X.mg "range" = none) (ha : PA X es (upA X.K W n tas)) (h1 : es.length = 1 ∨ es.length = 2)
    (st : starEach es X.env = es.map fun x => (false, eval x X.env)) (st2 : ∀ {a b : Expr}, es = [a, b] → starEach [b] X.env = [(false, eval b X.env)]) :
    PE X (.Call (.Name "list" p) [.Call (.Name "range" p2) es [] pos2] [] pos) (upE X.K W (wLsRg tas)) :=
  (pe_listRg hc hg hm (prg_n (pos := pos2) (p := p2) hg2 hm2 ha h1 st st2) rfl).weak fun σ H Q ⟨m, h, s, QL, XL, e1, r1, rs, q, c, ce⟩ => ⟨m, h, s, _, _, e1, r1, rs, q, fun m1 h1 xs vs ex1 r2 rx _ q1 => by
    replace q1 : lsRg xs h1 QL := q1
    unfold lsRg at q1
    split at q1
    · obtain ⟨v, rfl, rv⟩ := rx.one
      cases (show v = _ from rv)
      exact .inl ⟨_, rfl, q1.1, fun l hl => q1.2.up r2 (c.mono ex1) hl fun m' ex => ⟨_, rfl, rgV_rel _ _⟩⟩
    · obtain ⟨v, w, rfl, rv, rw'⟩ := rx.two
      cases (show v = _ from rv)
      cases (show w = _ from rw')
      exact .inr ⟨_, _, rfl, q1.1, fun l hl => q1.2.up r2 (c.mono ex1) hl fun m' ex => ⟨_, rfl, rgV_rel _ _⟩⟩
    · exact q1.elim, ce⟩
end

/-! ### is of truth values -/
section
variable {X : Cx}
theorem li_isB : OpR X (compareOp .Is) (upR2 X.K lIsB) := OpR.weak (op_isN.or op_isBl) fun x y H Q hq => by
  refine upI (r := fun x y H Q => _) hq fun m h a b QL e1 r ra rb q c => ?_
  subst e1
  unfold lIsB at q
  split at q
  · cases (show y = _ from rb)
    refine .inl ⟨rfl, ?_⟩
    rw [ra.non_iff]
    exact c.bl r q
  · cases (show x = _ from ra)
    cases (show y = _ from rb)
    refine .inr ⟨_, _, rfl, rfl, ?_⟩
    rw [← Bool.beq_eq_decide_eq]
    exact c.bl r q
  · exact q.elim
theorem li_notB : OpR X (compareOp .IsNot) (upR2 X.K lNotB) := OpR.weak (op_notN.or op_notBl) fun x y H Q hq => by
  refine upI (r := fun x y H Q => _) hq fun m h a b QL e1 r ra rb q c => ?_
  subst e1
  unfold lNotB at q
  split at q
  · cases (show y = _ from rb)
    refine .inl ⟨rfl, ?_⟩
    rw [ra.non_iff]
    exact c.bl r q
  · cases (show x = _ from ra)
    cases (show y = _ from rb)
    refine .inr ⟨_, _, rfl, rfl, ?_⟩
    rw [← Bool.beq_eq_decide_eq]
    exact c.bl r q
  · exact q.elim
end

/-! ### max, min, sum of lists; min(d.values()) -/
def mmO (P : Int → Int → Prop) (h : LH) (Q : LQ) : Option (Nat × LO) → Nat → Prop
  | some (v', .lst ys), v => v' = v ∧ ∃ (ns : List Int) (m : Int), ys = ns.map LV.int ∧ m ∈ ns ∧ (∀ y ∈ ns, P m y) ∧ Q (.int m) h
  | _, _ => False
def lMaxL : LRA
  | [.int i, .int j], h, Q => Q (.int (max i j)) h
  | [.loc n v], h, Q => mmO (fun m y => y ≤ m) h Q (h n) v
  | _, _, _ => False
def lMinL : LRA
  | [.int i, .int j], h, Q => Q (.int (min i j)) h
  | [.loc n v], h, Q => mmO (fun m y => m ≤ y) h Q (h n) v
  | _, _, _ => False
def sumO (h : LH) (Q : LQ) : Option (Nat × LO) → Nat → Prop
  | some (v', .lst ys), v => v' = v ∧ ∃ ns : List Int, ys = ns.map LV.int ∧ Q (.int ns.sum) h
  | _, _ => False
def lSum : LRA
  | [.loc n v], h, Q => sumO h Q (h n) v
  | _, _, _ => False
section
variable {X : Cx}
theorem li_maxL (hc : X.calm = true) : CallR X (.builtin "max") (upRA X.K lMaxL) := CallR.weak ((call_max2 hc).or (cr_max hc)) fun x H Q hq => by
  obtain ⟨m, h, as, QL, e1, r, ra, q, c⟩ := hq
  subst e1
  unfold lMaxL at q
  split at q
  · obtain ⟨v, w, rfl, e, e2⟩ := ra.two
    cases (show v = _ from e)
    cases (show w = _ from e2)
    refine .inl ⟨_, _, rfl, ?_⟩
    rename_i i j
    rw [show (if j > i then j else i) = max i j by split <;> omega]
    exact c.int r q
  · obtain ⟨w, rfl, p, rfl, e2⟩ := ra.one
    unfold mmO at q
    split at q
    · rename_i v' ys hn
      obtain ⟨rfl, ns, M, rfl, hm, hall, q⟩ := q
      obtain ⟨vs, e3, q1⟩ := r.lst hn e2
      refine .inr ⟨p, ns, rfl, by rw [← q1.ints_inv]; exact .of e3, List.length_pos_of_mem hm, fun m' hm' hall' => ?_⟩
      have : m' = M := Int.le_antisymm (hall m' hm') (hall' M hm)
      rw [this]
      exact c.int r q
    · exact q.elim
  · exact q.elim
theorem li_minL (hc : X.calm = true) : CallR X (.builtin "min") (upRA X.K lMinL) := CallR.weak ((call_min2 hc).or (cr_min hc)) fun x H Q hq => by
  obtain ⟨m, h, as, QL, e1, r, ra, q, c⟩ := hq
  subst e1
  unfold lMinL at q
  split at q
  · obtain ⟨v, w, rfl, e, e2⟩ := ra.two
    cases (show v = _ from e)
    cases (show w = _ from e2)
    refine .inl ⟨_, _, rfl, ?_⟩
    rename_i i j
    rw [show (if j < i then j else i) = min i j by split <;> omega]
    exact c.int r q
  · obtain ⟨w, rfl, p, rfl, e2⟩ := ra.one
    unfold mmO at q
    split at q
    · rename_i v' ys hn
      obtain ⟨rfl, ns, M, rfl, hm, hall, q⟩ := q
      obtain ⟨vs, e3, q1⟩ := r.lst hn e2
      refine .inr ⟨p, ns, rfl, by rw [← q1.ints_inv]; exact .of e3, List.length_pos_of_mem hm, fun m' hm' hall' => ?_⟩
      have : m' = M := Int.le_antisymm (hall' M hm) (hall m' hm')
      rw [this]
      exact c.int r q
    · exact q.elim
  · exact q.elim
theorem li_sum (hc : X.calm = true) : CallR X (.builtin "sum") (upRA X.K lSum) := CallR.weak (cr_sum hc) fun x H Q hq => by
  obtain ⟨m, h, as, QL, e1, r, ra, q, c⟩ := hq
  subst e1
  unfold lSum at q
  split at q
  · obtain ⟨w, rfl, p, rfl, e2⟩ := ra.one
    unfold sumO at q
    split at q
    · rename_i v' ys hn
      obtain ⟨rfl, ns, rfl, q⟩ := q
      obtain ⟨vs, e3, q1⟩ := r.lst hn e2
      exact ⟨p, ns, rfl, by rw [← q1.ints_inv]; exact .of e3, c.int r q⟩
    · exact q.elim
  · exact q.elim
end
def minVO (h : LH) (Q : LQ) : Option (Nat × LO) → Nat → Prop
  | some (v', .dK kvs), v => v' = v ∧ ∃ (ns : List Int) (m : Int), kvs.map (·.2) = ns.map LV.int ∧ m ∈ ns ∧ (∀ y ∈ ns, m ≤ y) ∧ Q (.int m) h
  | _, _ => False
def minVM : LV → LH → LQ → Prop
  | .loc n v, h, Q => minVO h Q (h n) v
  | _, _, _ => False
def wMinV (te : LTE) : LTE := fun s h Q X => te s h (fun x h1 => minVM x h1 Q) X
section
variable {X : Cx} {W : WX} {o : Expr} {p pos apos mpos : Pos} {te : LTE}
theorem KVR.vals {κ : Type} {K : PySem.W.Frag} {m : Lay} : ∀ {xs : List (κ × LV)} {vs : List (κ × V)}, KVR K m xs vs → VRels K m (xs.map (·.2)) (vs.map (·.2))
  | [], _, h => by cases (show _ = [] from h); rfl
  | _ :: _, _, ⟨v, ws, e1, h, t⟩ => by subst e1; exact .cons h (KVR.vals t)
theorem le_minV (hc : X.calm = true) (hg : Gl X "min") (hm : X.mg "min" = none) (he : PE X o (upE X.K W te)) (hbase : attributeBase o "values" X.env (eval o X.env) = eval o X.env) (hline : (apos.endLine == mpos.line) = true) :
    PE X (.Call (.Name "min" p) [.Call (.Attribute o "values" apos) [] [] mpos] [] pos) (upE X.K W (wMinV te)) :=
  (pe_minVals hc hg hm he hbase hline rfl).weak fun σ H Q ⟨m, h, s, QL, XL, e1, r1, rs, q, c, ce⟩ => ⟨m, h, s, _, _, e1, r1, rs, q, fun m1 h1 x v ex1 r2 rx q1 => by
    cases x <;> try exact q1.elim
    obtain ⟨p, rfl, e2⟩ := rx
    simp only [minVM] at q1
    unfold minVO at q1
    split at q1
    · rename_i v' kvs hn
      obtain ⟨rfl, ns, M, e, hm, hall, q⟩ := q1
      obtain ⟨vs, e3, q1⟩ := r2.dK hn e2
      have rv := q1.vals
      rw [e] at rv
      refine ⟨p, vs, ns, rfl, e3, rv.ints_inv, List.ne_nil_of_mem hm, fun m' hm' hall' => ?_⟩
      have : m' = M := Int.le_antisymm (hall' M hm) (hall m' hm')
      rw [this]
      exact (c.mono ex1).int r2 q
    · exact q1.elim, ce⟩
end
end LL

/-! try with any number of clauses, each with a name or without -/
namespace LL
open PySem PySem.Spec PyProof.Rows L2
/-- the ends of a suite whose name goes -/
def dnE : Option Nat → Ends → Ends
  | none, D => { nx := D.nx, rt := D.rt, bk := D.bk, ct := D.ct }
  | some i, D => { nx := fun σ H => D.nx (σ.set i none) H, rt := D.rt, bk := fun σ H => D.bk (σ.set i none) H, ct := fun σ H => D.ct (σ.set i none) H }
def snE : Option Nat → Addr → L2.St → L2.St
  | none, _, σ => σ
  | some i, a, σ => σ.set i (some (.ref a))
abbrev HTs := Addr → Value → Option Addr → TS
def wGen (K : PySem.W.Frag) (Wout : WX) (D : Ends) : List (Value × Option Nat × HTs) → WX
  | [] => Wout
  | (c, o, ts) :: r => fun cls d σ H => ∃ b, PySem.W.exmOne K cls c = some b ∧ (b = true → ∀ a, H a = none → ts a cls d (dnE o D) (snE o a σ) H) ∧ (b = false → wGen K Wout D r cls d σ H)
inductive HdsG (X : Cx) : List ExceptHandler → List (Value × Option Nat × HTs) → Prop
  | nil : HdsG X [] []
  | only {x : Str} {c : Value} {ts : HTs} {b₀ : Stmt} {suite : List Stmt} {np pos' : Pos} {hds : List ExceptHandler} {l : List (Value × Option Nat × HTs)} (hc : Names X x c)
      (hsu : ∀ (a : Addr) (oe : Obj) (cls : Value) (d : Option Addr) (pn : List (Addr × Obj)), Zc cls d oe → (∃ vs, oe.data = .fields vs) → PSs (X.suite a ((a, oe) :: pn)) (b₀ :: suite) (ts a cls d)) (r : HdsG X hds l) :
      HdsG X (.ExceptHandler (some (.Name x np)) none (b₀ :: suite) pos' :: hds) ((c, none, ts) :: l)
  | named {x n : Str} {i : Nat} {c : Value} {ts : HTs} {b₀ : Stmt} {suite : List Stmt} {np pos' : Pos} {hds : List ExceptHandler} {l : List (Value × Option Nat × HTs)} (hc : Names X x c) (hi : X.N[i]? = some n) (hln : X.env.kindOf n = some .local)
      (hsu : ∀ (a : Addr) (oe : Obj) (cls : Value) (d : Option Addr) (pn : List (Addr × Obj)), Zc cls d oe → (∃ vs, oe.data = .fields vs) → PSs (X.suite a ((a, oe) :: pn)) (b₀ :: suite) (ts a cls d)) (r : HdsG X hds l) :
      HdsG X (.ExceptHandler (some (.Name x np)) (some n) (b₀ :: suite) pos' :: hds) ((c, some i, ts) :: l)
section
variable {X : Cx} {body : List Stmt} {h₀ : ExceptHandler} {hds : List ExceptHandler} {l : List (Value × Option Nat × HTs)} {pos : Pos} {tb : WX → TS} {Wout : WX}
theorem ps_try_gen (hs : X.stack = X.env :: X.outer) (hf : X.env.frame = some X.env.locals) (hN : X.N.Nodup) (tk : Takes X Wout)
    (hb : ∀ (W : WX) (pn : List (Addr × Obj)) (xe : Value → Shared → Prop), Takes (X.tr pn xe) W → PassesOwn (model X.prog X.w) X.A X.env xe → PSs (X.tr pn xe) body (tb W))
    (hh : HdsG X (h₀ :: hds) l) : PS X (.Try body (h₀ :: hds) [] [] pos) (fun D σ H => tb (wGen X.K Wout D l) D σ H) := by
  refine ⟨fun pins s σ H D I h => ?_⟩
  have ok := I.ok
  have hfr : X.A.frames = some (X.env :: X.outer) := by rw [ok.frames, hs]
  refine wpAny_Try_except ?_
  refine wpAny_mono ((hb (wGen X.K Wout D l) (X.pn ++ pins) (fun e s₁ => wpAny (model X.prog X.w) X.A (noteFrame e X.env) (fun _ s₂ => wpAny (model X.prog X.w) X.A (setFlight e none) (fun _ s₃ =>
    wpAny (model X.prog X.w) X.A (handleBy e X.env (h₀ :: hds)) (SP X pins D) X.xe s₃) X.xe s₂) X.xe s₁) (fun u s' xx => ?_) PassesOwn.looking).run [] s σ H D (I.toTry _) h) (fun f s1 hsp => ?_) (fun e s1 he => he)
  · obtain ⟨a, B, sI, pins', σ', H', cls, d, rfl, J', nb, up, sky, na, os, ag, w⟩ := xx
    have J : Inv X pins σ' H' sI := J'.ofTry ok
    have sky' : Sky B (X.env :: X.outer) a (Zc cls d) X.env.locals s'.heap := by rw [← hs]; exact sky
    show wpAny (model X.prog X.w) X.A (noteFrame (.ref a) X.env) _ _ _
    refine Sky.land Zc.steady hfr hf sky' fun h3 fl3 up3 => ?_
    have J3 : Inv X pins σ' H' { s' with heap := h3 } := J.landed nb fl3.1 (up.trans up3) os ag
    obtain ⟨oe3, vs3, he3, hz3, hd3⟩ := fl3.there
    have notFr : ∀ {h : Heap} {o : Obj} {vs : Array Value}, h.FunFrames B (X.env :: X.outer) → h.get? a = some o → o.data = .fields vs → a ∉ frs (X.env :: X.outer) := fun {h o vs} ff e dd hm => by
      obtain ⟨_, o', e', hnf⟩ := ff.mem hm
      rw [e] at e'; cases e'
      exact hnf _ dd
    have nfr := notFr fl3.2.2.1 he3 hd3
    have nL : a ≠ X.env.locals := fun z => nfr (List.mem_filterMap.mpr ⟨X.env, List.mem_cons_self, by rw [hf, z]⟩)
    have nF : a ∉ X.fs := fun hm => by
      obtain ⟨e, he, q⟩ := List.mem_filterMap.mp hm
      exact nfr (List.mem_filterMap.mpr ⟨e, List.mem_cons_of_mem _ he, q⟩)
    have S3 := J3.suite he3 hd3 na nL nF
    have LT : PySem.W.Looks (model X.prog X.w) h3 (typeOf (.ref a)) cls := fun A Q E s k q => wpAny_typeOf_ref (k _ _ he3) (by rw [hz3.1]; exact q)
    have test : ∀ {x : Str} {c : Value} {np : Pos} {Q : Value → Shared → Prop} {E : Value → Shared → Prop}, Names X x c → Q c { s' with heap := h3 } → wpAny (model X.prog X.w) (X.A.mark (some (.ref a))) (eval (.Name x np) X.env) Q E { s' with heap := h3 } := fun {x c np Q E} hc q => by
      obtain ⟨hg, hdbg, hm | ⟨hm, hv, hnn⟩⟩ := hc
      · exact ld_glob (X := X.suite a ((a, oe3) :: (X.pn ++ pins))) S3 hg hm q hdbg
      · exact ld_blt (X := X.suite a ((a, oe3) :: (X.pn ++ pins))) S3 hg hm hv q hnn hdbg
    have go : ∀ {hds' : List ExceptHandler} {l' : List (Value × Option Nat × HTs)}, HdsG X hds' l' → wGen X.K Wout D l' cls d σ' H' →
        wpAny (model X.prog X.w) X.A (handleBy (.ref a) X.env hds') (SP X pins D) X.xe { s' with heap := h3 } := by
      intro hds' l' hk
      induction hk with
      | nil =>
        intro w
        refine wpAny_handleBy_nil ?_
        obtain ⟨k1, k2, k3, oe, vs, T, oT, ts', he, hz, hd, h1, hr⟩ := id fl3
        unfold PySem.passOn
        refine wpAny_bind (wpAny_field he hd h1 ?_)
        rw [if_neg (show ¬ ((Value.ref T == Value.none) = true) from by simp)]
        have fin : wpAny (model X.prog X.w) X.A (setFlight (.ref a) X.env.frame) (fun _ s4 => wpAny (model X.prog X.w) X.A (throw (.ref a) : Sem Flow) (SP X pins D) X.xe s4) X.xe { s' with heap := h3 } := by
          rw [hf]
          refine HandSPX.setFlight_upZ fl3 fun h4 hh4 up4 => wpAny_throw (tk _ _ ?_)
          exact ⟨a, B, sI, pins, σ', H', cls, d, rfl, J, nb, (up.trans up3).trans up4, .inr (.inr (by rw [hs]; exact hh4)), na, os, ag, w⟩
        first
          | exact wpAny_bind (wpAny_pure (wpAny_bind fin))
          | exact wpAny_bind fin
      | @only x c ts b₀ suite np pos' hds2 l2 hc hsu r ih =>
        intro w
        obtain ⟨b, hb1, hyes, hno⟩ := w
        refine wpAny_handleBy_cons (codeAny_handlers_test ?_) (by intro q; cases q)
        have LM := PySem.W.exm_one (M := model X.prog X.w) (J3.kIn) LT hb1
        refine test hc (LM.here ?_)
        cases b with
        | true =>
          refine codeAny_handlers_suite ?_
          refine HandSPX.lands_againZ fl3 fun h4 fl4 up4 => ?_
          have J4 : Inv X pins σ' H' { s' with heap := h4 } := J.landed nb fl4.1 ((up.trans up3).trans up4) os ag
          obtain ⟨oe4, vs4, he4, hz4, hd4⟩ := fl4.there
          have S4 := J4.suite he4 hd4 na nL nF
          refine wpAny_mono ((hsu a oe4 cls d (X.pn ++ pins) hz4 ⟨_, hd4⟩).run [] _ _ H' _ S4 (hyes rfl a na)) (fun f s6 hsp => ?_) (fun _ _ z => False.elim z)
          cases f with
          | next =>
            obtain ⟨σ6, H6, S6, q6⟩ := hsp
            exact ⟨_, _, S6.unsuite ok, q6⟩
          | brk =>
            obtain ⟨σ6, H6, S6, q6⟩ := hsp
            exact ⟨_, _, S6.unsuite ok, q6⟩
          | cont =>
            obtain ⟨σ6, H6, S6, q6⟩ := hsp
            exact ⟨_, _, S6.unsuite ok, q6⟩
          | ret u =>
            obtain ⟨v6, σ6, H6, S6, r6, q6⟩ := hsp
            exact ⟨_, _, _, S6.unsuite ok, r6, q6⟩
        | false =>
          show wpAny _ X.A (handleBy (.ref a) X.env hds2) _ _ _
          exact ih (hno rfl)
      | @named x n i c ts b₀ suite np pos' hds2 l2 hc hi hln hsu r ih =>
        intro w
        obtain ⟨b, hb1, hyes, hno⟩ := w
        have hloc : Loc X.env.scope n := .inl hln
        refine wpAny_handleBy_cons (codeAny_handlers_test ?_) (by intro q; cases q)
        have LM := PySem.W.exm_one (M := model X.prog X.w) (J3.kIn) LT hb1
        refine test hc (LM.here ?_)
        cases b with
        | true =>
          refine codeAny_handlers_suite_as ?_
          refine HandSPX.lands_againZ fl3 fun h4 fl4 up4 => ?_
          have J4 : Inv X pins σ' H' { s' with heap := h4 } := J.landed nb fl4.1 ((up.trans up3).trans up4) os ag
          obtain ⟨oe4, vs4, he4, hz4, hd4⟩ := fl4.there
          have S4 := J4.suite he4 hd4 na nL nF
          refine store_ok (X := X.suite a ((a, oe4) :: (X.pn ++ pins))) (v := .ref a) S4 hN hi hloc rfl (fun s5 S5 => ?_) (.inr hln)
          refine wpAny_mono ((hsu a oe4 cls d (X.pn ++ pins) hz4 ⟨_, hd4⟩).run [] s5 _ H' _ S5 (hyes rfl a na)) (fun f s6 hsp => ?_) (fun _ _ z => False.elim z)
          have end_ : ∀ {σ6 : L2.St} {H6 : Hp} {Q : Shared → Prop}, Inv (X.suite a ((a, oe4) :: (X.pn ++ pins))) [] σ6 H6 s6 → (∀ s7, Inv X pins (σ6.set i none) H6 s7 → Q s7) →
              wpAny (model X.prog X.w) X.A (do bindName X.env n .none; unbindBehindTheSuite X.env n pos') (fun _ s7 => Q s7) X.xe s6 := fun {σ6 H6 Q} S6 hq => gone_ok (S6.unsuite ok) hN hi hln hq
          cases f with
          | next =>
            obtain ⟨σ6, H6, S6, q6⟩ := hsp
            exact end_ S6 fun s7 J7 => ⟨_, _, J7, q6⟩
          | brk =>
            obtain ⟨σ6, H6, S6, q6⟩ := hsp
            exact end_ S6 fun s7 J7 => ⟨_, _, J7, q6⟩
          | cont =>
            obtain ⟨σ6, H6, S6, q6⟩ := hsp
            exact end_ S6 fun s7 J7 => ⟨_, _, J7, q6⟩
          | ret u =>
            obtain ⟨v6, σ6, H6, S6, r6, q6⟩ := hsp
            exact end_ S6 fun s7 J7 => ⟨_, _, _, J7, r6, q6⟩
        | false =>
          show wpAny _ X.A (handleBy (.ref a) X.env hds2) _ _ _
          exact ih (hno rfl)
    exact go hh w
  · cases f with
    | next =>
      obtain ⟨σ', H', J', q⟩ := hsp
      exact wpAny_execs_nil ⟨σ', H', J'.ofTry ok, q⟩
    | brk =>
      obtain ⟨σ', H', J', q⟩ := hsp
      exact ⟨σ', H', J'.ofTry ok, q⟩
    | cont =>
      obtain ⟨σ', H', J', q⟩ := hsp
      exact ⟨σ', H', J'.ofTry ok, q⟩
    | ret u =>
      obtain ⟨v, σ', H', J', r, q⟩ := hsp
      exact ⟨v, σ', H', J'.ofTry ok, r, q⟩
end
end LL

namespace LL
open PySem L2

/-! ### o.m(.., k = v, ..) -/
theorem _root_.L2.PK.weak {X : Cx} {kws : List Keyword} {t t' : TA} (h : PK X kws t) (i : ∀ σ H Q, t' σ H Q → t σ H Q) : PK X kws t' := ⟨fun p pins s σ H Q I q => h.run p pins s σ H Q I (i _ _ _ q)⟩
theorem fill_rel {K : PySem.W.Frag} {m : Lay} (kd : List (Str × Int)) (ks : List Str) {xs : List LV} {vs : List V} (h : VRels K m xs vs) : VRels K m (fillL kd ks xs) (fillV kd ks vs) := by
  have key : ∀ (ks : List Str) {xs : List LV} {vs : List V} (x : Str) (d : Int), VRels K m xs vs → VRel K m (((ks.zip xs).lookup x).getD (.int d)) (((ks.zip vs).lookup x).getD (.int d)) := by
    intro ks
    induction ks with
    | nil => intro xs vs x d h; exact (rfl : V.int d = V.int d)
    | cons k ks ih =>
      intro xs vs x d h
      cases xs with
      | nil => cases (show _ = [] from h); exact (rfl : V.int d = V.int d)
      | cons y xs =>
        obtain ⟨v, ws, rfl, r, t⟩ := h
        simp only [List.zip_cons_cons, List.lookup_cons]
        cases x == k with
        | true => exact r
        | false => exact ih x d t
  unfold fillL fillV
  induction kd with
  | nil => rfl
  | cons p kd ih => exact .cons (key ks p.1 p.2 h) ih
def wMkw (G : Glob) (mt : Str) (kd : List (Str × Int)) (ks : List Str) (ta : LTE) (tas tzs : LTA) : LTE := fun s h Q X => ta s h (fun x h1 => InsM h1 x fun C fs => optM (G.meth C mt) fun sp => fs.lookup mt = none ∧ tas s h1 (fun xs h2 => tzs s h2 (fun zs h3 => sp (x :: xs ++ fillL kd ks zs) h3 Q X) X) X) X
section
variable {X : Cx} {W : WX} {G : Glob} {T : Tab} {k : Nat} {e o : Expr} {es : List Expr} {kws : List Keyword} {pos apos kpos : Pos} {ta : LTE} {tas tzs : LTA} {mt : Str} {pl : Sem Bool} {nm : Option Str}
theorem lk_nil : PK X [] (upA X.K W 0 wNil) := pk_nil.weak fun σ H Q ⟨m, h, s, QL, XL, e1, r1, rs, q, c, ce⟩ => by subst e1; exact c m h [] [] (Ext.refl m) r1 rfl rfl q
theorem lk_cons {n : Nat} (ha : PE X e (upE X.K W ta)) (hr : PK X kws (upA X.K W n tas)) : PK X (⟨nm, e, kpos⟩ :: kws) (upA X.K W (n + 1) (wCons ta tas)) :=
  (pk_cons ha hr).weak fun σ H Q ⟨m, h, s, QL, XL, e1, r1, rs, q, c, ce⟩ => ⟨m, h, s, _, XL, e1, r1, rs, q, fun m1 h1 x v ex1 r2 rx q1 =>
    ⟨m1, h1, s, _, XL, rfl, r2, rs.mono ex1, q1, fun m2 h2 ys us ex2 r3 ry hn q2 => c m2 h2 _ _ (ex1.trans ex2) r3 (.cons (rx.mono ex2) ry) (by rw [List.length_cons, hn]) q2, ce.mono ex1⟩, ce⟩
theorem run_fnK {CX : CXT} {f : Addr} {fd : FuncData} {ps ks : List Str} {sp : Sp} {E : St → XK} {n : Nat} {g : List Value → List Value → List Value} {gV : List V → List V → List V} {pins : List (Addr × Obj)} {σ : St} {H : Hp} {s : Shared} {Q : VK} {us ws : List Value} {vs zs : List V} (F : FnOk X.prog X.w X.K X.mg X.base CX k f fd ps sp) (hr : Room k X.A) (hb : KBn X.K fd ps n ks g gV) (hx : PassesAt CX X σ (E σ))
    (I : Inv X pins σ H s) (r : Vals vs us) (rz : Vals zs ws) (l1 : vs.length = n) (l2 : zs.length = ks.length) (h : sp (gV vs zs) H Q (E σ)) : wpAny (model X.prog X.w) X.A (call (.ref f) us (ks.zip ws)) (EP X pins σ Q) X.xe s := by
  refine wpAny_call (codeAny_mono (F.run X.A X.stack s H ⟨us, ks.zip ws⟩ (g us ws) (gV vs zs) Q (E σ) hr I.env0 (hb.to s us ws I.kIn (r.length.symm.trans l1) (rz.length.symm.trans l2)) (hb.rel r rz) h) fun r s' hq => ?_)
  cases r with
  | error e => exact hx pins H s e s' I hq
  | ok fl =>
    cases fl with
    | ret u => exact I.after hq
    | next => exact False.elim hq
    | brk => exact False.elim hq
    | cont => exact False.elim hq
theorem le_mkw (tk : Takes X W) (g : GOk G T k X.prog X.w X.K X.mg X.base) (hr : Room k X.A) {lv n : Nat} {kd : List (Str × Int)} {ks : List Str} {kss : List (List Str)} (ht : T.kmeth mt = some (lv, n, kd, kss)) (hlv : lv ≤ k) (hks : ks ∈ kss) (ho : PE X o (upE X.K W ta)) (ha : PA X (e :: es) (upA X.K W n tas)) (hz : PK X kws (upA X.K W ks.length tzs))
    (hall : (backToKw pos (keywordEach kws X.env)).all (·.1.isSome) = true) (hkn : (backToKw pos (keywordEach kws X.env)).filterMap (·.1) = ks)
    (he : starEach (e :: es) X.env = (false, eval e X.env) :: starEach es X.env) (hpl : ((backTo pos (starEach (e :: es) X.env)).any (·.1) || (backToKw pos (keywordEach kws X.env)).any (·.1.isNone)) = false)
    (hev : eval (.Call (.Attribute o mt apos) (e :: es) kws pos) X.env = (do
      let ov ← eval o X.env
      standAt apos.atName
      let (f, first) ← holding [ov] (getMethod ov mt pl)
      callWith pos f first (backTo pos (starEach (e :: es) X.env)) (backToKw pos (keywordEach kws X.env)))) : PE X (.Call (.Attribute o mt apos) (e :: es) kws pos) (upE X.K W (wMkw G mt kd ks ta tas tzs)) := by
  refine ⟨fun pins s σ H Q I hq => ?_⟩
  obtain ⟨m, h, ls, QL, XL, e1, r1, rs, q, c, ce⟩ := hq
  refine PySem.W.methodCall_KW (pl := pl) (thn (ho.run pins s σ H (Mid X.K m _) I ⟨m, h, ls, _, XL, e1, r1, rs, q, fun m1 h1 x v ex1 r2 rx q1 => ⟨m1, h1, x, rfl, ex1, r2, rx, q1⟩, ce⟩) fun u s1 ⟨v, H1, I1, ru, m1, h1, x, e2, ex1, r2, rx, q1⟩ => ?_) hev
  subst e2
  obtain ⟨C, fs, hi, q1⟩ := InsM.of q1
  obtain ⟨sp, gm, hno, q1⟩ := optM.of q1
  obtain ⟨p, dx, vs, rfl, hH, kv⟩ := hi.ins r2 rx
  obtain rfl : u = Value.ref p := ru
  obtain ⟨f, cl, M, fd, ps, F, B⟩ := g.kmeth C mt sp lv n kd kss gm ht hlv
  obtain ⟨gg, gV, B, eV⟩ := B ks hks
  refine getmeth_ok I1 hH cl M (kv.lnone hno) ?_
  refine PySem.W.callWith_KW (first := [.ref p]) (h₀ := X.base) I.ok.mod.kin M.kp hall (thn (ha.run pos pins s1 σ m1.H (fun vs H2 => upA X.K W ks.length tzs σ H2 fun zs H3 => vs.length = n ∧ zs.length = ks.length ∧ liftSp X.K (n + 1 + kd.length) sp ((.ref p :: vs) ++ fillV kd ks zs) H3 Q (WE W σ)) I1 ⟨m1, h1, ls, _, XL, rfl, r2, rs.mono ex1, q1, fun m2 h2 xs vs ex2 r3 rxs hn q2 =>
    ⟨m2, h2, ls, _, XL, rfl, r3, rs.mono (ex1.trans ex2), q2, fun m3 h3 zs ws ex3 r4 rz hz q3 => ⟨by rw [rxs.length, hn], by rw [rz.length, hz], lift_of r4 ((VRels.cons (rx.mono (ex2.trans ex3)) (rxs.mono ex3)).append (fill_rel kd ks rz)) (by rw [List.length_append, List.length_cons, hn]; unfold fillL; rw [List.length_map]) q3 (c.mono (ex1.trans (ex2.trans ex3))) (ce.mono (ex1.trans (ex2.trans ex3)))⟩, ce.mono (ex1.trans ex2)⟩, ce.mono ex1⟩) fun us s2 ⟨vs, H2, I2, r, q2⟩ => ?_) hpl he
  refine thn (hz.run pos pins s2 σ H2 _ I2 q2) fun ws s3 ⟨zs, H3, I3, rz, l1, l2, q3⟩ => ⟨I3.kIn, ?_⟩
  rw [hkn]
  rw [← eV _ _ l2] at q3
  exact run_fnK (us := .ref p :: us) (vs := .ref p :: vs) F (hr.mono hlv) B (passAt tk σ) I3 (.cons rfl r) rz (by rw [List.length_cons, l1]) l2 q3
theorem hev_ofK {env : Env} {args : List Expr} (hb : attributeBase o mt env (eval o env) = eval o env) (hf : methodCallForm (args.length + kws.length) (backTo pos (starEach args env)) (backToKw pos (keywordEach kws env)) = true) (hl : (apos.endLine == pos.line) = true) :
    eval (.Call (.Attribute o mt apos) args kws pos) env = (do
      let ov ← eval o env
      standAt apos.atName
      let (f, first) ← holding [ov] (getMethod ov mt (do return (← importBound o env).getD true))
      callWith pos f first (backTo pos (starEach args env)) (backToKw pos (keywordEach kws env))) := by
  have hp : methodCallPos true o env apos pos = pure pos := by unfold methodCallPos; simp [hl]
  rw [PySem.arm_eval_Call, hb]
  show (eval o env >>= fun ov => standAt apos.atName >>= fun _ => methodCall o mt apos pos env ov (args.length + kws.length) (backTo pos (starEach args env)) (backToKw pos (keywordEach kws env))) = _
  unfold methodCall
  rw [hf, hp]
  rfl

/-! ### a local name that holds a def; a text's def in a dict of the module -/
def atF (G : Glob) : LV → (LSp → Prop) → Prop
  | .ref f, P => optM (G.fat f) P
  | _, _ => False
def wLcall (G : Glob) (i : Nat) (tas : LTA) : LTE := fun s h Q X => ∃ x, s[i]? = some (some x) ∧ atF G x fun sp => tas s h (fun xs h1 => sp xs h1 Q X) X
theorem le_lcall (tk : Takes X W) (g : GOk G T k X.prog X.w X.K X.mg X.base) (hr : Room k X.A) {lv n i : Nat} {x : Str} {p : Pos} (ht : T.lcl = some (lv, n)) (hlv : lv ≤ k) (hN : X.N[i]? = some x) (hv : Vis X.env.scope x) (ha : PA X (e :: es) (upA X.K W n tas))
    (hdb : (x == ("__debug__" : Str)) = false) (hcd : (x == ("__classdict__" : Str)) = false) (he : starEach (e :: es) X.env = (false, eval e X.env) :: starEach es X.env) (hpl : (backTo pos (starEach es X.env)).any (·.1) = false) :
    PE X (.Call (.Name x p) (e :: es) [] pos) (upE X.K W (wLcall G i tas)) := by
  refine ⟨fun pins s σ H Q I hq => ?_⟩
  obtain ⟨m, h, ls, QL, XL, e1, r1, rs, ⟨y, hy, q⟩, c, ce⟩ := hq
  subst e1
  cases y <;> try exact q.elim
  rename_i f
  obtain ⟨sp, gf, q⟩ := optM.of q
  obtain ⟨kp, fd, ps, F, B⟩ := g.fat f sp lv n gf ht hlv
  obtain ⟨v, hv2, rv⟩ := rs.get hy
  cases (show v = _ from rv)
  refine wpAny_Call_Name_kw (thn ((pe_var (pos := p) hN hv hdb hcd).run pins s σ m.H (fun v H1 => v = .ref f ∧ H1 = m.H) I ⟨.ref f, hv2, rfl, rfl⟩) fun u s1 ⟨v, H1, I1, ru, q1⟩ => ?_)
  obtain ⟨rfl, rfl⟩ := q1
  cases ru
  refine PySem.W.callWith_K (h₀ := X.base) I.ok.mod.kin kp (thn (ha.run pos pins s1 σ _ (fun vs H2 => liftSp X.K n sp vs H2 Q (WE W σ)) I1 ⟨m, h, ls, _, XL, rfl, r1, rs, q, fun m2 h2 xs vs ex2 r3 rxs hn q2 =>
    lift_of r3 rxs hn q2 (c.mono ex2) (ce.mono ex2), ce⟩) fun us s2 ⟨vs, H2, I2, r, q⟩ => ⟨I2.kIn, ?_⟩) he hpl
  exact run_fnS F (hr.mono hlv) B (passAt tk σ) I2 r q
def strM : LV → (Str → Prop) → Prop
  | .str z, P => P z
  | _, _ => False
def wGdx (G : Glob) (x : Str) (te : LTE) : LTE := fun s h Q X => ∃ t, G.gdct x = some t ∧ te s h (fun y h1 => strM y fun z => optM (t z) fun f => Q (.ref f) h1) X
theorem le_gdx (g : GOk G T k X.prog X.w X.K X.mg X.base) {x : Str} {p : Pos} (hg : Gl X x) (hdb : (x == ("__debug__" : Str)) = false) {b : Expr} (hb : PE X b (upE X.K W ta)) (hs : PlainIx b) : PE X (.Subscript (.Name x p) b pos) (upE X.K W (wGdx G x ta)) := by
  refine ⟨fun pins s σ H Q I hq => ?_⟩
  obtain ⟨m, h, ls, QL, XL, e1, r1, rs, ⟨t, gt, q⟩, c, ce⟩ := hq
  obtain ⟨D, hm, kd⟩ := g.gdct x t gt
  refine (pe_ix ix_kdict (pe_glob (v := .ref D) (pos := p) hg hm rfl hdb) hb hs).run pins s σ H Q I ?_
  refine ⟨m, h, ls, _, XL, e1, r1, rs, q, fun m1 h1 y v ex1 r2 rx q1 => ?_, ce⟩
  cases y <;> try exact q1.elim
  rename_i z
  obtain ⟨f, gf, q1⟩ := optM.of q1
  cases (show v = _ from rx)
  exact ⟨D, z, .ref f, rfl, rfl, kd z f gf, (c.mono ex1).val r2 (x := .ref f) rfl q1⟩
end
end LL

namespace LL
open PySem L2

/-! ### {k: v, ..} -/
def pairsL : List LV → Option (List (Key × LV))
  | [] => some []
  | x :: y :: r => match keyOf x, pairsL r with
    | some k, some kvs => some ((k, y) :: kvs)
    | _, _ => none
  | _ => none
def mergeL (kvs : List (Key × LV)) : List (Key × LV) := kvs.foldl (fun acc kv => putK acc kv.1 kv.2) []
def locM : LV → (Nm → Nat → Prop) → Prop
  | .loc n v, P => P n v
  | _, _ => False
def wDisp (tas : LTA) : LTE := fun s h Q X => Alloc h (.dK []) fun x h1 => tas s h1 (fun xs h2 => optM (pairsL xs) fun kvs => kvs.length ≤ 15 ∧ locM x fun n v => h2 n = some (v, .dK []) ∧ Q x (h2.set n v (.dK (mergeL kvs)))) X
def pairUp : List V → List (V × V)
  | x :: y :: r => (x, y) :: pairUp r
  | _ => []
theorem pairsL.of {K : PySem.W.Frag} {m : Lay} : ∀ {xs : List LV} {vs : List V} {kvs : List (Key × LV)}, pairsL xs = some kvs → VRels K m xs vs → ∃ ws, pairUp vs = ws.map (fun kv => (kV kv.1, kv.2)) ∧ KVR K m kvs ws
  | [], _, _, e, h => by cases (show _ = [] from h); cases e; exact ⟨[], rfl, rfl⟩
  | [_], _, _, e, _ => by cases e
  | x :: y :: r, _, kvs, e, ⟨v, _, e1, rx, w, ws, e2, ry, t⟩ => by
    subst e1 e2
    unfold pairsL at e
    split at e
    · rename_i k kvs' h1 h2
      cases e
      obtain ⟨us, e3, q⟩ := pairsL.of h2 t
      exact ⟨(k, w) :: us, by rw [pairUp, e3, List.map_cons, keyOf.v h1 rx], w, us, rfl, ry, q⟩
    · cases e
theorem merge_rel {K : PySem.W.Frag} {m : Lay} : ∀ {kvs : List (Key × LV)} {ws : List (Key × V)} {a : List (Key × LV)} {b : List (Key × V)}, KVR K m a b → KVR K m kvs ws → KVR K m (kvs.foldl (fun acc kv => putK acc kv.1 kv.2) a) (ws.foldl (fun acc kv => L2.putK acc kv.1 kv.2) b)
  | [], _, a, b, h, q => by cases (show _ = [] from q); exact h
  | (k, x) :: r, _, a, b, h, ⟨v, ws, e, rx, t⟩ => by
    subst e
    exact merge_rel (kvs := r) (ws := ws) (a := putK a k x) (b := L2.putK b k v) (h.putk rx) t
/-- the elements of a display, each by itself -/
inductive Alt (X : Cx) (W : WX) : List Expr → LTA → Nat → Prop
  | nil : Alt X W [] wNil 0
  | cons {k v : Expr} {r : List Expr} {tk tv : LTE} {t : LTA} {n : Nat} (hk : PE X k (upE X.K W tk)) (hv : PE X v (upE X.K W tv)) (h : Alt X W r t n) : Alt X W (k :: v :: r) (wCons tk (wCons tv t)) (n + 2)
section
variable {X : Cx} {W : WX}
def weave : List (Option Expr) → List Expr → List Expr
  | some k :: ks, v :: vs => k :: v :: weave ks vs
  | _, _ => []
theorem alt_pps {es : List Expr} {t : LTA} {n : Nat} (h : Alt X W es t n) : ∀ {keys : List (Option Expr)} {values : List Expr} {pos : Pos}, keys.all (·.isSome) = true → keys.length = values.length → es = weave keys values →
    ∃ trs, PPs X pos keys values trs ∧ ∀ σ H Q, upA X.K W n t σ H (fun vs H' => Q (pairUp vs) H') → tPairs trs σ H Q := by
  induction h with
  | nil =>
    intro keys values pos ha hl e
    cases keys with
    | nil =>
      cases values with
      | nil => exact ⟨[], pps_nil, fun σ H Q ⟨m, h, s, QL, XL, e1, r1, rs, q, c, ce⟩ => by subst e1; exact c m h [] [] (Ext.refl m) r1 rfl rfl q⟩
      | cons => cases hl
    | cons k ks =>
      cases values with
      | nil => cases hl
      | cons v vs => cases k with
        | none => simp at ha
        | some k => cases e
  | @cons k v r tk tv t n hk hv h ih =>
    intro keys values pos ha hl e
    cases keys with
    | nil => cases e
    | cons k' ks =>
      cases values with
      | nil => cases hl
      | cons v' vs => cases k' with
        | none => simp at ha
        | some k' =>
          simp only [weave, List.cons.injEq] at e
          obtain ⟨rfl, rfl, e⟩ := e
          obtain ⟨trs, p, i⟩ := ih (pos := pos) (by simpa using ha) (by simpa using hl) e
          refine ⟨(_, _) :: trs, pps_cons hk hv p, fun σ H Q ⟨m, h, s, QL, XL, e1, r1, rs, q, c, ce⟩ => ?_⟩
          refine ⟨m, h, s, _, XL, e1, r1, rs, q, fun m1 h1 x v ex1 r2 rx q1 => ⟨m1, h1, s, _, XL, rfl, r2, rs.mono ex1, q1, fun m2 h2 y u ex2 r3 ry q2 => ?_, ce.mono ex1⟩, ce⟩
          exact i _ _ _ ⟨m2, h2, s, _, XL, rfl, r3, rs.mono (ex1.trans ex2), q2, fun m3 h3 xs ws ex3 r4 rz hn q3 => c m3 h3 (x :: y :: xs) (v :: u :: ws) (ex1.trans (ex2.trans ex3)) r4 (.cons (rx.mono (ex2.trans ex3)) (.cons (ry.mono ex3) rz)) (by simp [hn]) q3, ce.mono (ex1.trans ex2)⟩
theorem le_disp {keys : List (Option Expr)} {values : List Expr} {t : LTA} {n : Nat} {pos : Pos} (h : Alt X W (weave keys values) t n) (hall : keys.all (·.isSome) = true) (hl : keys.length = values.length) (h0 : keys ≠ []) (h15 : keys.length ≤ 15) :
    PE X (.Dict keys values pos) (upE X.K W (wDisp t)) := by
  obtain ⟨trs, p, i⟩ := alt_pps h (pos := pos) hall hl rfl
  refine (pe_disp p hall hl h0 h15).weak fun σ H Q ⟨m, h, s, QL, XL, e1, r1, rs, q, c, ce⟩ => ?_
  subst e1
  intro D hD
  obtain ⟨m2, nm, v, e2, ex2, r3, el, q⟩ := Alloc.up2 (u := .dK []) q r1 hD fun m' _ => ⟨[], rfl, rfl⟩
  rw [← e2]
  refine i _ _ _ ⟨m2, _, s, _, XL, rfl, r3, rs.mono ex2, q, fun m3 h3 xs vs ex3 r4 rx _ q3 => ?_, ce.mono ex2⟩
  obtain ⟨kvs, hp, hl, hn, q4⟩ := optM.of q3
  obtain ⟨ws, e4, rk⟩ := pairsL.of hp rx
  have el3 := ex3.l _ _ el
  obtain ⟨us, e5, ru⟩ := r4.dK hn el3
  cases (show us = [] from ru)
  obtain ⟨ex5, r5⟩ := r4.write (o' := .dK (mergeL kvs)) (u := .dK (mergeK [] ws)) hn el3 ⟨_, rfl, merge_rel (a := []) (b := []) rfl rk⟩
  exact ⟨e5, ws, e4, by rw [rk.length]; exact hl, c _ _ (.loc nm v) (.ref D) (ex2.trans (ex3.trans ex5)) r5 ⟨D, rfl, ex5.l _ _ el3⟩ q4⟩
end

/-! ### {k: v for ..} -/
def DcK (tt : LTT) (g : Nt) (tk tv : LTE) (vs : List Nat) (s : LSt) (L : LIt) (d : LV) (Q : LQ) (h2 : LH) : Prop := ∃ Wl : Nat → Nat → LH → Prop, (∃ k, Wl 0 k h2) ∧ ∀ i k h, Wl i k h →
  (L i h = some none ∧ Q d h) ∨ ∃ x, L i h = some (some x) ∧ ∃ N : LH → Prop, (∀ h', N h' → ∃ k', k' < k ∧ Wl (i + 1) k' h') ∧ ntM g x (wipeL s vs) fun s2 => tt s2 h (fun b h3 =>
    if b = true then tk s2 h3 (fun y h4 => tv s2 h4 (fun z h5 => ∃ n v kvs kk, d = .loc n v ∧ keyOf y = some kk ∧ h5 n = some (v, .dK kvs) ∧ kvs.length < sizeLine ∧ N (h5.set n v (.dK (putK kvs kk z)))) (fun _ _ => False)) (fun _ _ => False) else N h3) fun _ _ => False
def wDc (wi : LTI) (g : Nt) (tt : LTT) (tk tv : LTE) (vs : List Nat) : LTE := fun s h Q X => wi s h (fun L h1 => Alloc h1 (.dK []) fun d h2 => DcK tt g tk tv vs s L d Q h2) X
section
variable {X : Cx} {W : WX}
theorem dc_up {wi : LTI} {g : Nt} {tt : LTT} {tk tv : LTE} {vs : List Nat} (hm : ∀ i ∈ g.slots, i ∈ vs) {σ : St} {H : Hp} {Q : VK} : upE X.K W (wDc wi g tt tk tv vs) σ H Q → tDc (upIt X.K W wi) (gNt X.K g) (upT X.K noX tt) (upE X.K noX tk) (upE X.K noX tv) vs σ H Q :=
  fun ⟨m, h, s, QL, XL, e1, r1, rs, q, c, ce⟩ => by
    refine ⟨m, h, s, _, _, e1, r1, rs, q, fun m1 h1 L J ex1 r2 ok q1 => ?_, ce⟩
    intro D hD
    obtain ⟨m2, n, v, e2, ex2, r3, el, Wl, ⟨k0, w0⟩, turn⟩ := Alloc.up2 (u := .dK []) q1 r2 hD fun m' _ => ⟨[], rfl, rfl⟩
    refine ⟨fun i k H' => ∃ m3 h3, m3.H = H' ∧ Ext m2 m3 ∧ R X.K m3 h3 ∧ Wl i k h3, ⟨k0, m2, _, e2, Ext.refl m2, r3, w0⟩, ?_⟩
    rintro i k H' ⟨m3, h3, rfl, ex3, r4, w⟩
    have ex03 := ex2.trans ex3
    rcases turn i k h3 w with ⟨st, q2⟩ | ⟨x, gx, N, hN, q2⟩
    · exact .inl ⟨ok.stop m3 h3 i ex03 r4 st, c m3 h3 (.loc n v) (.ref D) (ex1.trans ex03) r4 ⟨D, rfl, ex3.l _ _ el⟩ q2⟩
    · obtain ⟨go, yl⟩ := ok.go m3 h3 i x ex03 r4 gx
      refine .inr ⟨go, fun H' => ∃ k', k' < k ∧ ∃ m3 h3, m3.H = H' ∧ Ext m2 m3 ∧ R X.K m3 h3 ∧ Wl (i + 1) k' h3, fun H' z => z, fun u H4 y => ?_⟩
      obtain ⟨m4, rfl, ex4, r5, rv⟩ := yl u H4 y
      refine nt_ok hm rv (srel_wipe (rs.mono (ex1.trans (ex03.trans ex4))) vs) q2 fun σ2 s2 we rs2 q3 => ⟨we.trans (wipe_wipe _ _), ?_⟩
      refine ⟨m4, h3, s2, _, _, rfl, r5, rs2, q3, fun m5 h5 b ex5 r6 q4 => ?_, fun _ _ _ _ _ z => z⟩
      have ex25 := ex3.trans (ex4.trans ex5)
      cases b
      · rw [if_neg Bool.false_ne_true] at q4
        obtain ⟨k', hk, w'⟩ := hN _ q4
        exact iteF ⟨k', hk, m5, h5, rfl, ex25, r6, w'⟩
      · rw [if_pos rfl] at q4
        refine iteT ⟨m5, h5, s2, _, _, rfl, r6, rs2.mono ex5, q4, fun m6 h6 y6 v6 ex6 r7 ry q6 => ?_, fun _ _ _ _ _ z => z⟩
        refine ⟨m6, h6, s2, _, _, rfl, r7, rs2.mono (ex5.trans ex6), q6, fun m7 h7 z u7 ex7 r8 rz ⟨n', v', kvs, kk, e7, hkk, hn, hl, q5⟩ => ?_, fun _ _ _ _ _ z => z⟩
        cases e7
        have el6 := (ex25.trans (ex6.trans ex7)).l _ _ el
        obtain ⟨us, e8, ra⟩ := r8.dK hn el6
        obtain ⟨ex8, r9⟩ := r8.write (o' := .dK (putK kvs kk z)) (u := .dK (L2.putK us kk u7)) hn el6 ⟨_, rfl, ra.putk rz⟩
        obtain ⟨k', hk, w'⟩ := hN _ q5
        exact ⟨us, kk, keyOf.v hkk ry, e8, by rw [ra.length]; exact hl, k', hk, _, _, rfl, ex25.trans (ex6.trans (ex7.trans ex8)), r9, w'⟩
end

/-! ### isinstance(e, X), e the exception of the suite -/
def wIsx (G : Glob) (i : Nat) (x : Str) : LTE := fun s h Q _ => ∃ a C b, G.hot = some (a, C) ∧ s[i]? = some (some (.ref a)) ∧ G.exs C x = some b ∧ Q (.bl b) h
section
variable {X : Cx} {W : WX} {G : Glob} {T : Tab} {k : Nat}
theorem le_isx (g : GOk G T k X.prog X.w X.K X.mg X.base) (hot : ∀ a C, G.hot = some (a, C) → ExcC X.K C → CallR X (.builtin "isinstance") (rIsE X.K C a)) {i : Nat} {y x : Str} {p1 p2 p3 pos : Pos} (hN : X.N[i]? = some y) (hv : Vis X.env.scope y)
    (hy1 : (y == ("__debug__" : Str)) = false) (hy2 : (y == ("__classdict__" : Str)) = false) (hgx : Gl X x) (hx : (x == ("__debug__" : Str)) = false) (hg : Gl X "isinstance") (hm : X.mg "isinstance" = none) :
    PE X (.Call (.Name "isinstance" p1) [.Name y p2, .Name x p3] [] pos) (upE X.K W (wIsx G i x)) := by
  refine ⟨fun pins s σ H Q I ⟨m, h, ls, QL, XL, e1, r1, rs, ⟨a, C, b, gh, hs, gx, q⟩, c, ce⟩ => ?_⟩
  subst e1
  obtain ⟨cv, v, hc, e1, e2, rv, uq⟩ := (g.exs C x b gx).ex
  obtain ⟨w, hw, rw'⟩ := rs.get hs
  cases (show w = _ from rw')
  have hx2 : PE X (.Name x p3) (tC v) := by
    rcases hc with hc | ⟨hc1, hc2, hc3⟩
    · exact pe_glob hgx hc rv hx
    · exact pe_bltn hgx hc1 hc2 rv hc3 hx
  refine (pe_callB (hot a C gh (g.exs C x b gx).cls) hg hm (by decide +kernel) (pa_cons (pe_var hN hv hy1 hy2) (pa_cons hx2 pa_nil rfl) rfl) (by decide) (by decide) rfl rfl).run pins s σ _ Q I ?_
  exact ⟨.ref a, hw, v, cv, b, rfl, uq, e2, c.bl r1 q⟩
end
/-! ### try -/
abbrev LHd := List (Str × Option Nat × (Addr → Addr → LTS))
def dnL : Option Nat → LEnds → LEnds
  | none, D => { nx := D.nx, rt := D.rt, bk := D.bk, ct := D.ct }
  | some i, D => { nx := fun s h => D.nx (s.set i none) h, rt := D.rt, bk := fun s h => D.bk (s.set i none) h, ct := fun s h => D.ct (s.set i none) h }
def snL : Option Nat → Addr → LSt → LSt
  | none, _, s => s
  | some i, a, s => s.set i (some (.ref a))
def tryM : Bool → Prop → Prop → Prop
  | true, p, _ => p
  | false, _, q => q
/-- what the clauses make of an exception -/
def hdX (G : Glob) (D : LEnds) : LHd → LXS
  | [] => D.xc
  | (x, o, t) :: r => fun C s h => optM (G.exs C x) fun b => tryM b (∀ a, t a C (dnL o D) (snL o a s) h) (hdX G D r C s h)
def wTry (G : Glob) (tb : LTS) (hs : LHd) : LTS := fun D s h => tb { D with xc := hdX G D hs } s h
/-- a logical clause at hand level -/
def hdU (K : PySem.W.Frag) (mg : Str → Option Value) : LHd → List (Value × Option Nat × HTs)
  | [] => []
  | (x, o, t) :: r => ((match mg x with | some c => c | none => (bootBuiltins x).getD .none), o, fun a cls d => match cls, d with | .ref C, none => upS K noX (t a C) | _, _ => fun _ _ _ => False) :: hdU K mg r
section
variable {X : Cx} {W : WX} {G : Glob} {T : Tab} {k : Nat}
theorem dn_ec {K : PySem.W.Frag} {m : Lay} {o : Option Nat} {DL : LEnds} {D : Ends} (ec : EC K m W DL D) : EC K m noX (dnL o DL) (dnE o D) := by
  cases o with
  | none => exact ⟨ec.nx, ec.rt, ec.bk, ec.ct, fun _ _ _ _ _ _ _ _ z => z.elim⟩
  | some i => exact ⟨fun m' h' s σ e r rs q => ec.nx m' h' _ _ e r (rs.forget i none) q, ec.rt, fun m' h' s σ e r rs q => ec.bk m' h' _ _ e r (rs.forget i none) q, fun m' h' s σ e r rs q => ec.ct m' h' _ _ e r (rs.forget i none) q, fun _ _ _ _ _ _ _ _ z => z.elim⟩
theorem sn_rel {K : PySem.W.Frag} {m : Lay} {o : Option Nat} {a : Addr} {s : LSt} {σ : St} (rs : SRel K m s σ) : SRel K m (snL o a s) (snE o a σ) := by
  cases o with
  | none => exact rs
  | some i => exact rs.set (x := .ref a) (v := .ref a) rfl i
theorem hd_x (g : GOk G T k X.prog X.w X.K X.mg X.base) : ∀ (hs : LHd) {m : Lay} {DL : LEnds} {D : Ends}, EC X.K m W DL D → CXS X.K m (hdX G DL hs) (wGen X.K W D (hdU X.K X.mg hs))
  | [], m, DL, D, ec => ec.xc
  | (x, o, t) :: r, m, DL, D, ec => fun m' h' s σ C ex rr rs q => by
    obtain ⟨b, gx, q⟩ := optM.of q
    obtain ⟨cv, v, hc, e1, e2, rv, uq⟩ := (g.exs C x b gx).ex
    have ecv : (match X.mg x with | some c => c | none => (bootBuiltins x).getD .none) = cv := by
      rcases hc with hc | ⟨hc1, hc2, hc3⟩
      · rw [hc]
      · rw [hc1, hc2]; rfl
    refine ⟨b, by rw [ecv]; exact e1, fun hb a ha => ?_, fun hb => ?_⟩
    · subst hb
      exact ⟨m', h', _, _, rfl, rr, sn_rel rs, q a, dn_ec (ec.mono ex)⟩
    · subst hb
      exact hd_x g r ec m' h' s σ C ex rr rs q
theorem ls_try (hs : X.stack = X.env :: X.outer) (hf : X.env.frame = some X.env.locals) (hN : X.N.Nodup) (tk : Takes X W) (g : GOk G T k X.prog X.w X.K X.mg X.base) {body : List Stmt} {h₀ : ExceptHandler} {hds : List ExceptHandler} {pos : Pos} {tb : LTS} {l : LHd}
    (hb : ∀ (W : WX) (pn : List (Addr × Obj)) (xe : Value → Shared → Prop), Takes (X.tr pn xe) W → PassesOwn (model X.prog X.w) X.A X.env xe → PSs (X.tr pn xe) body (upS X.K W tb))
    (hh : HdsG X (h₀ :: hds) (hdU X.K X.mg l)) : PS X (.Try body (h₀ :: hds) [] [] pos) (upS X.K W (wTry G tb l)) :=
  (ps_try_gen (tb := fun W => upS X.K W tb) hs hf hN tk hb hh).weak fun D σ H ⟨m, h, s, DL, e1, r1, rs, q, ec⟩ => ⟨m, h, s, _, e1, r1, rs, q, ⟨ec.nx, ec.rt, ec.bk, ec.ct, hd_x g l ec⟩⟩
end
end LL

namespace LL
open PySem L2

/-! ### the program's text, in short -/
inductive Op where | add | sub | mul | fdiv | mod | pow
inductive Cp where | eq | ne | lt | le | gt | ge | is | isn | isin | nin
inductive Blt where | len | int | abs | max | min | list | tuple | isi | sorted | sum
inductive Ik where | seq | rng | enum | items | vals
inductive Bm where | none | append | extend | pop | reverse | clear | remove | count | get
mutual
inductive E where
  | var (i : Nat) | con (x : Str) | ty (n : String) | int (i : Int) | bl (b : Bool) | non | str (x : Str)
  | tup (es : Es) | lst (es : Es) | bin (o : Op) (a b : E) | neg (a : E) | cmp (o : Cp) (a b : E) | chain (o o' : Cp) (a b c : E)
  | and (es : Es) | or (es : Es) | not (a : E) | ife (c a b : E) | fld (a : E) (f : Str) | ix (a b : E)
  | call (x : Str) (es : Es) | make (x : Str) (es : Es) | blt (b : Blt) (es : Es) | meth (a : E) (m : Str) (b : Bm) (es : Es)
  | lc (vs : List Nat) (g : Nt) (k : Ik) (is cs : Es) (e : E) | sl (a : E) (lo hi : Es) | dnew | olen (a : E)
  | lsRg (es : Es) | minv (a : E) | mkw (a : E) (m : Str) (es : Es) (ks : List Str) (vs : Es) | lcall (i : Nat) (es : Es) | gdx (x : Str) (e : E) | isx (i : Nat) (x : Str) | disp (es : Es)
  | dc (vs : List Nat) (g : Nt) (k : Ik) (is cs : Es) (ke ve : E)
inductive Es where
  | nil | cons (e : E) (r : Es)
end
def Es.len : Es → Nat
  | .nil => 0
  | .cons _ r => r.len + 1
def seq1 : List LV → LH → (LIt → LH → Prop) → Prop
  | [x], h, RL => seqM x h RL
  | _, _, _ => False
def wSeqA (tas : LTA) : LTI := fun s h RL X => tas s h (fun xs h1 => seq1 xs h1 RL) X
def itm1 (dk : Dk) : List LV → LH → (LIt → LH → Prop) → Prop
  | [x], h, RL => itmM dk x h RL
  | _, _, _ => False
def wItmA (dk : Dk) (tas : LTA) : LTI := fun s h RL X => tas s h (fun xs h1 => itm1 dk xs h1 RL) X
def wIk : Ik → LTA → LTI
  | .seq => wSeqA | .rng => wRng | .enum => wEnum | .items => wItmA .items | .vals => wItmA .vals
/-- a dict that is walked is locked meanwhile -/
def lkIf : Ik → LTE → LTE
  | .items, t => wLockE t | .vals, t => wLockE t | .seq, t => t | .rng, t => t | .enum, t => t
def wYes : LTT := fun _ h Q _ => Q true h
def Es.cond (t : LTT) : Es → LTT
  | .nil => wYes
  | .cons _ _ => t
def Es.part (t : LTE) : Es → Option LTE
  | .nil => none
  | .cons _ _ => some t
mutual
inductive Tg where
  | name (i : Nat) | tup (n : Nat) (gs : Tgs) | sub (o i : E)
inductive Tgs where
  | nil | cons (g : Tg) (r : Tgs)
end
inductive Iz where
  | seq (e : E) | rng (es : Es) | enum (es : Es) | itm (dk : Dk) (e : E)
mutual
inductive S where
  | expr (e : E) | ret (e : E) | retN | asg (g : Tg) (e : E) | fld (o : E) (f : Str) (e : E) | flda (o : E) (f : Str) (e : E)
  | ifs (c : E) (a b : Ss) | whl (c : E) (b : Ss) | for (g : Tg) (i : Iz) (b : Ss) | brk | cnt | pass | rais (x : Str) | del (o i : E) | tryS (b : Ss) (hs : Hs)
inductive Ss where
  | nil | cons (s : S) (r : Ss)
inductive Hs where
  | nil | cons (x : Str) (o : Option Nat) (b : Ss) (r : Hs)
end

/-! ### what it asks -/
def opR : Op → LR2
  | .add => lAdd | .sub => lSub | .mul => lMul | .fdiv => lFDiv | .mod => lMod | .pow => lPow
def cpR : Cp → LR2
  | .eq => lEq | .ne => lNe
  | .lt => lCmp fun i j => decide (i < j) | .le => lCmp fun i j => decide (i ≤ j) | .gt => lCmp fun i j => decide (j < i) | .ge => lCmp fun i j => decide (j ≤ i)
  | .is => lIsB | .isn => lNotB | .isin => lIn | .nin => lNin
def bltR : Blt → LRA
  | .len => lLen | .int => lInt | .abs => lAbs | .max => lMaxL | .min => lMinL | .list => lListC | .tuple => lTuple | .isi => lIsi | .sorted => lSorted | .sum => lSum
def lstM : Bm → Nat → Option LRM
  | .append, 1 => some lAppend | .extend, 1 => some lExtend | .pop, 0 => some lPop | .pop, 1 => some lPopAt | .reverse, 0 => some lReverse | .clear, 0 => some lClear | .remove, 1 => some lRemove | .count, 1 => some lCount
  | _, _ => none
def dctM : Bm → Nat → Option LRM
  | .get, _ => some lDGet | .pop, _ => some lDPop
  | _, _ => none
def wRais (G : Glob) (x : Str) : LTS := fun D s h => ∃ C, G.exc x = some C ∧ D.xc C s h
def wFalse : LTE := fun _ _ _ _ => False
/-- a value, and as a test; arguments, and what and | or of them are -/
structure SE where
  v : LTE
  t : LTT
structure SA where
  a : LTA
  av : LTE
  ov : LTE
  at_ : LTT
  ot : LTT
abbrev SE.of (v : LTE) : SE := ⟨v, wTru v⟩
def SA.nil : SA := ⟨wNil, wFalse, wFalse, fun _ _ _ _ => False, fun _ _ _ _ => False⟩
def SA.one (e : SE) : SA := ⟨wCons e.v wNil, e.v, e.v, e.t, e.t⟩
def SA.cons (e : SE) (r : SA) : SA := ⟨wCons e.v r.a, wAndV e.v r.av, wOrV e.v r.ov, wAndT e.t r.at_, wOrT e.t r.ot⟩
section
variable (G : Glob) (T : Tab)
mutual
def sem : E → SE
  | .var i => .of (wVar i)
  | .con x => .of fun _ h Q _ => ∃ v, G.con x = some v ∧ Q v h
  | .ty n => .of (wC (.ty n))
  | .int i => .of (wC (.int i))
  | .bl b => .of (wC (.bl b))
  | .non => .of (wC .non)
  | .str x => .of (wC (.str x))
  | .tup es => .of (wTup (sems es).a)
  | .lst es => .of (wLst (sems es).a)
  | .bin o a b => .of (wBin (opR o) (sem a).v (sem b).v)
  | .neg a => .of (wUn lNeg (sem a).v)
  | .cmp o a b => ⟨wBin (cpR o) (sem a).v (sem b).v, wTst (wBin (cpR o) (sem a).v (sem b).v)⟩
  | .chain o o' a b c => ⟨wChain (cpR o) (cpR o') (sem a).v (sem b).v (sem c).v, wTst (wChain (cpR o) (cpR o') (sem a).v (sem b).v (sem c).v)⟩
  | .and es => ⟨(sems es).av, (sems es).at_⟩
  | .or es => ⟨(sems es).ov, (sems es).ot⟩
  | .not a => ⟨wNotV (sem a).v, wNotT (sem a).t⟩
  | .ife c a b => ⟨wIf (sem c).t (sem a).v (sem b).v, fun _ _ _ _ => False⟩
  | .fld a f => .of (wFld G (sem a).v f)
  | .ix a b => .of (wIx (sem a).v (sem b).v)
  | .call x es => .of fun s h Q X => ∃ sp, G.fn x = some sp ∧ wCall sp (sems es).a s h Q X
  | .make x es => .of fun s h Q X => ∃ C sp, G.cls x = some (C, sp) ∧ wMake C sp (sems es).a s h Q X
  | .blt b es => .of (wCB (bltR b) (sems es).a)
  | .meth a m b es => .of (wMeth G m (T.meth m).isSome (lstM b es.len) (dctM b es.len) (sem a).v (sems es).a)
  | .lc vs g k is cs e => .of (lkIf k (wLc (wIk k (sems is).a) g (cs.cond (sems cs).at_) (sem e).v vs))
  | .dc vs g k is cs ke ve => .of (lkIf k (wDc (wIk k (sems is).a) g (cs.cond (sems cs).at_) (sem ke).v (sem ve).v vs))
  | .dnew => .of wDnew
  | .olen a => .of (wOlen G (sem a).v)
  | .lsRg es => .of (wLsRg (sems es).a)
  | .minv a => .of (wMinV (sem a).v)
  | .mkw a m es ks vs => .of fun s h Q X => ∃ lv n kd kss, T.kmeth m = some (lv, n, kd, kss) ∧ wMkw G m kd ks (sem a).v (sems es).a (sems vs).a s h Q X
  | .lcall i es => .of (wLcall G i (sems es).a)
  | .gdx x e => .of (wGdx G x (sem e).v)
  | .isx i x => .of (wIsx G i x)
  | .disp es => .of (wDisp (sems es).a)
  | .sl a lo hi => .of (wSl (sem a).v (lo.part (sems lo).av) (hi.part (sems hi).av))
def sems : Es → SA
  | .nil => .nil
  | .cons e r => match r with
    | .nil => .one (sem e)
    | .cons e' r' => .cons (sem e) (sems (.cons e' r'))
end
abbrev wpE (e : E) : LTE := (sem G T e).v
abbrev wpT (e : E) : LTT := (sem G T e).t
abbrev wpA (es : Es) : LTA := (sems G T es).a
mutual
def wpG : Tg → LTG
  | .name i => vName i
  | .tup n gs => vTup n (wpGs gs)
  | .sub o i => vSub (wpE G T o) (wpE G T i)
def wpGs : Tgs → LTGs
  | .nil => vNil
  | .cons g r => vCons (wpG g) (wpGs r)
end
def wpI : Iz → LTI
  | .seq e => wSeqI (wpE G T e)
  | .rng es => wRng (wpA G T es)
  | .enum es => wEnum (wpA G T es)
  | .itm dk e => wItm dk (wpE G T e)
def lkI : Iz → LTS → LTS
  | .itm _ _, t => wLock t | .seq _, t => t | .rng _, t => t | .enum _, t => t
end
section
variable (T : Tab)
mutual
def wpS0 : S → Glob → LTS
  | .expr e, G => wDrop (wpE G T e)
  | .ret e, G => wRet (wpE G T e)
  | .retN, _ => wRetN
  | .asg g e, G => wAsg (wpE G T e) (wpG G T g)
  | .fld o f e, G => wFldS G f (wpE G T o) (wpE G T e)
  | .flda o f e, G => wFldA G f (wpE G T o) (wpE G T e)
  | .ifs c a b, G => wIfS (wpT G T c) (wpSs0 a G) (wpSs0 b G)
  | .whl c b, G => wWhile (wpT G T c) (wpSs0 b G)
  | .for g i b, G => lkI i (wFor (wpI G T i) (wpG G T g) (wpSs0 b G))
  | .brk, _ => wBrk
  | .cnt, _ => wCnt
  | .pass, _ => wSkip
  | .rais x, G => wRais G x
  | .del o i, G => wDel (wpE G T o) (wpE G T i)
  | .tryS b hs, G => wTry G (wpSs0 b G) (wpHs0 hs G)
def wpSs0 : Ss → Glob → LTS
  | .nil, _ => wSkip
  | .cons s r, G => wSeq (wpS0 s G) (wpSs0 r G)
def wpHs0 : Hs → Glob → LHd
  | .nil, _ => []
  | .cons x o b r, G => (x, o, fun a C => wpSs0 b (G.at a C)) :: wpHs0 r G
end
end
abbrev wpS (G : Glob) (T : Tab) (s : S) : LTS := wpS0 T s G
abbrev wpSs (G : Glob) (T : Tab) (s : Ss) : LTS := wpSs0 T s G
abbrev wpHs (G : Glob) (T : Tab) (s : Hs) : LHd := wpHs0 T s G
example (G : Glob) (T : Tab) (a b : E) : wpE G T (.bin .add a b) = wBin lAdd (wpE G T a) (wpE G T b) := rfl
end LL

namespace LL
open PySem L2

/-! ### the text as it stands: does it say this? -/
structure Ck where
  N : List Str
  nm : List (Str × NameKind)
  T : Tab
  k : Nat
  calm : Bool
def Ck.vis (c : Ck) (x : Str) : Bool := match c.nm.lookup x with
  | some .local => true | some .cell => true | some .free => true | _ => false
def Ck.gl (c : Ck) (x : Str) : Bool := match c.nm.lookup x with
  | some .globalImplicit => true | _ => false
def Ck.loc (c : Ck) (x : Str) : Bool := match c.nm.lookup x with
  | some .local => true | some .cell => true | _ => false
def Ck.cap (c : Ck) (x : Str) : Bool := match c.nm.lookup x with
  | some .cell => true | some .free => true | _ => false
def plainName (x : Str) : Bool := !(x == ("__debug__" : Str)) && !(x == ("__classdict__" : Str)) && !(x == ("__name__" : Str))
def opOk : Op → Operator → Bool
  | .add, .Add => true | .sub, .Sub => true | .mul, .Mult => true | .fdiv, .FloorDiv => true | .mod, .Mod => true | .pow, .Pow => true
  | _, _ => false
def cpOk : Cp → CmpOp → Bool
  | .eq, .Eq => true | .ne, .NotEq => true | .lt, .Lt => true | .le, .LtE => true | .gt, .Gt => true | .ge, .GtE => true | .is, .Is => true | .isn, .IsNot => true | .isin, .In => true | .nin, .NotIn => true
  | _, _ => false
def bltNm : Blt → Str
  | .len => "len" | .int => "int" | .abs => "abs" | .max => "max" | .min => "min" | .list => "list" | .tuple => "tuple" | .isi => "isinstance" | .sorted => "sorted" | .sum => "sum"
def bltCalm : Blt → Bool
  | .max => true | .min => true | .list => true | .sorted => true | .sum => true | _ => false
def tyOk (n : String) : Bool := n == "int" || n == "bool" || n == "str" || n == "list" || n == "tuple" || n == "dict"
def bmNm : Bm → Str
  | .none => "" | .append => "append" | .extend => "extend" | .pop => "pop" | .reverse => "reverse" | .clear => "clear" | .remove => "remove" | .count => "count" | .get => "get"
def bmIs : Bm → Bool
  | .none => true | _ => false
/-- no call without arguments of a name ahead of a dot -/
def baseOk : Expr → Bool
  | .Call (.Name _ _) [] [] _ => false
  | _ => true
def noSlice : Expr → Bool
  | .Slice .. => false
  | _ => true
/-- the places of a target of names alone -/
def ntOk (c : Ck) : Nt → Expr → Bool
  | .one i, .Name y _ => decide (c.N[i]? = some y) && c.loc y
  | .many is, .Tuple xs _ _ => decide (is.length = xs.length) && (is.zip xs).all fun p => match p.2 with | .Name y _ => decide (c.N[p.1]? = some y) && c.loc y | _ => false
  | .nest i is, .Tuple [.Name z _, .Tuple xs _ _] _ _ => decide (c.N[i]? = some z) && c.loc z && decide (is.length = xs.length) && (is.zip xs).all fun p => match p.2 with | .Name y _ => decide (c.N[p.1]? = some y) && c.loc y | _ => false
  | _, _ => false
def seqOk : Expr → Option (List Expr)
  | .ListComp .. => none | .SetComp .. => none | .DictComp .. => none | .Set .. => none | .Starred .. => none | .Tuple .. => none
  | x => some [x]
def rngOk (c : Ck) (x : Expr) : Option (List Expr) := match x with
  | .Call (.Name y _) ys [] _ => if decide (y = ("range" : Str)) && c.gl y && c.T.blt y && (decide (ys.length = 1) || decide (ys.length = 2)) then some ys else none
  | _ => none
def isTup : Expr → Bool
  | .Tuple .. => true
  | _ => false
def enumOk (c : Ck) (tg x : Expr) : Option (List Expr) := match x with
  | .Call (.Name y _) [a] [] _ => if decide (y = ("enumerate" : Str)) && c.gl y && c.T.blt y && isTup tg then some [a] else none
  | _ => none
/-- d.items(), d.values() -/
def viewOk (nm : Str) (x : Expr) : Option (List Expr) := match x with
  | .Call (.Attribute e m ap) [] [] cp => if decide (m = nm) && baseOk e && (ap.endLine == cp.line) then some [e] else none
  | _ => none
def iterOk (c : Ck) (tg : Expr) : Ik → Expr → Option (List Expr)
  | .seq => seqOk
  | .rng => rngOk c
  | .enum => enumOk c tg
  | .items => fun x => if isTup tg then viewOk "items" x else none
  | .vals => viewOk "values"
/-- the block's own names, with their places -/
def ownOf (N : List Str) (vs : List Nat) : List (Str × Nat) := vs.map fun i => (N.getD i "", i)
def Ck.blk (c : Ck) (names : List (Str × NameKind)) : Ck := ⟨c.N, names, c.T, c.k, c.calm⟩
def blkD (c : Ck) (scope : Scope) (own : List (Str × Nat)) : Bool :=
  (match scope.kind with | .function => true | _ => false) && (scope.names.all fun y => decide (scope.names.lookup y.1 = some y.2)) && (own.all fun p => decide (c.N[p.2]? = some p.1)) &&
    (scope.names.all fun y => match y.2 with
      | .free => c.cap y.1
      | .local => decide (y.1 ∈ own.map (·.1)) || decide (y.1 ∉ c.N)
      | .cell => decide (y.1 ∈ own.map (·.1)) || decide (y.1 ∉ c.N)
      | _ => true)
def kwVals (ks : List Keyword) : List Expr := ks.map fun k => match k with | ⟨_, e, _⟩ => e
def kwNames (ks : List Keyword) : List (Option Str) := ks.map fun k => match k with | ⟨n, _, _⟩ => n
def partOk : Option Expr → List Expr
  | none => []
  | some e => [e]
section
mutual
def okE : Ck → E → Expr → Bool
  | c, .var i, e => match e with
    | .Name x _ => decide (c.N[i]? = some x) && c.vis x && plainName x
    | _ => false
  | c, .con x, e => match e with
    | .Name y _ => decide (x = y) && c.gl x && plainName x
    | _ => false
  | c, .ty n, e => match e with
    | .Name y _ => decide (Str.ofString n = y) && c.gl y && plainName y && tyOk n && c.T.blt y
    | _ => false
  | c, .int i, e => match e with
    | .Constant (.int j) _ _ => decide (i = j)
    | _ => false
  | c, .bl b, e => match e with
    | .Constant (.bool j) _ _ => decide (b = j)
    | _ => false
  | c, .non, e => match e with
    | .Constant .none _ _ => true
    | _ => false
  | c, .str x, e => match e with
    | .Constant (.str y) _ _ => decide (x = y)
    | _ => false
  | c, .tup es, e => match e with
    | .Tuple xs _ _ => okA c es xs
    | _ => false
  | c, .lst es, e => match e with
    | .List xs _ => okA c es xs
    | _ => false
  | c, .bin o a b, e => match e with
    | .BinOp x p y _ => opOk o p && okE c a x && okE c b y
    | _ => false
  | c, .neg a, e => match e with
    | .UnaryOp .USub x _ => okE c a x
    | _ => false
  | c, .cmp o a b, e => match e with
    | .Compare x [p] [y] _ => cpOk o p && okE c a x && okE c b y
    | _ => false
  | c, .chain o o' a b d, e => match e with
    | .Compare x [p, p'] [y, z] _ => cpOk o p && cpOk o' p' && okE c a x && okE c b y && okE c d z
    | _ => false
  | c, .and es, e => match e with
    | .BoolOp .And xs _ => okA c es xs
    | _ => false
  | c, .or es, e => match e with
    | .BoolOp .Or xs _ => okA c es xs
    | _ => false
  | c, .not a, e => match e with
    | .UnaryOp .Not x _ => okE c a x
    | _ => false
  | c, .ife a b d, e => match e with
    | .IfExp x y z _ => okE c a x && okE c b y && okE c d z
    | _ => false
  | c, .fld a f, e => match e with
    | .Attribute x g _ => c.calm && decide (f = g) && baseOk x && okE c a x && (match c.T.prop f with | some lv => decide (lv + 1 ≤ c.k) | none => true)
    | _ => false
  | c, .ix a b, e => match e with
    | .Subscript x y _ => noSlice y && okE c a x && okE c b y
    | _ => false
  | c, .call x es, e => match e with
    | .Call (.Name y _) ys [] _ => c.calm && decide (x = y) && c.gl x && plainName x && okA c es ys && (match c.T.fn x with | some (lv, n) => decide (lv ≤ c.k) && decide (n = es.len) | none => false)
    | _ => false
  | c, .make x es, e => match e with
    | .Call (.Name y _) ys [] _ => c.calm && decide (x = y) && c.gl x && plainName x && okA c es ys && (match c.T.cls x with | some (lv, n) => decide (lv + 1 ≤ c.k) && decide (n = es.len) | none => false)
    | _ => false
  | c, .blt b es, e => match e with
    | .Call (.Name y _) ys [] _ => decide (bltNm b = y) && c.gl y && plainName y && c.T.blt y && okA c es ys && decide (0 < es.len) && (!bltCalm b || c.calm)
    | _ => false
  | c, .meth a m b es, e => match e with
    | .Call (.Attribute x g ap) ys [] p => c.calm && decide (m = g) && baseOk x && okE c a x && okA c es ys && decide (es.len < 29) && (ap.endLine == p.line) && (bmIs b || decide (bmNm b = m)) &&
      (match c.T.meth m with | some (lv, n) => decide (lv ≤ c.k) && decide (n = es.len) | none => true)
    | _ => false
  | c, .lc vs g k is cs el, e => match e with
    | .ListComp x [⟨t, i, ifs, a⟩] scope _ => c.calm && decide (a = 0) && blkD c scope (ownOf c.N vs) && (g.slots.all fun j => decide (j ∈ vs)) && ntOk (c.blk scope.names) g t && okE (c.blk scope.names) el x && okA (c.blk scope.names) cs ifs && decide (cs.len ≤ 1) &&
      (match iterOk c t k i with | some ys => okA c is ys | none => false)
    | _ => false
  | _, .dnew, e => match e with
    | .Dict [] [] _ => true
    | _ => false
  | c, .olen a, e => match e with
    | .Call (.Name y _) [x] [] _ => c.calm && decide (y = ("len" : Str)) && c.gl y && c.T.blt y && okE c a x && (match c.T.meth "__len__" with | some (lv, n) => decide (lv + 1 ≤ c.k) && decide (n = 0) | none => false)
    | _ => false
  | c, .lsRg es, e => match e with
    | .Call (.Name y _) [.Call (.Name z _) ys [] _] [] _ => c.calm && decide (y = ("list" : Str)) && decide (z = ("range" : Str)) && c.gl y && c.T.blt y && c.gl z && c.T.blt z && okA c es ys && (decide (es.len = 1) || decide (es.len = 2))
    | _ => false
  | c, .minv a, e => match e with
    | .Call (.Name y _) [.Call (.Attribute x m ap) [] [] mp] [] _ => c.calm && decide (y = ("min" : Str)) && decide (m = ("values" : Str)) && c.gl y && c.T.blt y && baseOk x && (ap.endLine == mp.line) && okE c a x
    | _ => false
  | c, .mkw a m es ks vs, e => match e with
    | .Call (.Attribute x g ap) ys kws p => c.calm && decide (m = g) && baseOk x && okE c a x && okA c es ys && okA c vs (kwVals kws) && decide (kwNames kws = ks.map some) && decide (0 < es.len) && decide (es.len + ks.length < 28) && (ap.endLine == p.line) &&
      (match c.T.kmeth m with | some (lv, n, _, kss) => decide (lv ≤ c.k) && decide (n = es.len) && decide (ks ∈ kss) | none => false)
    | _ => false
  | c, .lcall i es, e => match e with
    | .Call (.Name y _) ys [] _ => c.calm && decide (c.N[i]? = some y) && c.vis y && plainName y && okA c es ys && decide (0 < es.len) && (match c.T.lcl with | some (lv, n) => decide (lv ≤ c.k) && decide (n = es.len) | none => false)
    | _ => false
  | c, .gdx x a, e => match e with
    | .Subscript (.Name y _) b _ => decide (x = y) && c.gl y && plainName y && noSlice b && okE c a b
    | _ => false
  | c, .isx i x, e => match e with
    | .Call (.Name w _) [.Name y _, .Name z _] [] _ => !c.calm && decide (w = ("isinstance" : Str)) && c.gl w && c.T.blt w && decide (c.N[i]? = some y) && c.vis y && plainName y && decide (x = z) && c.gl z && plainName z
    | _ => false
  | c, .disp es, e => match e with
    | .Dict keys values _ => keys.all (·.isSome) && decide (keys.length = values.length) && !keys.isEmpty && decide (keys.length ≤ 15) && okA c es (weave keys values)
    | _ => false
  | c, .dc vs g k is cs ke ve, e => match e with
    | .DictComp x y [⟨t, i, ifs, a⟩] scope _ => c.calm && decide (a = 0) && blkD c scope (ownOf c.N vs) && (g.slots.all fun j => decide (j ∈ vs)) && ntOk (c.blk scope.names) g t && okE (c.blk scope.names) ke x && okE (c.blk scope.names) ve y && okA (c.blk scope.names) cs ifs && decide (cs.len ≤ 1) &&
      (match iterOk c t k i with | some ys => okA c is ys | none => false)
    | _ => false
  | c, .sl a lo hi, e => match e with
    | .Subscript x (.Slice l h none _) _ => okE c a x && okA c lo (partOk l) && okA c hi (partOk h)
    | _ => false
def okA : Ck → Es → List Expr → Bool
  | c, .nil, xs => xs.isEmpty
  | c, .cons e r, xs => match xs with
    | x :: ys => okE c e x && okA c r ys
    | [] => false
end
end
/-- what a place in the program gives -/
structure XOk (G : Glob) (c : Ck) (X : Cx) (W : WX) : Prop where
  N : X.N = c.N
  nd : X.N.Nodup
  vis : ∀ x, c.vis x = true → Vis X.env.scope x
  gl : ∀ x, c.gl x = true → Gl X x
  loc : ∀ x, c.loc x = true → Loc X.env.scope x ∧ (X.fn x = true ∨ X.env.scope.names.lookup x = some .local)
  cap : ∀ x, c.cap x = true → X.env.scope.names.lookup x = some .cell ∨ X.env.scope.names.lookup x = some .free
  calm : c.calm = true → X.calm = true
  room : c.calm = true → Room c.k X.A
  un : X.A.units + 64 < cLine
  hot : c.calm = false → ∀ a C, G.hot = some (a, C) → ExcC X.K C → CallR X (.builtin "isinstance") (rIsE X.K C a)
  tk : Takes X W
  gok : GOk G c.T c.k X.prog X.w X.K X.mg X.base
  own : PassesOwn (model X.prog X.w) X.A X.env X.xe
  prp : ∀ C f sp, G.prop C f = some sp → (c.T.prop f).isSome = true

theorem okE_star {c : Ck} : ∀ (e : E) (x : Expr) (p : Pos), okE c e (.Starred x p) = false := by
  intro e x p; cases e <;> rfl
theorem star_of {c : Ck} {e : E} {x : Expr} {r : List Expr} {env : Env} (h : okE c e x = true) : starEach (x :: r) env = (false, eval x env) :: starEach r env := by
  cases x <;> first | rfl | (rw [okE_star] at h; cases h)
theorem starA {c : Ck} : ∀ (es : Es) (xs : List Expr) (env : Env), okA c es xs = true → starEach xs env = xs.map fun x => (false, eval x env)
  | .nil, xs, env, h => by
    cases xs with
    | nil => rfl
    | cons => cases h
  | .cons e r, xs, env, h => by
    cases xs with
    | nil => cases h
    | cons x ys =>
      have h : (okE c e x && okA c r ys) = true := h
      rw [Bool.and_eq_true] at h
      rw [star_of h.1, starA r ys env h.2]; rfl
theorem lenA {c : Ck} : ∀ (es : Es) (xs : List Expr), okA c es xs = true → xs.length = es.len
  | .nil, xs, h => by
    cases xs with
    | nil => rfl
    | cons => cases h
  | .cons e r, xs, h => by
    cases xs with
    | nil => cases h
    | cons x ys =>
      have h : (okE c e x && okA c r ys) = true := h
      rw [Bool.and_eq_true] at h
      show ys.length + 1 = r.len + 1
      rw [lenA r ys h.2]
theorem plain_backTo {pos : Pos} {env : Env} : ∀ xs : List Expr, (backTo pos (xs.map fun x => (false, eval x env))).any (·.1) = false
  | [] => rfl
  | _ :: r => plain_backTo r
theorem plain_form {pos : Pos} {env : Env} : ∀ xs : List Expr, (backTo pos (xs.map fun x => (false, eval x env))).all (!·.1) = true
  | [] => rfl
  | _ :: r => plain_form r
theorem form_of {c : Ck} {es : Es} {xs : List Expr} {pos : Pos} {env : Env} (h : okA c es xs = true) (hl : es.len < 29) : methodCallForm (xs.length + 0) (backTo pos (starEach xs env)) (backToKw pos (keywordEach [] env)) = true := by
  rw [starA es xs env h]
  unfold methodCallForm
  rw [plain_form]
  show (true && true && decide (xs.length + 0 + 0 < 30)) = true
  rw [lenA es xs h]
  simp only [Bool.and_self, Bool.true_and, decide_eq_true_eq]; omega
theorem base_of {x : Expr} {f : Str} {env : Env} (h : baseOk x = true) : ∀ w, attributeBase x f env w = w := by
  intro w
  cases x with
  | Call g as ks p =>
    cases g with
    | Name y q =>
      cases as with
      | nil =>
        cases ks with
        | nil => cases h
        | cons => rfl
      | cons => rfl
    | _ => rfl
  | _ => rfl
theorem plain_of {x : Str} (h : plainName x = true) : (x == ("__debug__" : Str)) = false ∧ (x == ("__classdict__" : Str)) = false ∧ x ≠ "__name__" := by
  unfold plainName at h
  simp only [Bool.and_eq_true, Bool.not_eq_true'] at h
  exact ⟨h.1.1, h.1.2, fun z => by rw [z] at h; exact absurd h.2 (by decide)⟩
theorem ty_boot {n : String} (h : tyOk n = true) : bootBuiltins (Str.ofString n) = some (.type n) := by
  unfold tyOk at h
  simp only [Bool.or_eq_true, beq_iff_eq] at h
  rcases h with ((((h | h) | h) | h) | h) | h <;> subst h <;> decide +kernel
end LL

namespace LL
open PySem L2

theorem pe_false {X : Cx} {W : WX} {e : Expr} : PE X e (upE X.K W wFalse) := ⟨fun _ _ _ _ _ _ ⟨_, _, _, _, _, _, _, _, q, _⟩ => q.elim⟩
theorem pt_false {X : Cx} {W : WX} {e : Expr} : PT X e (upT X.K W fun _ _ _ _ => False) := ⟨fun _ _ _ _ _ _ ⟨_, _, _, _, _, _, _, _, q, _⟩ => q.elim⟩
theorem pw_false {X : Cx} {W : WX} {e : Expr} : PW X e (upT X.K W fun _ _ _ _ => False) := ⟨fun _ _ _ _ _ _ _ ⟨_, _, _, _, _, _, _, _, q, _⟩ => q.elim⟩
theorem le_ex {X : Cx} {W : WX} {e : Expr} {α : Type} {f : α → LTE} (h : ∀ a, PE X e (upE X.K W (f a))) : PE X e (upE X.K W fun s h Q XL => ∃ a, f a s h Q XL) :=
  ⟨fun pins s σ H Q I ⟨m, h', ls, QL, XL, e1, r, rs, ⟨a, q⟩, c, ce⟩ => (h a).run pins s σ H Q I ⟨m, h', ls, QL, XL, e1, r, rs, q, c, ce⟩⟩
theorem le_and_ {X : Cx} {W : WX} {e : Expr} {p : Prop} {f : LTE} (h : p → PE X e (upE X.K W f)) : PE X e (upE X.K W fun s h Q XL => p ∧ f s h Q XL) :=
  ⟨fun pins s σ H Q I ⟨m, h', ls, QL, XL, e1, r, rs, ⟨a, q⟩, c, ce⟩ => (h a).run pins s σ H Q I ⟨m, h', ls, QL, XL, e1, r, rs, q, c, ce⟩⟩
theorem opOk.of {X : Cx} : ∀ {o : Op} {p : Operator}, opOk o p = true → OpR X (binaryOp p) (upR2 X.K (opR o))
  | .add, p, h => by cases p <;> first | (cases h; done) | exact lo_add
  | .sub, p, h => by cases p <;> first | (cases h; done) | exact li_sub
  | .mul, p, h => by cases p <;> first | (cases h; done) | exact li_mul
  | .fdiv, p, h => by cases p <;> first | (cases h; done) | exact li_fdiv
  | .mod, p, h => by cases p <;> first | (cases h; done) | exact li_mod
  | .pow, p, h => by cases p <;> first | (cases h; done) | exact li_pow
theorem cpOk.of {X : Cx} (hu : X.A.units + 64 < cLine) : ∀ {o : Cp} {p : CmpOp}, cpOk o p = true → OpR X (compareOp p) (upR2 X.K (cpR o))
  | .eq, p, h => by cases p <;> first | (cases h; done) | exact li_eq hu
  | .ne, p, h => by cases p <;> first | (cases h; done) | exact li_ne hu
  | .lt, p, h => by cases p <;> first | (cases h; done) | exact li_cmp op_lt
  | .le, p, h => by cases p <;> first | (cases h; done) | exact li_cmp op_le
  | .gt, p, h => by cases p <;> first | (cases h; done) | exact li_cmp op_gt
  | .ge, p, h => by cases p <;> first | (cases h; done) | exact li_cmp op_ge
  | .is, p, h => by cases p <;> first | (cases h; done) | exact li_isB
  | .isn, p, h => by cases p <;> first | (cases h; done) | exact li_notB
  | .isin, p, h => by cases p <;> first | (cases h; done) | exact li_in hu
  | .nin, p, h => by cases p <;> first | (cases h; done) | exact li_nin hu
theorem okE_set {c : Ck} : ∀ (e : E) (xs : List Expr) (k : Nat) (p : Pos), okE c e (.Set xs k p) = false := by
  intro e xs k p; cases e <;> rfl
theorem okMark {c : Ck} {e : E} {x : Expr} (h : okE c e x = true) (p : CmpOp) : behindInMarks p x = false := by
  cases x <;> first | rfl | (rw [okE_set] at h; cases h)
theorem bm_of {X : Cx} {m : Str} (hu : X.A.units + 64 < cLine) : ∀ (b : Bm) (n : Nat) (r : LRM), (bmIs b || decide (bmNm b = m)) = true → lstM b n = some r → BM X "list" m r
  | .none, n, r, _, e => by cases n with
    | zero => cases e
    | succ n => cases n <;> cases e
  | .append, n, r, h, e => by
    obtain rfl : bmNm .append = m := of_decide_eq_true (by simpa [bmIs] using h)
    match n, e with
    | 1, e => cases e; exact ⟨_, PySem.F.plainAttrs_list, PySem.F.slot_list_append, PySem.F.type_list_append, lm_append⟩
  | .extend, n, r, h, e => by
    obtain rfl : bmNm .extend = m := of_decide_eq_true (by simpa [bmIs] using h)
    match n, e with
    | 1, e => cases e; exact ⟨_, PySem.F.plainAttrs_list, PySem.F.slot_list_extend, PySem.F.type_list_extend, lm_extend⟩
  | .pop, n, r, h, e => by
    obtain rfl : bmNm .pop = m := of_decide_eq_true (by simpa [bmIs] using h)
    match n, e with
    | 0, e => cases e; exact ⟨_, PySem.F.plainAttrs_list, PySem.F.slot_list_pop, PySem.F.type_list_pop, lm_pop⟩
    | 1, e => cases e; exact ⟨_, PySem.F.plainAttrs_list, PySem.F.slot_list_pop, PySem.F.type_list_pop, lm_popAt⟩
  | .reverse, n, r, h, e => by
    obtain rfl : bmNm .reverse = m := of_decide_eq_true (by simpa [bmIs] using h)
    match n, e with
    | 0, e => cases e; exact ⟨_, PySem.F.plainAttrs_list, PySem.F.slot_list_reverse, PySem.F.type_list_reverse, lm_reverse⟩
  | .clear, n, r, h, e => by
    obtain rfl : bmNm .clear = m := of_decide_eq_true (by simpa [bmIs] using h)
    match n, e with
    | 0, e => cases e; exact ⟨_, PySem.F.plainAttrs_list, PySem.F.slot_list_clear, PySem.F.type_list_clear, lm_clear⟩
  | .remove, n, r, h, e => by
    obtain rfl : bmNm .remove = m := of_decide_eq_true (by simpa [bmIs] using h)
    match n, e with
    | 1, e => cases e; exact ⟨_, PySem.F.plainAttrs_list, PySem.F.slot_list_remove, PySem.F.type_list_remove, lm_remove hu⟩
  | .count, n, r, h, e => by
    obtain rfl : bmNm .count = m := of_decide_eq_true (by simpa [bmIs] using h)
    match n, e with
    | 1, e => cases e; exact ⟨_, PySem.F.plainAttrs_list, PySem.F.slot_list_count, PySem.F.type_list_count, lm_count hu⟩
  | .get, n, r, _, e => by cases n with
    | zero => cases e
    | succ n => cases n <;> cases e
theorem dm_of {X : Cx} {m : Str} (hu : X.A.units + 64 < cLine) : ∀ (b : Bm) (n : Nat) (r : LRM), (bmIs b || decide (bmNm b = m)) = true → dctM b n = some r → BM X "dict" m r
  | .get, n, r, h, e => by
    obtain rfl : bmNm .get = m := of_decide_eq_true (by simpa [bmIs] using h)
    cases e; exact ⟨_, PySem.F.plainAttrs_dict, PySem.F.slot_dict_get, PySem.F.type_dict_get, lm_get (by omega)⟩
  | .pop, n, r, h, e => by
    obtain rfl : bmNm .pop = m := of_decide_eq_true (by simpa [bmIs] using h)
    cases e; exact ⟨_, PySem.F.plainAttrs_dict, PySem.F.slot_dict_pop, PySem.F.type_dict_pop, lm_popd (by omega)⟩
  | .none, n, r, _, e => nomatch e
  | .append, n, r, _, e => nomatch e
  | .extend, n, r, _, e => nomatch e
  | .reverse, n, r, _, e => nomatch e
  | .clear, n, r, _, e => nomatch e
  | .remove, n, r, _, e => nomatch e
  | .count, n, r, _, e => nomatch e
section
variable {G : Glob} {c : Ck} {X : Cx} {W : WX}
theorem bltOk.of (b : Blt) (hc : bltCalm b = true → X.calm = true) {y x : Expr} {es : List Expr} {n : Nat} {tas : LTA} {p pos : Pos} (hg : Gl X (bltNm b)) (hm : X.mg (bltNm b) = none) (ha : PA X (x :: es) (upA X.K W n tas))
    (he : starEach (x :: es) X.env = (false, eval x X.env) :: starEach es X.env) (hpl : (backTo pos (starEach es X.env)).any (·.1) = false) : PE X (.Call (.Name (bltNm b) p) (x :: es) [] pos) (upE X.K W (wCB (bltR b) tas)) := by
  cases b
  · exact le_cb li_len hg hm PySem.boot_len ha (by decide) (by decide) he hpl
  · exact le_ct li_int hg hm (by decide +kernel) ha (by decide) (by decide) he hpl
  · exact le_cb li_abs hg hm (by decide +kernel) ha (by decide) (by decide) he hpl
  · exact le_cb (li_maxL (hc rfl)) hg hm (by decide +kernel) ha (by decide) (by decide) he hpl
  · exact le_cb (li_minL (hc rfl)) hg hm (by decide +kernel) ha (by decide) (by decide) he hpl
  · exact le_ct (li_listC (hc rfl)) hg hm (by decide +kernel) ha (by decide) (by decide) he hpl
  · exact le_ct li_tuple hg hm (by decide +kernel) ha (by decide) (by decide) he hpl
  · exact le_cb li_isi hg hm (by decide +kernel) ha (by decide) (by decide) he hpl
  · exact le_cb (li_sorted (hc rfl)) hg hm (by decide +kernel) ha (by decide) (by decide) he hpl
  · exact le_cb (li_sum (hc rfl)) hg hm (by decide +kernel) ha (by decide) (by decide) he hpl
theorem XOk.hu (o : XOk G c X W) : X.A.units + 1 < cLine := by have := o.un; omega
theorem XOk.hu64 (o : XOk G c X W) : X.A.units + 64 < cLine := o.un
theorem plainSl {b : Expr} (h : noSlice b = true) : PlainIx b := by
  intro o i
  cases b <;> first | rfl | cases h
/-- what is shown of a piece of text -/
def Snd (G : Glob) (c : Ck) (X : Cx) (W : WX) (e : E) (x : Expr) : Prop := PE X x (upE X.K W (wpE G c.T e)) ∧ PT X x (upT X.K W (wpT G c.T e))
def SndA (G : Glob) (c : Ck) (X : Cx) (W : WX) (es : Es) (xs : List Expr) : Prop := PA X xs (upA X.K W es.len (sems G c.T es).a) ∧
  ∀ pos, (PE X (.BoolOp .And xs pos) (upE X.K W (sems G c.T es).av) ∧ PE X (.BoolOp .Or xs pos) (upE X.K W (sems G c.T es).ov)) ∧ PW X (.BoolOp .And xs pos) (upT X.K W (sems G c.T es).at_) ∧ PW X (.BoolOp .Or xs pos) (upT X.K W (sems G c.T es).ot)
/-- of one alone -/
def SndO (G : Glob) (c : Ck) (X : Cx) (W : WX) (es : Es) (xs : List Expr) : Prop := ∀ x, xs = [x] → PE X x (upE X.K W (sems G c.T es).av) ∧ PT X x (upT X.K W (sems G c.T es).at_)
/-- of each -/
inductive SndL (G : Glob) (c : Ck) (X : Cx) (W : WX) : Es → List Expr → Prop
  | nil : SndL G c X W .nil []
  | cons {e : E} {x : Expr} {r : Es} {xs : List Expr} (h : Snd G c X W e x) (t : SndL G c X W r xs) : SndL G c X W (.cons e r) (x :: xs)
theorem snd_of {e : E} {x : Expr} {t : LTE} (ht : sem G c.T e = .of t) (h : PE X x (upE X.K W t)) (he : ∀ whole, isTrue x X.env whole = (do let v ← whole; standAt x.pos; holding [v] (truthy v))) : Snd G c X W e x := by
  unfold Snd wpE wpT
  rw [ht]
  exact ⟨h, lt_tru h he⟩
theorem relS_lk {sc : Scope} {x : Str} : ∀ {names : List (Str × NameKind)}, (names.map fun (n, k) => if (k == NameKind.free && sc.kind == .function && sc.names.lookup n == some .cell) then (n, NameKind.cell) else (n, k)).lookup x =
    (names.lookup x).map fun k => if (k == NameKind.free && sc.kind == .function && sc.names.lookup x == some .cell) then NameKind.cell else k
  | [] => rfl
  | (n, k) :: r => by
    show List.lookup x ((if (k == NameKind.free && sc.kind == .function && sc.names.lookup n == some .cell) = true then (n, NameKind.cell) else (n, k)) :: (r.map _)) = _
    by_cases hc : (k == NameKind.free && sc.kind == .function && sc.names.lookup n == some .cell) = true
    · rw [if_pos hc]
      cases e : (x == n) with
      | true =>
        have := eq_of_beq e
        subst this
        simp only [List.lookup_cons, e, Option.map_some]
        rw [if_pos hc]
      | false =>
        simp only [List.lookup_cons, e]
        exact relS_lk
    · rw [if_neg hc]
      cases e : (x == n) with
      | true =>
        have := eq_of_beq e
        subst this
        simp only [List.lookup_cons, e, Option.map_some]
        rw [if_neg hc]
      | false =>
        simp only [List.lookup_cons, e]
        exact relS_lk
theorem kept_relS {sc : Scope} {names : List (Str × NameKind)} {x : Str} {k : NameKind} (h : names.lookup x = some k) (hk : k ≠ .free) :
    (names.map fun (n, k) => if (k == NameKind.free && sc.kind == .function && sc.names.lookup n == some .cell) then (n, NameKind.cell) else (n, k)).lookup x = some k := lookup_relS_keep hk h
theorem free_relS {sc : Scope} {names : List (Str × NameKind)} {x : Str} (h : names.lookup x = some .free) :
    (names.map fun (n, k) => if (k == NameKind.free && sc.kind == .function && sc.names.lookup n == some .cell) then (n, NameKind.cell) else (n, k)).lookup x = some .cell ∨
    (names.map fun (n, k) => if (k == NameKind.free && sc.kind == .function && sc.names.lookup n == some .cell) then (n, NameKind.cell) else (n, k)).lookup x = some .free := by
  rw [relS_lk, h, Option.map_some]
  split
  · exact .inl rfl
  · exact .inr rfl
theorem blk_ok (o : XOk G c X W) {scope : Scope} (hcalm : c.calm = true) (s : Shared) (H : Hp) (C : Addr) (cl : List (Str × Addr)) (fp : List Addr) : XOk G (c.blk scope.names) (X.blk s H scope (compEnvC scope cl C X.env) fp) noX where
  N := o.N
  nd := o.nd
  vis := fun x hx => by
    unfold Ck.vis Ck.blk at hx
    split at hx
    · rename_i e; exact .inl (kept_relS e (by decide))
    · rename_i e; exact .inr (.inl (kept_relS e (by decide)))
    · rename_i e; exact .inr (free_relS e)
    · cases hx
  gl := fun x hx => by
    unfold Ck.gl Ck.blk at hx
    split at hx
    · rename_i e; exact kept_relS e (by decide)
    · cases hx
  loc := fun x hx => by
    unfold Ck.loc Ck.blk at hx
    split at hx
    · rename_i e; exact ⟨.inl (kept_relS e (by decide)), .inr (kept_relS e (by decide))⟩
    · rename_i e; exact ⟨.inr (kept_relS e (by decide)), .inl (by show (scope.names.lookup x == some .cell) = true; rw [e]; rfl)⟩
    · cases hx
  cap := fun x hx => by
    unfold Ck.cap Ck.blk at hx
    split at hx
    · rename_i e; exact .inl (kept_relS e (by decide))
    · rename_i e; exact free_relS e
    · cases hx
  calm := o.calm
  room := o.room
  un := o.un
  hot := fun z => absurd (hcalm.symm.trans z) (by decide)
  tk := fun u s' ⟨_, _, _, _, _, _, _, _, _, _, _, _, _, _, _, _, w⟩ => w.elim
  gok := o.gok
  own := PassesOwn.never
  prp := o.prp
theorem blkOk_of (o : XOk G c X W) {scope : Scope} {own : List (Str × Nat)} (h : blkD c scope own = true) : BlkOk X.N X.env.scope scope own := by
  unfold blkD at h
  simp only [Bool.and_eq_true, List.all_eq_true, decide_eq_true_eq] at h
  obtain ⟨⟨⟨h1, h2⟩, h3⟩, h4⟩ := h
  rw [← o.N] at h3 h4
  refine ⟨?_, h2, h3, fun y hy e => ?_, fun y hy e => ?_⟩
  · split at h1
    · assumption
    · cases h1
  · have q := h4 y hy
    simp only [e] at q
    exact o.cap _ q
  · have q := h4 y hy
    rcases e with e | e <;> (simp only [e, Bool.or_eq_true, decide_eq_true_eq] at q; exact q)
theorem pgs_nts (o : XOk G c X W) : ∀ (is : List Nat) (xs : List Expr), is.length = xs.length → ((is.zip xs).all fun p => match p.2 with | .Name y _ => decide (c.N[p.1]? = some y) && c.loc y | _ => false) = true →
    PGs X xs (gMany is) ∧ assignEach xs X.env = xs.map fun x => (false, assign x X.env)
  | [], xs, hl, h => by
    cases xs with
    | nil => exact ⟨pgs_nil, rfl⟩
    | cons => simp at hl
  | i :: is, xs, hl, h => by
    cases xs with
    | nil => simp at hl
    | cons x xs =>
      rw [List.zip_cons_cons, List.all_cons, Bool.and_eq_true] at h
      obtain ⟨h1, h2⟩ := h
      obtain ⟨p, e⟩ := pgs_nts o is xs (by simpa using hl) h2
      cases x <;> first | cases h1; done | skip
      simp only [Bool.and_eq_true, decide_eq_true_eq] at h1
      obtain ⟨l1, l2⟩ := o.loc _ h1.2
      refine ⟨pgs_cons (pg_name o.nd (by rw [o.N]; exact h1.1) l1 l2) p rfl, ?_⟩
      show (false, _) :: assignEach xs X.env = _
      rw [e]
      rfl
theorem pg_nt (o : XOk G c X W) {g : Nt} {t : Expr} (h : ntOk c g t = true) (hc : c.calm = true) : PG X t (gNt X.K g) := by
  unfold ntOk at h
  split at h
  · simp only [Bool.and_eq_true, decide_eq_true_eq] at h
    obtain ⟨l1, l2⟩ := o.loc _ h.2
    exact pg_name o.nd (by rw [o.N]; exact h.1) l1 l2
  · rename_i is xs _ _
    rw [Bool.and_eq_true, decide_eq_true_eq] at h
    obtain ⟨p, e⟩ := pgs_nts o is xs h.1 h.2
    exact pg_tup (o.calm hc) p (by rw [e, List.length_map, h.1]) (by
      rw [e]
      have : ∀ ys : List Expr, (ys.map fun x => (false, assign x X.env)).findIdx? (·.1) = none := by
        intro ys
        induction ys with
        | nil => rfl
        | cons y ys ih => simp [List.findIdx?_cons, ih]
      exact this xs)
  · rename_i i is z _ xs _ _ _ _
    simp only [Bool.and_eq_true, decide_eq_true_eq] at h
    obtain ⟨⟨⟨h1, h2⟩, h3⟩, h4⟩ := h
    obtain ⟨l1, l2⟩ := o.loc _ h2
    obtain ⟨p, e⟩ := pgs_nts o is xs h3 h4
    have none_ : ∀ ys : List Expr, (ys.map fun x => (false, assign x X.env)).findIdx? (·.1) = none := by
      intro ys
      induction ys with
      | nil => rfl
      | cons y ys ih => simp [List.findIdx?_cons, ih]
    exact pg_tup (o.calm hc) (pgs_cons (pg_name o.nd (by rw [o.N]; exact h1) l1 l2) (pgs_cons (pg_tup (o.calm hc) p (by rw [e, List.length_map, h3]) (by rw [e]; exact none_ xs)) pgs_nil rfl) rfl) rfl rfl
  · cases h
theorem pts_weak {cs : List Expr} {t t' : TT} (h : PTs X cs t) (i : ∀ σ H Q, t' σ H Q → t σ H Q) : PTs X cs t' := ⟨fun pins s σ H Q I q => h.run pins s σ H Q I (i _ _ _ q)⟩
theorem pts_of (_ : XOk G c X W) {cs : Es} {xs : List Expr} (h : okA c cs xs = true) (hl : cs.len ≤ 1) (hs : SndO G c X W cs xs) : PTs X xs (upT X.K W (cs.cond (sems G c.T cs).at_)) := by
  have hx := lenA cs xs h
  cases cs with
  | nil =>
    cases xs with
    | nil => exact pts_weak pts_nil fun σ H Q ⟨m, h, s, QL, XL, e1, r, rs, q, c, ce⟩ => by subst e1; exact c m h true (Ext.refl m) r q
    | cons => cases hx
  | cons e r =>
    cases r with
    | nil =>
      match xs, hx with
      | [x], _ => exact pts_one (hs x rfl).2
    | cons => exact absurd hl (by simp [Es.len])
theorem po_of {e : Option Expr} {es : Es} (h : okA c es (partOk e) = true) (hs : SndO G c X W es (partOk e)) : PO X e (upO X.K W (es.part (sems G c.T es).av)) := by
  have hx := lenA es _ h
  cases e with
  | none =>
    cases es with
    | nil => exact lo_none
    | cons => cases hx
  | some x =>
    cases es with
    | nil => cases hx
    | cons e r => exact lo_some (hs x rfl).1
theorem star2 {is : Es} {ys : List Expr} {env : Env} (h : okA c is ys = true) {a b : Expr} (e : ys = [a, b]) : starEach [b] env = [(false, eval b env)] := by
  subst e
  cases is with
  | nil => cases h
  | cons e r =>
    have h : (okE c e a && okA c r [b]) = true := h
    rw [Bool.and_eq_true] at h
    exact starA r [b] env h.2
theorem it_ok (o : XOk G c X W) (tg : Expr) (k : Ik) {is : Es} {x : Expr} {ys : List Expr} (hy : iterOk c tg k x = some ys) (ha : PA X ys (upA X.K W is.len (sems G c.T is).a)) (h1 : ∀ z, ys = [z] → PE X z (upE X.K W (sems G c.T is).av))
    (st : starEach ys X.env = ys.map fun x => (false, eval x X.env)) (ln : ys.length = is.len) (st2 : ∀ {a b : Expr}, ys = [a, b] → starEach [b] X.env = [(false, eval b X.env)]) : PI X tg x (upIt X.K W (wIk k (sems G c.T is).a)) ∧ ∀ v, foldedSetIterable x X.env v = pure v := by
  cases k with
  | seq =>
    have e : ys = [x] ∧ ∀ v, foldedSetIterable x X.env v = pure v := by
      cases x <;> first | (cases hy; done) | (cases hy; exact ⟨rfl, fun _ => rfl⟩)
    obtain ⟨rfl, hf⟩ := e
    refine ⟨?_, hf⟩
    cases is with
    | nil => cases ln
    | cons e r =>
      cases r with
      | nil => exact lj_seq (h1 x rfl)
      | cons => cases ln
  | rng =>
    replace hy : rngOk c x = some ys := hy
    unfold rngOk at hy
    split at hy
    · rename_i y p zs pos
      split at hy
      · rename_i hc
        cases hy
        simp only [Bool.and_eq_true, decide_eq_true_eq, Bool.or_eq_true] at hc
        obtain ⟨⟨⟨rfl, h2⟩, h3⟩, h4⟩ := hc
        refine ⟨?_, fun _ => rfl⟩
        rcases h4 with h4 | h4
        · match ys, h4 with
          | [a], _ =>
            rw [← ln] at ha
            exact lj_rng1 (o.gl _ h2) (o.gok.blt _ h3) ha st
        · match ys, h4 with
          | [a, b], _ =>
            rw [← ln] at ha
            exact lj_rng2 (o.gl _ h2) (o.gok.blt _ h3) ha st (st2 rfl)
      · cases hy
    · cases hy
  | enum =>
    replace hy : enumOk c tg x = some ys := hy
    unfold enumOk at hy
    split at hy
    · rename_i y p a pos
      split at hy
      · rename_i hc
        cases hy
        simp only [Bool.and_eq_true, decide_eq_true_eq] at hc
        obtain ⟨⟨⟨rfl, h2⟩, h3⟩, h4⟩ := hc
        refine ⟨?_, fun _ => rfl⟩
        rw [← ln] at ha
        cases tg <;> first | (cases h4; done) | exact lj_enum (o.gl _ h2) (o.gok.blt _ h3) ha st
      · cases hy
    · cases hy
  | items =>
    replace hy : (if isTup tg then viewOk "items" x else none) = some ys := hy
    split at hy
    · rename_i ht
      unfold viewOk at hy
      split at hy
      · rename_i e m ap cp
        split at hy
        · rename_i hc
          cases hy
          simp only [Bool.and_eq_true, decide_eq_true_eq] at hc
          obtain ⟨⟨rfl, h2⟩, h3⟩ := hc
          refine ⟨?_, fun _ => rfl⟩
          cases is with
          | nil => cases ln
          | cons e0 r =>
            cases r with
            | nil => cases tg <;> first | (cases ht; done) | exact lj_items (h1 e rfl) (base_of h2 _) h3
            | cons => cases ln
        · cases hy
      · cases hy
    · cases hy
  | vals =>
    replace hy : viewOk "values" x = some ys := hy
    unfold viewOk at hy
    split at hy
    · rename_i e m ap cp
      split at hy
      · rename_i hc
        cases hy
        simp only [Bool.and_eq_true, decide_eq_true_eq] at hc
        obtain ⟨⟨rfl, h2⟩, h3⟩ := hc
        refine ⟨?_, fun _ => rfl⟩
        cases is with
        | nil => cases ln
        | cons e0 r =>
          cases r with
          | nil => exact lj_vals (h1 e rfl) (base_of h2 _) h3
          | cons => cases ln
      · cases hy
    · cases hy
theorem lk_ok {k : Ik} {x : Expr} {t : LTE} (h : PE X x (upE X.K W t)) : PE X x (upE X.K W (lkIf k t)) := by
  cases k <;> first | exact h | exact le_lock h
theorem alt_of {es : Es} {xs : List Expr} (h : SndL G c X W es xs) : ∀ {n : Nat}, xs.length = 2 * n → Alt X W xs (sems G c.T es).a (2 * n) := by
  intro n hl
  induction n generalizing es xs with
  | zero =>
    cases h with
    | nil => exact .nil
    | cons => simp at hl
  | succ n ih =>
    cases h with
    | nil => exfalso; simp at hl <;> omega
    | @cons e x r xs h t =>
      cases t with
      | nil => exfalso; simp at hl <;> omega
      | @cons e2 x2 r2 xs2 h2 t2 =>
        have := ih t2 (by simp at hl; omega)
        rw [show (sems G c.T (.cons e (.cons e2 r2))).a = wCons (sem G c.T e).v (wCons (sem G c.T e2).v (sems G c.T r2).a) by cases r2 <;> rfl]
        exact .cons h.1 h2.1 this
theorem weave_len : ∀ {ks : List (Option Expr)} {vs : List Expr}, ks.all (·.isSome) = true → ks.length = vs.length → (weave ks vs).length = 2 * ks.length
  | [], vs, _, h => by
    cases vs with
    | nil => rfl
    | cons => cases h
  | none :: ks, vs, h, _ => by simp at h
  | some k :: ks, [], _, h => by cases h
  | some k :: ks, v :: vs, h, hl => by
    rw [weave, List.length_cons, List.length_cons, weave_len (by simpa using h) (by simpa using hl), List.length_cons]
    omega
theorem pk_of {es : Es} {xs : List Expr} (h : SndL G c X W es xs) : ∀ {kws : List Keyword}, xs = kwVals kws → PK X kws (upA X.K W es.len (sems G c.T es).a) := by
  induction h with
  | nil =>
    intro kws e
    cases kws with
    | nil => exact lk_nil
    | cons => cases e
  | @cons e x r xs h t ih =>
    intro kws e1
    cases kws with
    | nil => cases e1
    | cons k kws =>
      obtain ⟨nm, v, p⟩ := k
      simp only [kwVals, List.map_cons, List.cons.injEq] at e1
      obtain ⟨rfl, e1⟩ := e1
      have q := lk_cons (nm := nm) (kpos := p) h.1 (ih e1)
      rw [show (sems G c.T (.cons e r)).a = wCons (sem G c.T e).v (sems G c.T r).a by cases r <;> rfl]
      exact q
theorem kw_all {kws : List Keyword} {ks : List Str} {pos : Pos} {env : Env} (h : kwNames kws = ks.map some) : (backToKw pos (keywordEach kws env)).all (·.1.isSome) = true ∧ (backToKw pos (keywordEach kws env)).filterMap (·.1) = ks ∧ (backToKw pos (keywordEach kws env)).any (·.1.isNone) = false ∧ kws.length = ks.length := by
  induction kws generalizing ks with
  | nil =>
    cases ks with
    | nil => exact ⟨rfl, rfl, rfl, rfl⟩
    | cons => cases h
  | cons k kws ih =>
    obtain ⟨nm, v, p⟩ := k
    cases ks with
    | nil => cases h
    | cons k ks =>
      simp only [kwNames, List.map_cons, List.cons.injEq] at h
      obtain ⟨rfl, h⟩ := h
      obtain ⟨h1, h2, h3, h4⟩ := ih h
      refine ⟨h1, ?_, h3, by simp [h4]⟩
      show k :: (backToKw pos (keywordEach kws env)).filterMap (·.1) = _
      rw [h2]
theorem form_ofK {es : Es} {xs : List Expr} {kws : List Keyword} {ks : List Str} {pos : Pos} {env : Env} (h : okA c es xs = true) (hk : kwNames kws = ks.map some) (hl : es.len + ks.length < 28) : methodCallForm (xs.length + kws.length) (backTo pos (starEach xs env)) (backToKw pos (keywordEach kws env)) = true := by
  obtain ⟨h1, h2, h3, h4⟩ := kw_all (pos := pos) (env := env) hk
  rw [starA es xs env h]
  unfold methodCallForm
  rw [plain_form, h1, lenA es xs h, h4]
  simp only [Bool.and_self, Bool.true_and, decide_eq_true_eq]
  split <;> omega
mutual
theorem soundE : ∀ {c : Ck} {X : Cx} {W : WX} (_ : XOk G c X W) (e : E) (x : Expr), okE c e x = true → Snd G c X W e x
  | c, X, W, o, .var i, x, h => by
    unfold okE at h
    split at h
    · simp only [Bool.and_eq_true, decide_eq_true_eq] at h
      obtain ⟨⟨h1, h2⟩, h3⟩ := h
      obtain ⟨p1, p2, p3⟩ := plain_of h3
      exact snd_of rfl (le_var (pe_var (by rw [o.N]; exact h1) (o.vis _ h2) p1 p2)) fun _ => rfl
    · cases h
  | c, X, W, o, .con y, x, h => by
    unfold okE at h
    split at h
    · simp only [Bool.and_eq_true, decide_eq_true_eq] at h
      obtain ⟨⟨rfl, h2⟩, h3⟩ := h
      obtain ⟨p1, p2, p3⟩ := plain_of h3
      refine snd_of rfl (le_ex fun v => le_and_ fun hv => ?_) fun _ => rfl
      obtain ⟨u, w, hm, rv, rl⟩ := o.gok.con _ _ hv
      exact le_c (x := v) (pe_glob (o.gl _ h2) hm rv p1) rl
    · cases h
  | c, X, W, o, .ty n, x, h => by
    unfold okE at h
    split at h
    · simp only [Bool.and_eq_true, decide_eq_true_eq] at h
      obtain ⟨⟨⟨⟨rfl, h2⟩, h3⟩, h4⟩, h5⟩ := h
      obtain ⟨p1, p2, p3⟩ := plain_of h3
      exact snd_of rfl (le_c (pe_bltn (v := .ty n) (o.gl _ h2) (o.gok.blt _ h5) (ty_boot h4) rfl p3 p1) fun _ => rfl) fun _ => rfl
    · cases h
  | c, X, W, o, .int i, x, h => by
    unfold okE at h
    split at h
    · obtain rfl := of_decide_eq_true h
      exact snd_of rfl (le_c pe_int fun _ => rfl) fun _ => rfl
    · cases h
  | c, X, W, o, .bl i, x, h => by
    unfold okE at h
    split at h
    · obtain rfl := of_decide_eq_true h
      exact snd_of rfl (le_c pe_bl fun _ => rfl) fun _ => rfl
    · cases h
  | c, X, W, o, .non, x, h => by
    unfold okE at h
    split at h
    · exact snd_of rfl (le_c pe_non fun _ => rfl) fun _ => rfl
    · cases h
  | c, X, W, o, .str i, x, h => by
    unfold okE at h
    split at h
    · obtain rfl := of_decide_eq_true h
      exact snd_of rfl (le_c pe_str fun _ => rfl) fun _ => rfl
    · cases h
  | c, X, W, o, .tup es, x, h => by
    unfold okE at h
    split at h
    · exact snd_of rfl (le_tup (soundA o es _ h).1.1) fun _ => rfl
    · cases h
  | c, X, W, o, .lst es, x, h => by
    unfold okE at h
    split at h
    · exact snd_of rfl (le_lst (soundA o es _ h).1.1) fun _ => rfl
    · cases h
  | c, X, W, o, .bin p a b, x, h => by
    unfold okE at h
    split at h
    · simp only [Bool.and_eq_true] at h
      obtain ⟨⟨h1, h2⟩, h3⟩ := h
      exact snd_of rfl (le_bin (opOk.of h1) (soundE o a _ h2).1 (soundE o b _ h3).1) fun _ => rfl
    · cases h
  | c, X, W, o, .neg a, x, h => by
    unfold okE at h
    split at h
    · exact snd_of rfl (le_un li_neg (soundE o a _ h).1) fun _ => rfl
    · cases h
  | c, X, W, o, .cmp p a b, x, h => by
    unfold okE at h
    split at h
    · simp only [Bool.and_eq_true] at h
      obtain ⟨⟨h1, h2⟩, h3⟩ := h
      exact ⟨le_cmp (cpOk.of o.hu64 h1) (soundE o a _ h2).1 (soundE o b _ h3).1 (okMark h3 _), lt_cmp (cpOk.of o.hu64 h1) (soundE o a _ h2).1 (soundE o b _ h3).1 (okMark h3 _)⟩
    · cases h
  | c, X, W, o, .chain p p' a b d, x, h => by
    unfold okE at h
    split at h
    · simp only [Bool.and_eq_true] at h
      obtain ⟨⟨⟨⟨h1, h2⟩, h3⟩, h4⟩, h5⟩ := h
      exact ⟨le_chain (cpOk.of o.hu64 h1) (cpOk.of o.hu64 h2) (soundE o a _ h3).1 (soundE o b _ h4).1 (soundE o d _ h5).1 fun x y z => pe_chain (cpOk.of o.hu64 h1) (cpOk.of o.hu64 h2) x y z (okMark h5 _),
        lt_chain (cpOk.of o.hu64 h1) (cpOk.of o.hu64 h2) (soundE o a _ h3).1 (soundE o b _ h4).1 (soundE o d _ h5).1 (okMark h5 _)⟩
    · cases h
  | c, X, W, o, .and es, x, h => by
    unfold okE at h
    split at h
    · rename_i xs pos
      obtain ⟨⟨h1, h2⟩, h3, h4⟩ := (soundA o es _ h).1.2 pos
      exact ⟨h1, h3.pt⟩
    · cases h
  | c, X, W, o, .or es, x, h => by
    unfold okE at h
    split at h
    · rename_i xs pos
      obtain ⟨⟨h1, h2⟩, h3, h4⟩ := (soundA o es _ h).1.2 pos
      exact ⟨h2, h4.pt⟩
    · cases h
  | c, X, W, o, .not a, x, h => by
    unfold okE at h
    split at h
    · exact ⟨le_not (soundE o a _ h).1, lt_not (soundE o a _ h).2⟩
    · cases h
  | c, X, W, o, .ife a b d, x, h => by
    unfold okE at h
    split at h
    · simp only [Bool.and_eq_true] at h
      obtain ⟨⟨h1, h2⟩, h3⟩ := h
      exact ⟨le_if (soundE o a _ h1).2 (soundE o b _ h2).1 (soundE o d _ h3).1, pt_false⟩
    · cases h
  | c, X, W, o, .fld a f, x, h => by
    unfold okE at h
    split at h
    · simp only [Bool.and_eq_true, decide_eq_true_eq] at h
      obtain ⟨⟨⟨⟨hcm, rfl⟩, h2⟩, h3⟩, h4⟩ := h
      refine snd_of rfl (le_fld o.gok (o.room hcm) (fun C sp gp => ?_) (soundE o a _ h3).1 (base_of h2 _)) fun _ => rfl
      have z := o.prp C f sp gp
      split at h4
      · rename_i lv e; exact ⟨lv, e, of_decide_eq_true h4⟩
      · rename_i e; rw [e] at z; cases z
    · cases h
  | c, X, W, o, .ix a b, x, h => by
    unfold okE at h
    split at h
    · simp only [Bool.and_eq_true] at h
      obtain ⟨⟨h1, h2⟩, h3⟩ := h
      exact snd_of rfl (le_ix o.hu (soundE o a _ h2).1 (soundE o b _ h3).1 (plainSl h1)) fun _ => rfl
    · cases h
  | c, X, W, o, .call y es, x, h => by
    unfold okE at h
    split at h
    · rename_i z p ys pos
      simp only [Bool.and_eq_true, decide_eq_true_eq] at h
      obtain ⟨⟨⟨⟨⟨hcm, rfl⟩, h2⟩, h3⟩, h4⟩, h5⟩ := h
      obtain ⟨p1, p2, p3⟩ := plain_of h3
      have st := starA es ys X.env h4
      have ln := lenA es ys h4
      split at h5
      · rename_i lv n e
        simp only [Bool.and_eq_true, decide_eq_true_eq] at h5
        obtain ⟨h5, rfl⟩ := h5
        obtain ⟨sp, f, e1, e2, e3, F⟩ := o.gok.fn _ _ _ e h5
        refine snd_of rfl (le_ex fun sp' => le_and_ fun es' => ?_) fun _ => rfl
        rw [e1] at es'; cases es'
        cases ys with
        | nil =>
          cases es with
          | nil => exact le_call0 o.tk F ((o.room hcm).mono h5) (o.gl _ h2) e2 e3 p1
          | cons => cases ln
        | cons y0 ys =>
          refine le_call o.tk F ((o.room hcm).mono h5) (o.gl _ h2) e2 e3 (soundA o es _ h4).1.1 p1 ?_ ?_
          · cases es with
            | nil => cases ln
            | cons e0 r =>
              have h4 : (okE c e0 y0 && okA c r ys) = true := h4
              rw [Bool.and_eq_true] at h4
              exact star_of h4.1
          · cases es with
            | nil => cases ln
            | cons e0 r =>
              have h4 : (okE c e0 y0 && okA c r ys) = true := h4
              rw [Bool.and_eq_true] at h4
              rw [starA r ys X.env h4.2]; exact plain_backTo ys
      · cases h5
    · cases h
  | c, X, W, o, .make y es, x, h => by
    unfold okE at h
    split at h
    · rename_i z p ys pos
      simp only [Bool.and_eq_true, decide_eq_true_eq] at h
      obtain ⟨⟨⟨⟨⟨hcm, rfl⟩, h2⟩, h3⟩, h4⟩, h5⟩ := h
      obtain ⟨p1, p2, p3⟩ := plain_of h3
      have ln := lenA es ys h4
      split at h5
      · rename_i lv n e
        simp only [Bool.and_eq_true, decide_eq_true_eq] at h5
        obtain ⟨h5, rfl⟩ := h5
        obtain ⟨C, sp, f, e1, e2, M, F⟩ := o.gok.cls _ _ _ e h5
        refine snd_of rfl (le_ex fun C' => le_ex fun sp' => le_and_ fun es' => ?_) fun _ => rfl
        rw [e1] at es'; cases es'
        cases ys with
        | nil =>
          cases es with
          | nil => exact le_make0 o.tk M F ((o.room hcm).mono h5) (o.gl _ h2) e2 p1
          | cons => cases ln
        | cons y0 ys =>
          refine le_make o.tk M F ((o.room hcm).mono h5) (o.gl _ h2) e2 (soundA o es _ h4).1.1 p1 ?_ ?_
          · cases es with
            | nil => cases ln
            | cons e0 r =>
              have h4 : (okE c e0 y0 && okA c r ys) = true := h4
              rw [Bool.and_eq_true] at h4
              exact star_of h4.1
          · cases es with
            | nil => cases ln
            | cons e0 r =>
              have h4 : (okE c e0 y0 && okA c r ys) = true := h4
              rw [Bool.and_eq_true] at h4
              rw [starA r ys X.env h4.2]; exact plain_backTo ys
      · cases h5
    · cases h
  | c, X, W, o, .blt b es, x, h => by
    unfold okE at h
    split at h
    · rename_i z p ys pos
      simp only [Bool.and_eq_true, decide_eq_true_eq] at h
      obtain ⟨⟨⟨⟨⟨⟨rfl, h2⟩, h3⟩, h4⟩, h5⟩, h6⟩, h7⟩ := h
      have ln := lenA es ys h5
      cases ys with
      | nil => rw [← ln] at h6; cases h6
      | cons y0 ys =>
        cases es with
        | nil => cases ln
        | cons e0 r =>
          have h8 : (okE c e0 y0 && okA c r ys) = true := h5
          rw [Bool.and_eq_true] at h8
          refine snd_of rfl (bltOk.of b (fun z => ?_) (y := y0) (o.gl _ h2) (o.gok.blt _ h4) (soundA o (.cons e0 r) _ h5).1.1 (star_of h8.1) (by rw [starA r ys X.env h8.2]; exact plain_backTo ys)) fun _ => rfl
          rw [z] at h7
          exact o.calm (by simpa using h7)
    · cases h
  | c, X, W, o, .meth a m b es, x, h => by
    unfold okE at h
    split at h
    · rename_i z g ap ys pos
      simp only [Bool.and_eq_true, decide_eq_true_eq] at h
      obtain ⟨⟨⟨⟨⟨⟨⟨⟨hcm, rfl⟩, h2⟩, h3⟩, h4⟩, h5⟩, h6⟩, h7⟩, h8⟩ := h
      have ln := lenA es ys h4
      have hev := hev_of (mt := m) (pos := pos) (apos := ap) (base_of h2 (eval z X.env)) (form_of (pos := pos) (env := X.env) h4 h5) h6
      have hl : ∀ r, lstM b es.len = some r → BM X "list" m r := fun r e => bm_of o.hu64 b _ r (by simpa using h7) e
      have hd : ∀ r, dctM b es.len = some r → BM X "dict" m r := fun r e => dm_of o.hu64 b _ r (by simpa using h7) e
      have hi : (c.T.meth m).isSome = true → ∃ lv, c.T.meth m = some (lv, es.len) ∧ lv ≤ c.k := fun z => by
        split at h8
        · rename_i lv n e
          simp only [Bool.and_eq_true, decide_eq_true_eq] at h8
          exact ⟨lv, by rw [e, h8.2], h8.1⟩
        · rename_i e; rw [e] at z; cases z
      cases ys with
      | nil =>
        cases es with
        | nil => exact snd_of rfl (le_mth0 o.tk o.gok (o.room hcm) hl hd hi (soundE o a _ h3).1 hev) fun _ => rfl
        | cons => cases ln
      | cons y0 ys =>
        cases es with
        | nil => cases ln
        | cons e0 r =>
          have h9 : (okE c e0 y0 && okA c r ys) = true := h4
          rw [Bool.and_eq_true] at h9
          exact snd_of rfl (le_mth o.tk o.gok (o.room hcm) hl hd hi (soundE o a _ h3).1 (soundA o (.cons e0 r) _ h4).1.1 (star_of h9.1) (by rw [starA r ys X.env h9.2]; exact plain_backTo ys) hev) fun _ => rfl
    · cases h
  | c, X, W, o, .lc vs g k is cs el, x, h => by
    unfold okE at h
    split at h
    · rename_i y t i ifs a scope pos
      simp only [Bool.and_eq_true, decide_eq_true_eq, List.all_eq_true] at h
      obtain ⟨⟨⟨⟨⟨⟨⟨⟨h1, rfl⟩, h2⟩, h3⟩, h4⟩, h5⟩, h6⟩, h7⟩, h8⟩ := h
      split at h8
      · rename_i ys hy
        have hi := it_ok o t k hy (soundA o is ys h8).1.1 (fun z e => ((soundA o is ys h8).2.1 z e).1) (starA is ys X.env h8) (lenA is ys h8) (star2 h8)
        have e : (ownOf c.N vs).map (·.2) = vs := by unfold ownOf; rw [List.map_map]; exact List.map_id' vs
        refine snd_of rfl (lk_ok (le_lc ?_ h3)) fun _ => rfl
        rw [← e]
        refine pe_lc (o.calm h1) o.nd hi.1 (blkOk_of o h2) (fun s H C cl fp => ?_) (fun s H C cl fp => ?_) (fun s H C cl fp => ?_) hi.2
        · exact pg_nt (blk_ok o h1 s H C cl fp) h4 h1
        · exact pts_of (blk_ok o h1 s H C cl fp) h6 h7 (soundA (blk_ok o h1 s H C cl fp) cs ifs h6).2.1
        · exact (soundE (blk_ok o h1 s H C cl fp) el _ h5).1
      · cases h8
    · cases h
  | c, X, W, o, .dnew, x, h => by
    unfold okE at h
    split at h
    · exact snd_of rfl le_dnew fun _ => rfl
    · cases h
  | c, X, W, o, .olen a, x, h => by
    unfold okE at h
    split at h
    · rename_i y p z pos
      simp only [Bool.and_eq_true, decide_eq_true_eq] at h
      obtain ⟨⟨⟨⟨⟨hcm, rfl⟩, h2⟩, h3⟩, h4⟩, h5⟩ := h
      split at h5
      · rename_i lv n e
        simp only [Bool.and_eq_true, decide_eq_true_eq] at h5
        obtain ⟨h5, rfl⟩ := h5
        exact snd_of rfl (le_olen o.gok (o.room hcm) e h5 (o.gl _ h2) (o.gok.blt _ h3) (soundE o a z h4).1 (star_of h4)) fun _ => rfl
      · cases h5
    · cases h
  | c, X, W, o, .lsRg es, x, h => by
    unfold okE at h
    split at h
    · rename_i y p z p2 ys pos2 pos
      simp only [Bool.and_eq_true, decide_eq_true_eq, Bool.or_eq_true] at h
      obtain ⟨⟨⟨⟨⟨⟨⟨⟨h1, rfl⟩, rfl⟩, h2⟩, h3⟩, h4⟩, h5⟩, h6⟩, h7⟩ := h
      have ln := lenA es ys h6
      exact snd_of rfl (le_lsRg (o.calm h1) (o.gl _ h2) (o.gok.blt _ h3) (o.gl _ h4) (o.gok.blt _ h5) (soundA o es _ h6).1.1 (by rw [ln]; exact h7) (starA es ys X.env h6) (star2 h6)) fun _ => rfl
    · cases h
  | c, X, W, o, .minv a, x, h => by
    unfold okE at h
    split at h
    · rename_i y p z m ap mp pos
      simp only [Bool.and_eq_true, decide_eq_true_eq] at h
      obtain ⟨⟨⟨⟨⟨⟨⟨h1, rfl⟩, rfl⟩, h2⟩, h3⟩, h4⟩, h5⟩, h6⟩ := h
      exact snd_of rfl (le_minV (o.calm h1) (o.gl _ h2) (o.gok.blt _ h3) (soundE o a z h6).1 (base_of h4 _) h5) fun _ => rfl
    · cases h
  | c, X, W, o, .mkw a m es ks vs, x, h => by
    unfold okE at h
    split at h
    · rename_i z g ap ys kws pos
      simp only [Bool.and_eq_true, decide_eq_true_eq] at h
      obtain ⟨⟨⟨⟨⟨⟨⟨⟨⟨⟨h1, rfl⟩, h2⟩, h3⟩, h4⟩, h5⟩, h6⟩, h7⟩, h8⟩, h9⟩, h10⟩ := h
      have ln := lenA es ys h4
      have lz := lenA vs _ h5
      obtain ⟨k1, k2, k3, k4⟩ := kw_all (pos := pos) (env := X.env) h6
      have hev := hev_ofK (mt := m) (pos := pos) (apos := ap) (base_of h2 (eval z X.env)) (form_ofK (pos := pos) (env := X.env) h4 h6 h8) h9
      split at h10
      · rename_i lv n kd kss e
        simp only [Bool.and_eq_true, decide_eq_true_eq] at h10
        obtain ⟨⟨h10, rfl⟩, h11⟩ := h10
        have lk : vs.len = ks.length := by rw [← lz, ← k4]; exact List.length_map _
        have hz := pk_of (soundA o vs _ h5).2.2 rfl
        rw [lk] at hz
        refine snd_of rfl (le_ex fun lv' => le_ex fun n' => le_ex fun kd' => le_ex fun kss' => le_and_ fun e' => ?_) fun _ => rfl
        rw [e] at e'; cases e'
        cases ys with
        | nil => rw [← ln] at h7; cases h7
        | cons y0 ys =>
          cases es with
          | nil => cases ln
          | cons e0 r =>
            have h12 : (okE c e0 y0 && okA c r ys) = true := h4
            rw [Bool.and_eq_true] at h12
            refine le_mkw o.tk o.gok (o.room h1) e h10 h11 (soundE o a _ h3).1 (soundA o (.cons e0 r) _ h4).1.1 hz k1 k2 (star_of h12.1) ?_ hev
            rw [starA _ _ X.env h4, plain_backTo, k3]; rfl
      · cases h10
    · cases h
  | c, X, W, o, .lcall i es, x, h => by
    unfold okE at h
    split at h
    · rename_i y p ys pos
      simp only [Bool.and_eq_true, decide_eq_true_eq] at h
      obtain ⟨⟨⟨⟨⟨⟨h1, h2⟩, h3⟩, h4⟩, h5⟩, h6⟩, h7⟩ := h
      obtain ⟨p1, p2, p3⟩ := plain_of h4
      have ln := lenA es ys h5
      split at h7
      · rename_i lv n e
        simp only [Bool.and_eq_true, decide_eq_true_eq] at h7
        obtain ⟨h7, rfl⟩ := h7
        cases ys with
        | nil => rw [← ln] at h6; cases h6
        | cons y0 ys =>
          cases es with
          | nil => cases ln
          | cons e0 r =>
            have h12 : (okE c e0 y0 && okA c r ys) = true := h5
            rw [Bool.and_eq_true] at h12
            exact snd_of rfl (le_lcall o.tk o.gok (o.room h1) e h7 (by rw [o.N]; exact h2) (o.vis _ h3) (soundA o (.cons e0 r) _ h5).1.1 p1 p2 (star_of h12.1) (by rw [starA r ys X.env h12.2]; exact plain_backTo ys)) fun _ => rfl
      · cases h7
    · cases h
  | c, X, W, o, .gdx y a, x, h => by
    unfold okE at h
    split at h
    · simp only [Bool.and_eq_true, decide_eq_true_eq] at h
      obtain ⟨⟨⟨⟨rfl, h2⟩, h3⟩, h4⟩, h5⟩ := h
      obtain ⟨p1, p2, p3⟩ := plain_of h3
      exact snd_of rfl (le_gdx o.gok (o.gl _ h2) p1 (soundE o a _ h5).1 (plainSl h4)) fun _ => rfl
    · cases h
  | c, X, W, o, .isx i y, x, h => by
    unfold okE at h
    split at h
    · simp only [Bool.and_eq_true, decide_eq_true_eq, Bool.not_eq_true'] at h
      obtain ⟨⟨⟨⟨⟨⟨⟨⟨⟨h1, rfl⟩, h2⟩, h3⟩, h4⟩, h5⟩, h6⟩, rfl⟩, h7⟩, h8⟩ := h
      obtain ⟨p1, p2, p3⟩ := plain_of h6
      obtain ⟨q1, q2, q3⟩ := plain_of h8
      exact snd_of rfl (le_isx o.gok (o.hot h1) (by rw [o.N]; exact h4) (o.vis _ h5) p1 p2 (o.gl _ h7) q1 (o.gl _ h2) (o.gok.blt _ h3)) fun _ => rfl
    · cases h
  | c, X, W, o, .disp es, x, h => by
    unfold okE at h
    split at h
    · rename_i keys values pos
      simp only [Bool.and_eq_true, decide_eq_true_eq, Bool.not_eq_true'] at h
      obtain ⟨⟨⟨⟨h1, h2⟩, h3⟩, h4⟩, h5⟩ := h
      exact snd_of rfl (le_disp (alt_of (soundA o es _ h5).2.2 (weave_len h1 h2)) h1 h2 (fun z => by rw [z] at h3; cases h3) h4) fun _ => rfl
    · cases h
  | c, X, W, o, .dc vs g k is cs ke ve, x, h => by
    unfold okE at h
    split at h
    · rename_i kx y t i ifs a scope pos
      simp only [Bool.and_eq_true, decide_eq_true_eq, List.all_eq_true] at h
      obtain ⟨⟨⟨⟨⟨⟨⟨⟨⟨h1, rfl⟩, h2⟩, h3⟩, h4⟩, h5⟩, h5'⟩, h6⟩, h7⟩, h8⟩ := h
      split at h8
      · rename_i ys hy
        have hi := it_ok o t k hy (soundA o is ys h8).1.1 (fun z e => ((soundA o is ys h8).2.1 z e).1) (starA is ys X.env h8) (lenA is ys h8) (star2 h8)
        have e : (ownOf c.N vs).map (·.2) = vs := by unfold ownOf; rw [List.map_map]; exact List.map_id' vs
        refine snd_of rfl (lk_ok (PE.weak ?_ fun _ _ _ => dc_up h3)) fun _ => rfl
        rw [← e]
        refine pe_dc (o.calm h1) o.nd hi.1 (blkOk_of o h2) (fun s H C cl fp => ?_) (fun s H C cl fp => ?_) (fun s H C cl fp => ?_) (fun s H C cl fp => ?_) hi.2
        · exact pg_nt (blk_ok o h1 s H C cl fp) h4 h1
        · exact pts_of (blk_ok o h1 s H C cl fp) h6 h7 (soundA (blk_ok o h1 s H C cl fp) cs ifs h6).2.1
        · exact (soundE (blk_ok o h1 s H C cl fp) ke _ h5).1
        · exact (soundE (blk_ok o h1 s H C cl fp) ve _ h5').1
      · cases h8
    · cases h
  | c, X, W, o, .sl a lo hi, x, h => by
    unfold okE at h
    split at h
    · simp only [Bool.and_eq_true] at h
      obtain ⟨⟨h1, h2⟩, h3⟩ := h
      exact snd_of rfl (le_sl (soundE o a _ h1).1 (po_of h2 (soundA o lo _ h2).2.1) (po_of h3 (soundA o hi _ h3).2.1)) fun _ => rfl
    · cases h
theorem soundA : ∀ {c : Ck} {X : Cx} {W : WX} (_ : XOk G c X W) (es : Es) (xs : List Expr), okA c es xs = true → SndA G c X W es xs ∧ SndO G c X W es xs ∧ SndL G c X W es xs
  | c, X, W, o, .nil, xs, h => by
    cases xs with
    | nil => exact ⟨⟨la_nil, fun pos => ⟨⟨pe_false, pe_false⟩, pw_false, pw_false⟩⟩, (fun _ z => nomatch z), .nil⟩
    | cons => cases h
  | c, X, W, o, .cons e r, xs, h => by
    cases xs with
    | nil => cases h
    | cons x ys =>
      have h : (okE c e x && okA c r ys) = true := h
      rw [Bool.and_eq_true] at h
      obtain ⟨he, ht⟩ := soundE o e x h.1
      obtain ⟨⟨ha, hb⟩, _, hl⟩ := soundA o r ys h.2
      cases r with
      | nil =>
        cases ys with
        | nil => exact ⟨⟨la_cons he la_nil (star_of h.1), fun pos => ⟨⟨le_one he, le_one he⟩, lw_and1 ht, lw_or1 ht⟩⟩, (fun z e => by cases e; exact ⟨he, ht⟩), .cons ⟨he, ht⟩ hl⟩
        | cons => exact absurd h.2 (by intro z; cases z)
      | cons e' r' =>
        cases ys with
        | nil => exact absurd h.2 (by intro z; cases z)
        | cons y ys => exact ⟨⟨la_cons he ha (star_of h.1), fun pos => ⟨⟨le_and he (hb pos).1.1, le_or he (hb pos).1.2⟩, lw_and ht (hb pos).2.1, lw_or ht (hb pos).2.2⟩⟩, (fun z e => nomatch e), .cons ⟨he, ht⟩ hl⟩
end
end
end LL

namespace LL
open PySem L2

def Tgs.len : Tgs → Nat
  | .nil => 0
  | .cons _ r => r.len + 1
def noComp : Expr → Bool
  | .ListComp .. => false | .SetComp .. => false | .DictComp .. => false | .Set .. => false | .Starred .. => false | .Tuple .. => false
  | _ => true
/-- a comprehension is stored as any value is -/
def lcTg (c : Ck) : Expr → Expr → Bool
  | .Name t p, .ListComp _ _ _ q => !(decide (c.nm.lookup t = some .local)) || !(p.line == q.line)
  | .Subscript .., .ListComp .. => true
  | _, _ => false
/-- .. the name's store stands within it -/
def lcSw (c : Ck) : Expr → Expr → Bool
  | .Name t p, .ListComp _ [⟨_, _, _, _⟩] sc q => decide (c.nm.lookup t = some .local) && (p.line == q.line) && !(sc.names.any fun (n, k) => n == t && (k == .local || k == .cell))
  | _, _ => false
section
variable (c : Ck)
mutual
def okG : Tg → Expr → Bool
  | .name i, x => match x with
    | .Name y _ => decide (c.N[i]? = some y) && c.loc y
    | _ => false
  | .tup n gs, x => match x with
    | .Tuple xs _ _ => c.calm && decide (n = gs.len) && okGs gs xs
    | _ => false
  | .sub o i, x => match x with
    | .Subscript a b _ => noSlice b && okE c o a && okE c i b
    | _ => false
def okGs : Tgs → List Expr → Bool
  | .nil, xs => xs.isEmpty
  | .cons g r, xs => match xs with
    | x :: ys => okG g x && okGs r ys
    | [] => false
end
def okI (tg : Expr) : Iz → Expr → Bool
  | .seq e, x => noComp x && okE c e x
  | .enum es, x => match enumOk c tg x with
    | some ys => okA c es ys
    | none => false
  | .itm .items e, x => isTup tg && (match viewOk "items" x with | some [y] => okE c e y | _ => false)
  | .itm .vals e, x => match viewOk "values" x with | some [y] => okE c e y | _ => false
  | .rng es, x => match x with
    | .Call (.Name y _) ys [] _ => decide (y = ("range" : Str)) && c.gl y && c.T.blt y && okA c es ys && (decide (es.len = 1) || decide (es.len = 2))
    | _ => false
end
/-- a suite: no calls, no loops over anything -/
def Ck.suite (c : Ck) : Ck := { c with calm := false }
mutual
def okS : Ck → S → Stmt → Bool
  | c, .expr e, x => match x with
    | .Expr y _ => noComp y && okE c e y
    | _ => false
  | c, .ret e, x => match x with
    | .Return (some y) _ => okE c e y
    | _ => false
  | _, .retN, x => match x with
    | .Return none _ => true
    | _ => false
  | c, .asg g e, x => match x with
    | .Assign [t] y _ => (noComp y || (match g, y with | .name _, .Tuple .. => true | .sub .., .Tuple .. => true | _, _ => false) || lcTg c t y || lcSw c t y) && okG c g t && okE c e y
    | _ => false
  | c, .fld o f e, x => match x with
    | .Assign [.Attribute a g _] y _ => (noComp y || (match y with | .Tuple .. => true | .DictComp .. => true | .ListComp .. => true | _ => false)) && decide (f = g) && okE c o a && okE c e y
    | _ => false
  | c, .flda o f e, x => match x with
    | .AugAssign (.Attribute a g _) .Add y _ => decide (f = g) && okE c o a && okE c e y
    | _ => false
  | c, .ifs e a b, x => match x with
    | .If y xs ys _ => okE c e y && okSs c a xs && okSs c b ys
    | _ => false
  | c, .whl e b, x => match x with
    | .While y xs [] _ => okE c e y && okSs c b xs
    | _ => false
  | c, .for g i b, x => match x with
    | .For t y xs [] _ => c.calm && noComp y && okG c g t && okI c t i y && okSs c b xs
    | _ => false
  | _, .brk, x => match x with
    | .Break _ => true
    | _ => false
  | _, .cnt, x => match x with
    | .Continue _ => true
    | _ => false
  | _, .pass, x => match x with
    | .Pass _ => true
    | _ => false
  | c, .rais y, x => match x with
    | .Raise (some (.Call (.Name z _) [.Constant (.str _) _ _] [] _)) none _ => decide (y = z) && c.gl z && plainName z && c.calm
    | _ => false
  | c, .del o i, x => match x with
    | .Delete [.Subscript a b _] _ => okE c o a && okE c i b
    | _ => false
  | c, .tryS b hs, x => match x with
    | .Try xs (h :: r) [] [] _ => c.calm && okSs c b xs && okHs c hs (h :: r)
    | _ => false
def okSs : Ck → Ss → List Stmt → Bool
  | _, .nil, xs => xs.isEmpty
  | c, .cons s r, xs => match xs with
    | x :: ys => okS c s x && okSs c r ys
    | [] => false
def okHs : Ck → Hs → List ExceptHandler → Bool
  | _, .nil, xs => xs.isEmpty
  | c, .cons x o b r, xs => match xs with
    | .ExceptHandler (some (.Name y _)) n (b₀ :: suite) _ :: ys => decide (x = y) && c.gl x && plainName x && c.T.exn x && okSs c.suite b (b₀ :: suite) && okHs c r ys &&
      (match o, n with
        | none, none => true
        | some i, some z => decide (c.N[i]? = some z) && decide (c.nm.lookup z = some .local)
        | _, _ => false)
    | _ => false
end
section
variable {G : Glob} {c : Ck} {X : Cx} {W : WX}
theorem nc_swaps {x : Expr} (h : noComp x = true) (tg : Option Expr) (l : Nat) (env : Env) : swapsWith x tg l env = pure false := by
  cases x <;> first | rfl | cases h
theorem tup_swaps {es : List Expr} {k : Nat} {p : Pos} (tg : Option Expr) (l : Nat) (env : Env) : swapsWith (.Tuple es k p) tg l env = pure false := rfl
theorem nc_stores {x t : Expr} (h : noComp x = true) (env : Env) : swappedStores [t] x env = pure none := by
  cases x <;> first | (cases h; done) | (cases t <;> rfl)
theorem nc_fold {x : Expr} (h : noComp x = true) (env : Env) : ∀ v, foldedSetIterable x env v = pure v := by
  intro v; cases x <;> first | rfl | cases h
theorem okG_star {g : Tg} {x : Expr} {p : Pos} : okG c g (.Starred x p) = false := by cases g <;> rfl
theorem asgn_one {g : Tg} {t : Expr} (h : okG c g t = true) (r : List Expr) (env : Env) : assignEach (t :: r) env = (false, assign t env) :: assignEach r env := by
  cases t <;> first | rfl | (rw [okG_star] at h; cases h)
theorem asgn_all : ∀ (gs : Tgs) (xs : List Expr) (env : Env), okGs c gs xs = true → assignEach xs env = xs.map fun x => (false, assign x env)
  | .nil, xs, env, h => by
    cases xs with
    | nil => rfl
    | cons => cases h
  | .cons g r, xs, env, h => by
    cases xs with
    | nil => cases h
    | cons x ys =>
      have h : (okG c g x && okGs c r ys) = true := h
      rw [Bool.and_eq_true] at h
      rw [asgn_one h.1, asgn_all r ys env h.2]; rfl
theorem asgn_len : ∀ (gs : Tgs) (xs : List Expr), okGs c gs xs = true → xs.length = gs.len
  | .nil, xs, h => by
    cases xs with
    | nil => rfl
    | cons => cases h
  | .cons g r, xs, h => by
    cases xs with
    | nil => cases h
    | cons x ys =>
      have h : (okG c g x && okGs c r ys) = true := h
      rw [Bool.and_eq_true] at h
      show ys.length + 1 = r.len + 1
      rw [asgn_len r ys h.2]
theorem find_plain (env : Env) : ∀ xs : List Expr, (xs.map fun x => (false, assign x env)).findIdx? (·.1) = none
  | [] => rfl
  | _ :: r => by simp [List.findIdx?_cons, find_plain env r]
mutual
theorem soundG (o : XOk G c X W) : ∀ (g : Tg) (x : Expr), okG c g x = true → PG X x (upG X.K W (wpG G c.T g))
  | .name i, x, h => by
    unfold okG at h
    split at h
    · simp only [Bool.and_eq_true, decide_eq_true_eq] at h
      obtain ⟨l1, l2⟩ := o.loc _ h.2
      exact lg_name (pg_name o.nd (by rw [o.N]; exact h.1) l1 l2)
    · cases h
  | .tup n gs, x, h => by
    unfold okG at h
    split at h
    · rename_i xs k p
      simp only [Bool.and_eq_true, decide_eq_true_eq] at h
      obtain ⟨⟨h1, rfl⟩, h3⟩ := h
      have e := asgn_all gs xs X.env h3
      exact lg_tup (pg_tup (o.calm h1) (soundGs o gs xs h3) (by rw [e, List.length_map]; exact asgn_len gs xs h3) (by rw [e]; exact find_plain _ xs))
    · cases h
  | .sub a b, x, h => by
    unfold okG at h
    split at h
    · rename_i y z p
      simp only [Bool.and_eq_true] at h
      obtain ⟨⟨h1, h2⟩, h3⟩ := h
      refine lg_sub o.hu (soundE o a _ h2).1 (soundE o b _ h3).1 fun p1 p2 p3 => pg_sub p1 p2 p3 ?_
      intro v
      cases z <;> first | rfl | cases h1
    · cases h
theorem soundGs (o : XOk G c X W) : ∀ (gs : Tgs) (xs : List Expr), okGs c gs xs = true → PGs X xs (upGs X.K W (wpGs G c.T gs))
  | .nil, xs, h => by
    cases xs with
    | nil => exact lgs_nil
    | cons => cases h
  | .cons g r, xs, h => by
    cases xs with
    | nil => cases h
    | cons x ys =>
      have h : (okG c g x && okGs c r ys) = true := h
      rw [Bool.and_eq_true] at h
      exact lgs_cons (h := fun p1 p2 => pgs_cons p1 p2 (by rw [asgn_one h.1]; rfl)) (soundG o g x h.1) (soundGs o r ys h.2)
end
theorem soundI (o : XOk G c X W) (tg : Expr) : ∀ (i : Iz) (x : Expr), okI c tg i x = true → PI X tg x (upIt X.K W (wpI G c.T i))
  | .seq e, x, h => by
    simp only [okI, Bool.and_eq_true] at h
    exact lj_seq (soundE o e x h.2).1
  | .enum es, x, h => by
    simp only [okI] at h
    split at h
    · rename_i ys hy
      exact (it_ok o tg .enum hy (soundA o es ys h).1.1 (fun z e => ((soundA o es ys h).2.1 z e).1) (starA es ys X.env h) (lenA es ys h) (star2 h)).1
    · cases h
  | .itm .items e, x, h => by
    simp only [okI, Bool.and_eq_true] at h
    obtain ⟨ht, h⟩ := h
    split at h
    · rename_i y hy
      unfold viewOk at hy
      split at hy
      · split at hy
        · rename_i hc
          cases hy
          simp only [Bool.and_eq_true, decide_eq_true_eq] at hc
          obtain ⟨⟨rfl, h2⟩, h3⟩ := hc
          cases tg <;> first | (cases ht; done) | exact lj_items (soundE o e y h).1 (base_of h2 _) h3
        · cases hy
      · cases hy
    · cases h
  | .itm .vals e, x, h => by
    simp only [okI] at h
    split at h
    · rename_i y hy
      unfold viewOk at hy
      split at hy
      · split at hy
        · rename_i hc
          cases hy
          simp only [Bool.and_eq_true, decide_eq_true_eq] at hc
          obtain ⟨⟨rfl, h2⟩, h3⟩ := hc
          exact lj_vals (soundE o e y h).1 (base_of h2 _) h3
        · cases hy
      · cases hy
    · cases h
  | .rng es, x, h => by
    simp only [okI] at h
    split at h
    · rename_i y p ys pos
      simp only [Bool.and_eq_true, decide_eq_true_eq, Bool.or_eq_true] at h
      obtain ⟨⟨⟨⟨rfl, h2⟩, h3⟩, h4⟩, h5⟩ := h
      have st := starA es ys X.env h4
      have ln := lenA es ys h4
      have ha := (soundA o es ys h4).1.1
      rcases h5 with h5 | h5
      · rw [h5] at ln ha
        match ys, ln with
        | [a], _ => exact lj_rng1 (o.gl _ h2) (o.gok.blt _ h3) ha st
      · rw [h5] at ln ha
        match ys, ln with
        | [a, b], _ => exact lj_rng2 (o.gl _ h2) (o.gok.blt _ h3) ha st (by
            have := st
            cases es with
            | nil => cases h5
            | cons e r =>
              have h4 : (okE c e a && okA c r [b]) = true := h4
              rw [Bool.and_eq_true] at h4
              exact starA r [b] X.env h4.2)
    · simp at h
theorem ls_rais {G : Glob} {T : Tab} {k : Nat} {X : Cx} {W : WX} {x m : Str} {j : Nat} {p p2 pos pos2 : Pos} (g : GOk G T k X.prog X.w X.K X.mg X.base) (tk : Takes X W) (hc : X.calm = true) (hg : Gl X x) (hdb : (x == ("__debug__" : Str)) = false) :
    PS X (.Raise (some (.Call (.Name x p) [.Constant (.str m) j p2] [] pos)) none pos2) (upS X.K W (wRais G x)) := by
  refine ⟨fun pins s σ H D I ⟨m', h, ls, DL, e1, r, rs, ⟨C, hC, q⟩, ec⟩ => ?_⟩
  obtain ⟨hm, ex⟩ := g.exc x C hC
  subst e1
  exact (ps_raise hc tk (pmk_own PySem.F.excBase_ValueError ex.exc hm ex.keep (raises_own ex.sub ex.typ) hg hdb)).run pins s σ _ D I (ec.xc m' h ls σ C (Ext.refl m') r rs q)
/-- the scope is the def's own -/
structure FSc (c : Ck) (X : Cx) : Prop where
  nm : X.env.scope.names = c.nm
  kind : X.env.scope.kind = .function
  stk : X.stack = X.env :: X.outer
  frm : X.env.frame = some X.env.locals
theorem lk_set {k : Ik} {st : Stmt} {t : LTE} {j : Nat} (h : PS X st (upS X.K W (wAsg t (vName j)))) : PS X st (upS X.K W (wAsg (lkIf k t) (vName j))) := by
  have key : PS X st (upS X.K W (wAsg (wLockE t) (vName j))) := (ls_lock h).weak fun D σ H ⟨m, h, s, DL, e1, r1, rs, ⟨n, v, o, hd, hn, q⟩, ec⟩ => ⟨m, h, s, DL, e1, r1, rs, ⟨n, v, o, hd, hn, q⟩, ec⟩
  cases k <;> first | exact h | exact key
theorem lcTg_swaps (fs : FSc c X) {t y : Expr} (h : lcTg c t y = true) {l : Nat} : swapsWith y (some t) l X.env = pure false := by
  unfold lcTg at h
  split at h
  · rename_i x p el gs sc q
    have ky : X.env.kindOf x = c.nm.lookup x := by rw [← fs.nm]; rfl
    unfold swapsWith
    simp only [ky, Expr.pos]
    rw [Bool.or_eq_true] at h
    rcases h with h | h
    · have h : ¬ (c.nm.lookup x = some .local) := by simpa using h
      have e : (c.nm.lookup x == some NameKind.local) = false := by
        cases z : c.nm.lookup x with
        | none => rfl
        | some k => cases k <;> first | rfl | exact absurd z h
      simp only [e, Bool.and_false, Bool.false_and] <;> rfl
    · have h : (p.line == q.line) = false := by simpa using h
      simp only [h, Bool.and_false, Bool.false_and] <;> rfl
  · rfl
  · cases h
theorem lcTg_stores {t y : Expr} (h : lcTg c t y = true) {env : Env} : swappedStores [t] y env = pure none := by
  unfold lcTg at h
  split at h
  · rfl
  · rfl
  · cases h
theorem lc_set (o : XOk G c X W) (fs : FSc c X) {g : Tg} {e : E} {t y : Expr} {pos : Pos} (h2 : okG c g t = true) (h3 : okE c e y = true) (h : lcSw c t y = true) : PS X (.Assign [t] y pos) (upS X.K W (wpS G c.T (.asg g e))) := by
  unfold lcSw at h
  split at h
  · rename_i x p el t1 i1 ifs1 a1 sc q
    simp only [Bool.and_eq_true, decide_eq_true_eq, Bool.not_eq_true'] at h
    obtain ⟨⟨hl, hp⟩, ha⟩ := h
    have hyl : X.env.scope.names.lookup x = some .local := by rw [fs.nm]; exact hl
    cases g with
    | name j =>
      have h2 : (decide (c.N[j]? = some x) && c.loc x) = true := h2
      rw [Bool.and_eq_true, decide_eq_true_eq] at h2
      cases e <;> first | (cases h3; done) | skip
      rename_i vs g k is cs el'
      show PS X _ (upS X.K W (wAsg (wpE G c.T (.lc vs g k is cs el')) (vName j)))
      unfold okE at h3
      simp only [Bool.and_eq_true, decide_eq_true_eq, List.all_eq_true] at h3
      obtain ⟨⟨⟨⟨⟨⟨⟨⟨h1, rfl⟩, h2'⟩, h3⟩, h4⟩, h5⟩, h6⟩, h7⟩, h8⟩ := h3
      split at h8
      · rename_i ys hy
        have hi := it_ok o t1 k hy (soundA o is ys h8).1.1 (fun z e => ((soundA o is ys h8).2.1 z e).1) (starA is ys X.env h8) (lenA is ys h8) (star2 h8)
        have e : (ownOf c.N vs).map (·.2) = vs := by unfold ownOf; rw [List.map_map]; exact List.map_id' vs
        refine lk_set (ls_setLc ?_ h3)
        rw [← e]
        refine ps_setLc (o.calm h1) o.nd (by rw [o.N]; exact h2.1) hyl (sw_true fs.kind hyl hp ha) hi.1 (blkOk_of o h2') (fun s H C cl fp => ?_) (fun s H C cl fp => ?_) (fun s H C cl fp => ?_) hi.2
        · exact pg_nt (blk_ok o h1 s H C cl fp) h4 h1
        · exact pts_of (blk_ok o h1 s H C cl fp) h6 h7 (soundA (blk_ok o h1 s H C cl fp) cs ifs1 h6).2.1
        · exact (soundE (blk_ok o h1 s H C cl fp) el' _ h5).1
      · cases h8
    | tup n gs => cases h2
    | sub a b => cases h2
  · cases h
mutual
theorem soundS : ∀ {G : Glob} {c : Ck} {X : Cx} {W : WX} (_ : XOk G c X W) (_ : FSc c X) (s : S) (x : Stmt), okS c s x = true → PS X x (upS X.K W (wpS G c.T s))
  | G, c, X, W, o, fs, .expr e, x, h => by
    unfold okS at h
    split at h
    · rw [Bool.and_eq_true] at h
      exact ls_expr (soundE o e _ h.2).1 (nc_swaps h.1 _ _ _)
    · cases h
  | G, c, X, W, o, fs, .ret e, x, h => by
    unfold okS at h
    split at h
    · exact ls_ret (soundE o e _ h).1
    · cases h
  | G, c, X, W, o, fs, .retN, x, h => by
    unfold okS at h
    split at h
    · exact ls_retN
    · cases h
  | G, c, X, W, o, fs, .asg g e, x, h => by
    unfold okS at h
    split at h
    · rename_i t y pos
      simp only [Bool.and_eq_true] at h
      obtain ⟨⟨h1, h2⟩, h3⟩ := h
      rw [Bool.or_eq_true, Bool.or_eq_true, Bool.or_eq_true] at h1
      have ho : ((assignEach [t] X.env).map (·.2) = [assign t X.env]) := by rw [asgn_one h2]; rfl
      by_cases hsw : lcSw c t y = true
      · exact lc_set o fs h2 h3 hsw
      replace h1 := Or.elim h1 (fun z => z) (fun z => absurd z hsw)
      refine ls_asg (soundE o e _ h3).1 (soundG o g _ h2) ?_ ?_ ho
      · show swapsWith y (some t) _ _ = _
        rcases h1 with (h1 | h1) | h1
        · exact nc_swaps h1 _ _ _
        · cases y <;> first | rfl | (cases g <;> cases h1)
        · exact lcTg_swaps fs h1
      · rcases h1 with (h1 | h1) | h1
        · exact nc_stores h1 _
        rotate_left
        · exact lcTg_stores h1
        · cases g with
          | name i => cases t <;> first | (cases h2; done) | (cases y <;> rfl)
          | sub a b => cases t <;> first | (cases h2; done) | (cases y <;> rfl)
          | tup n gs => cases y <;> cases h1
    · cases h
  | G, c, X, W, o, fs, .fld a f e, x, h => by
    unfold okS at h
    split at h
    · rename_i z g p y pos
      simp only [Bool.and_eq_true, decide_eq_true_eq] at h
      obtain ⟨⟨⟨h1, rfl⟩, h2⟩, h3⟩ := h
      rw [Bool.or_eq_true] at h1
      refine ls_fld o.gok (soundE o a _ h2).1 (soundE o e _ h3).1 ?_
      rcases h1 with h1 | h1
      · exact nc_swaps h1 _ _ _
      · cases y <;> first | rfl | cases h1
    · cases h
  | G, c, X, W, o, fs, .flda a f e, x, h => by
    unfold okS at h
    split at h
    · simp only [Bool.and_eq_true, decide_eq_true_eq] at h
      obtain ⟨⟨rfl, h2⟩, h3⟩ := h
      exact ls_flda o.gok (soundE o a _ h2).1 (soundE o e _ h3).1
    · cases h
  | G, c, X, W, o, fs, .ifs e a b, x, h => by
    unfold okS at h
    split at h
    · simp only [Bool.and_eq_true] at h
      obtain ⟨⟨h1, h2⟩, h3⟩ := h
      exact ls_if (soundE o e _ h1).2 (soundSs o fs a _ h2) (soundSs o fs b _ h3)
    · cases h
  | G, c, X, W, o, fs, .whl e b, x, h => by
    unfold okS at h
    split at h
    · simp only [Bool.and_eq_true] at h
      exact ls_while o.own (soundE o e _ h.1).2 (soundSs o fs b _ h.2)
    · cases h
  | G, c, X, W, o, fs, .for g i b, x, h => by
    unfold okS at h
    split at h
    · simp only [Bool.and_eq_true] at h
      obtain ⟨⟨⟨⟨h1, h2⟩, h3⟩, h4⟩, h5⟩ := h
      have q := ls_for (pos := ‹Pos›) o.own (o.calm h1) (soundI o _ i _ h4) (soundG o g _ h3) (soundSs o fs b _ h5) (nc_fold h2 _)
      cases i <;> first | exact q | exact ls_lock q
    · cases h
  | G, c, X, W, o, fs, .brk, x, h => by
    unfold okS at h
    split at h
    · exact ls_brk
    · cases h
  | G, c, X, W, o, fs, .cnt, x, h => by
    unfold okS at h
    split at h
    · exact ls_cnt
    · cases h
  | G, c, X, W, o, fs, .pass, x, h => by
    unfold okS at h
    split at h
    · exact ls_pass
    · cases h
  | G, c, X, W, o, fs, .rais y, x, h => by
    unfold okS at h
    split at h
    · simp only [Bool.and_eq_true, decide_eq_true_eq] at h
      obtain ⟨⟨⟨rfl, h2⟩, h3⟩, h4⟩ := h
      obtain ⟨p1, p2, p3⟩ := plain_of h3
      exact ls_rais o.gok o.tk (o.calm h4) (o.gl _ h2) p1
    · cases h
  | G, c, X, W, o, fs, .del a b, x, h => by
    unfold okS at h
    split at h
    · rw [Bool.and_eq_true] at h
      exact ls_del o.hu (soundE o a _ h.1).1 (soundE o b _ h.2).1
    · cases h
  | G, c, X, W, o, fs, .tryS b hs, x, h => by
    unfold okS at h
    split at h
    · rename_i xs hd r pos
      simp only [Bool.and_eq_true] at h
      obtain ⟨⟨h1, h2⟩, h3⟩ := h
      refine ls_try (l := wpHs G c.T hs) fs.stk fs.frm o.nd o.tk o.gok (fun W' pn xe tk own => ?_) (soundHs o fs h1 hs _ h3)
      exact soundSs (X := X.tr pn xe) { N := o.N, nd := o.nd, vis := o.vis, gl := o.gl, loc := o.loc, cap := o.cap, calm := o.calm, room := o.room, un := o.un, hot := fun z => absurd (h1.symm.trans z) (by decide), tk := tk, gok := o.gok, own := own, prp := o.prp } ⟨fs.nm, fs.kind, fs.stk, fs.frm⟩ b _ h2
    · cases h
theorem soundSs : ∀ {G : Glob} {c : Ck} {X : Cx} {W : WX} (_ : XOk G c X W) (_ : FSc c X) (ss : Ss) (xs : List Stmt), okSs c ss xs = true → PSs X xs (upS X.K W (wpSs G c.T ss))
  | G, c, X, W, o, fs, .nil, xs, h => by
    cases xs with
    | nil => exact ls_nil
    | cons => cases h
  | G, c, X, W, o, fs, .cons s r, xs, h => by
    cases xs with
    | nil => cases h
    | cons x ys =>
      have h : (okS c s x && okSs c r ys) = true := h
      rw [Bool.and_eq_true] at h
      exact ls_cons (soundS o fs s x h.1) (soundSs o fs r ys h.2)
theorem soundHs : ∀ {G : Glob} {c : Ck} {X : Cx} {W : WX} (_ : XOk G c X W) (_ : FSc c X) (_ : c.calm = true) (hs : Hs) (xs : List ExceptHandler), okHs c hs xs = true → HdsG X xs (hdU X.K X.mg (wpHs G c.T hs))
  | G, c, X, W, o, fs, hc, .nil, xs, h => by
    cases xs with
    | nil => exact .nil
    | cons => cases h
  | G, c, X, W, o, fs, hc, .cons x oi b r, xs, h => by
    unfold okHs at h
    split at h
    · rename_i y np n b0 suite p ys
      simp only [Bool.and_eq_true, decide_eq_true_eq] at h
      obtain ⟨⟨⟨⟨⟨⟨rfl, h2⟩, h3⟩, hn⟩, h4⟩, h5⟩, h6⟩ := h
      obtain ⟨p1, p2, p3⟩ := plain_of h3
      have rest := soundHs o fs hc r ys h5
      have hsu : ∀ (a : Addr) (oe : Obj) (cls : Value) (d : Option Addr) (pn : List (Addr × Obj)), Zc cls d oe → (∃ vs, oe.data = .fields vs) → PSs (X.suite a ((a, oe) :: pn)) (b0 :: suite) ((fun a cls d => match cls, d with | .ref C, none => upS X.K noX (wpSs (G.at a C) c.T b) | _, _ => fun _ _ _ => False : HTs) a cls d) := by
        intro a oe cls d pn hz hf
        have no : PSs (X.suite a ((a, oe) :: pn)) (b0 :: suite) (fun _ _ _ => False) := ⟨fun _ _ _ _ _ _ z => z.elim⟩
        cases cls <;> cases d <;> first | exact no | skip
        rename_i C
        refine soundSs (G := G.at a C) (c := c.suite) (X := X.suite a ((a, oe) :: pn)) { N := o.N, nd := o.nd, vis := o.vis, gl := o.gl, loc := o.loc, cap := o.cap, calm := fun z => absurd (show false = true from z) (by decide), room := fun z => absurd (show false = true from z) (by decide), un := o.un, hot := fun _ a' C' e ec => ?_, tk := L2.takes0, gok := o.gok.at a C, own := PassesOwn.never, prp := o.prp } ⟨fs.nm, fs.kind, fs.stk, fs.frm⟩ b _ h4
        have e : some (a, C) = some (a', C') := e
        cases e
        exact call_isE ec hz hf
      obtain ⟨cv, hcv⟩ := o.gok.exn x hn
      have nm : Names X x (match X.mg x with | some c => c | none => (bootBuiltins x).getD .none) := by rw [hcv]; exact ⟨o.gl _ h2, p1, .inl hcv⟩
      split at h6
      · exact .only nm hsu rest
      · rename_i i z
        simp only [Bool.and_eq_true, decide_eq_true_eq] at h6
        exact .named nm (by rw [o.N]; exact h6.1) (by show X.env.scope.names.lookup z = _; rw [fs.nm]; exact h6.2) hsu rest
      · cases h6
    · cases h
end
end
end LL

namespace LL
open PySem L2

/-! ### loops by a word -/
/-- n turns -/
theorem for_n {D : LEnds} {s : LSt} {h : LH} {g : LTG} {tb : LTS} {L : LIt} (n : Nat) (Pv : Nat → LSt → LH → Prop) (h0 : Pv 0 s h)
    (hs : ∀ i s h, i < n → Pv i s h → ∃ x, L i h = some (some x) ∧ g x s h (fun s2 h2 => tb { D with nx := Fgt (Pv (i + 1)), ct := Fgt (Pv (i + 1)), bk := D.nx } s2 h2) D.xc)
    (he : ∀ s h, Pv n s h → L n h = some none ∧ D.nx s h) :
    ∃ Wl : Nat → Nat → LSt → LH → Prop, (∃ n, Wl 0 n s h) ∧ ∀ i n s h, Wl i n s h → (L i h = some none ∧ D.nx s h) ∨ ∃ x, L i h = some (some x) ∧ ∃ N : LSt → LH → Prop, (∀ s' h', N s' h' → ∃ n', n' < n ∧ Wl (i + 1) n' s' h') ∧
      g x s h (fun s2 h2 => tb { D with nx := Fgt N, ct := Fgt N, bk := D.nx } s2 h2) D.xc := by
  refine ⟨fun i k s h => k = n - i ∧ i ≤ n ∧ Pv i s h, ⟨n, by simp, Nat.zero_le _, h0⟩, ?_⟩
  rintro i k s h ⟨rfl, hi, p⟩
  by_cases hlt : i < n
  · obtain ⟨x, hx, q⟩ := hs i s h hlt p
    exact .inr ⟨x, hx, Pv (i + 1), fun s' h' p' => ⟨n - (i + 1), by omega, rfl, hlt, p'⟩, q⟩
  · have e : i = n := by omega
    subst e
    exact .inl (he s h p)
theorem for_vals {D : LEnds} {s : LSt} {h : LH} {g : LTG} {tb : LTS} {xs : List LV} (Pv : Nat → LSt → LH → Prop) (h0 : Pv 0 s h)
    (hs : ∀ i x s h, xs[i]? = some x → Pv i s h → g x s h (fun s2 h2 => tb { D with nx := Fgt (Pv (i + 1)), ct := Fgt (Pv (i + 1)), bk := D.nx } s2 h2) D.xc)
    (he : ∀ s h, Pv xs.length s h → D.nx s h) :
    ∃ Wl : Nat → Nat → LSt → LH → Prop, (∃ n, Wl 0 n s h) ∧ ∀ i n s h, Wl i n s h → (valsIt xs i h = some none ∧ D.nx s h) ∨ ∃ x, valsIt xs i h = some (some x) ∧ ∃ N : LSt → LH → Prop, (∀ s' h', N s' h' → ∃ n', n' < n ∧ Wl (i + 1) n' s' h') ∧
      g x s h (fun s2 h2 => tb { D with nx := Fgt N, ct := Fgt N, bk := D.nx } s2 h2) D.xc :=
  for_n xs.length Pv h0 (fun i s h hi p => ⟨xs[i], by unfold valsIt; rw [List.getElem?_eq_getElem hi], hs i _ s h (List.getElem?_eq_getElem hi) p⟩) fun s h p => ⟨by unfold valsIt; rw [List.getElem?_eq_none (Nat.le_refl _)], he s h p⟩
theorem for_rng {D : LEnds} {s : LSt} {h : LH} {g : LTG} {tb : LTS} {lo : Int} {n : Nat} (Pv : Nat → LSt → LH → Prop) (h0 : Pv 0 s h)
    (hs : ∀ i s h, i < n → Pv i s h → g (.int (lo + i)) s h (fun s2 h2 => tb { D with nx := Fgt (Pv (i + 1)), ct := Fgt (Pv (i + 1)), bk := D.nx } s2 h2) D.xc)
    (he : ∀ s h, Pv n s h → D.nx s h) :
    ∃ Wl : Nat → Nat → LSt → LH → Prop, (∃ n, Wl 0 n s h) ∧ ∀ i n' s h, Wl i n' s h → (rngIt lo n i h = some none ∧ D.nx s h) ∨ ∃ x, rngIt lo n i h = some (some x) ∧ ∃ N : LSt → LH → Prop, (∀ s' h', N s' h' → ∃ k, k < n' ∧ Wl (i + 1) k s' h') ∧
      g x s h (fun s2 h2 => tb { D with nx := Fgt N, ct := Fgt N, bk := D.nx } s2 h2) D.xc :=
  for_n n Pv h0 (fun i s h hi p => ⟨_, by unfold rngIt; rw [if_pos hi], hs i s h hi p⟩) fun s h p => ⟨by unfold rngIt; rw [if_neg (Nat.lt_irrefl _)], he s h p⟩
/-- over a list that stays as it is -/
theorem for_lst {D : LEnds} {s : LSt} {h : LH} {g : LTG} {tb : LTS} {n : Nm} {v : Nat} {xs : List LV} (Pv : Nat → LSt → LH → Prop) (h0 : Pv 0 s h) (hl : ∀ i s h, Pv i s h → h n = some (v, .lst xs))
    (hs : ∀ i x s h, xs[i]? = some x → Pv i s h → g x s h (fun s2 h2 => tb { D with nx := Fgt (Pv (i + 1)), ct := Fgt (Pv (i + 1)), bk := D.nx } s2 h2) D.xc)
    (he : ∀ s h, Pv xs.length s h → D.nx s h) :
    ∃ Wl : Nat → Nat → LSt → LH → Prop, (∃ n, Wl 0 n s h) ∧ ∀ i n' s h, Wl i n' s h → (listIt n v i h = some none ∧ D.nx s h) ∨ ∃ x, listIt n v i h = some (some x) ∧ ∃ N : LSt → LH → Prop, (∀ s' h', N s' h' → ∃ k, k < n' ∧ Wl (i + 1) k s' h') ∧
      g x s h (fun s2 h2 => tb { D with nx := Fgt N, ct := Fgt N, bk := D.nx } s2 h2) D.xc :=
  for_n xs.length Pv h0 (fun i s h hi p => ⟨xs[i], by unfold listIt; rw [hl i s h p]; simp [List.getElem?_eq_getElem hi], hs i _ s h (List.getElem?_eq_getElem hi) p⟩) fun s h p => ⟨by unfold listIt; rw [hl _ s h p]; simp, he s h p⟩

/-! ### a def keeps its promise -/
def start (N : List Str) (xs : List LV) : LSt := xs.map some ++ List.replicate (N.length - xs.length) none
/-- behind the body, up to what is forgotten -/
def Fin (Q : LQ) : LQ := fun v h => ∃ h0, LH.le h0 h ∧ Q v h0
theorem fin {Q : LQ} {v : LV} {h : LH} (q : Q v h) : Fin Q v h := ⟨h, LH.le_refl h, q⟩
def ends (Q : LQ) (X : LX) : LEnds := { nx := fun _ h => Fin Q .non h, rt := Fin Q, xc := fun c _ h => X c h }
/-- what is to be shown of a def, in plain terms -/
def Keeps (G : Glob) (T : Tab) (N : List Str) (n : Nat) (body : Ss) (sp : LSp) : Prop := ∀ xs h Q X, xs.length = n → sp xs h Q X → wpSs G T body (ends Q X) (start N xs) h
theorem fn_ok {G : Glob} {T : Tab} {P : Program} {w : World} {K : PySem.W.Frag} {mg : Str → Option Value} {base : Heap} {x qual : Str} {st : Stmt} {f : Addr} {fd : FuncData} {N ps : List Str} {k : Nat} {sp : LSp} {body : Ss} (F : L2.Fun K x qual st f fd) (S : FnScope N ps (defScope st))
    (g : GOk G T k P w K mg base) (hp : ∀ C f sp, G.prop C f = some sp → (T.prop f).isSome = true) (ok : okSs ⟨N, (defScope st).names, T, k, true⟩ body (defBody st) = true) (kp : Keeps G T N ps.length body sp) : FnOk P w K mg base (L2.CX P w) (k + 1) f fd ps (liftSp K ps.length sp) := by
  refine F.okX S (fun vs H Q E h => ?_) (fun cdv A outer s H vs Q E hr h => ?_)
  · obtain ⟨m, h, xs, QL, XL, e1, r, rv, hn, _⟩ := h
    rw [rv.length, hn]
  · obtain ⟨m, h, xs, QL, XL, e1, r, rv, hn, q, c, ce⟩ := h
    have vs_len := rv.length
    let X := cxOf (L2.CX P w) P w K mg base N qual (defScope st) f cdv A outer s H E
    have o : XOk G ⟨N, (defScope st).names, T, k, true⟩ X (fun cls d _ H => E cls d H) :=
      { N := rfl, nd := S.nd
        vis := fun x hx => by
          unfold Ck.vis at hx
          split at hx
          · rename_i e; exact .inl e
          · rename_i e; exact .inr (.inl e)
          · rename_i e; exact .inr (.inr e)
          · cases hx
        gl := fun x hx => by
          unfold Ck.gl at hx
          split at hx
          · rename_i e; exact e
          · cases hx
        loc := fun x hx => by
          unfold Ck.loc at hx
          split at hx
          · rename_i e; exact ⟨.inl e, .inl rfl⟩
          · rename_i e; exact ⟨.inr e, .inl rfl⟩
          · cases hx
        cap := fun x hx => by
          unfold Ck.cap at hx
          split at hx
          · rename_i e; exact .inl e
          · rename_i e; exact .inr e
          · cases hx
        calm := fun _ => rfl, room := fun _ => hr, un := hr.units, hot := fun z => absurd (show true = false from z) (by decide), tk := takes_of rfl rfl rfl rfl, gok := g, own := passes_of rfl, prp := hp }
    refine ⟨_, soundSs o ⟨rfl, S.kind, rfl, rfl⟩ body _ ok, m, h, start N xs, _, e1, r, ?_, kp xs h QL XL hn q, ?_⟩
    · show SRel K m (start N xs) (L2.start N vs)
      unfold start L2.start
      rw [vs_len]
      exact SRel.start _ rv
    · exact ⟨fun m1 h1 s1 σ1 ex1 r1 _ ⟨h0, l0, q1⟩ => c m1 h0 .non _ ex1 (r1.le l0) rfl q1, fun m1 h1 x v ex1 r1 rx ⟨h0, l0, q1⟩ => c m1 h0 x v ex1 (r1.le l0) rx q1, fun _ _ _ _ _ _ _ z => z.elim, fun _ _ _ _ _ _ _ z => z.elim, fun m1 h1 s1 σ1 cc ex1 r1 _ q1 => ce m1 h1 cc ex1 r1 q1⟩

theorem fn_okD {G : Glob} {T : Tab} {P : Program} {w : World} {K : PySem.W.Frag} {mg : Str → Option Value} {base : Heap} {x qual : Str} {st : Stmt} {f : Addr} {fd : FuncData} {N ps : List Str} {k : Nat} {sp : LSp} {body : Ss} {kws : List (Str × V)} (F : FunD K x qual (defArgs st) (defBody st) (defScope st) [] kws f fd) (S : FnScope N ps (defScope st))
    (g : GOk G T k P w K mg base) (hp : ∀ C f sp, G.prop C f = some sp → (T.prop f).isSome = true) (ok : okSs ⟨N, (defScope st).names, T, k, true⟩ body (defBody st) = true) (kp : Keeps G T N ps.length body sp) : FnOk P w K mg base (L2.CX P w) (k + 1) f fd ps (liftSp K ps.length sp) := by
  refine F.ok (CX := L2.CX P w) S (fun vs H Q E h => ?_) (fun cdv A outer s H vs Q E hr h => ?_)
  · obtain ⟨m, h, xs, QL, XL, e1, r, rv, hn, _⟩ := h
    rw [rv.length, hn]
  · obtain ⟨m, h, xs, QL, XL, e1, r, rv, hn, q, c, ce⟩ := h
    have vs_len := rv.length
    let X := cxOf (L2.CX P w) P w K mg base N qual (defScope st) f cdv A outer s H E
    have o : XOk G ⟨N, (defScope st).names, T, k, true⟩ X (fun cls d _ H => E cls d H) :=
      { N := rfl, nd := S.nd
        vis := fun x hx => by
          unfold Ck.vis at hx
          split at hx
          · rename_i e; exact .inl e
          · rename_i e; exact .inr (.inl e)
          · rename_i e; exact .inr (.inr e)
          · cases hx
        gl := fun x hx => by
          unfold Ck.gl at hx
          split at hx
          · rename_i e; exact e
          · cases hx
        loc := fun x hx => by
          unfold Ck.loc at hx
          split at hx
          · rename_i e; exact ⟨.inl e, .inl rfl⟩
          · rename_i e; exact ⟨.inr e, .inl rfl⟩
          · cases hx
        cap := fun x hx => by
          unfold Ck.cap at hx
          split at hx
          · rename_i e; exact .inl e
          · rename_i e; exact .inr e
          · cases hx
        calm := fun _ => rfl, room := fun _ => hr, un := hr.units, hot := fun z => absurd (show true = false from z) (by decide), tk := takes_of rfl rfl rfl rfl, gok := g, own := passes_of rfl, prp := hp }
    refine ⟨_, soundSs o ⟨rfl, S.kind, rfl, rfl⟩ body _ ok, m, h, start N xs, _, e1, r, ?_, kp xs h QL XL hn q, ?_⟩
    · show SRel K m (start N xs) (L2.start N vs)
      unfold start L2.start
      rw [vs_len]
      exact SRel.start _ rv
    · exact ⟨fun m1 h1 s1 σ1 ex1 r1 _ ⟨h0, l0, q1⟩ => c m1 h0 .non _ ex1 (r1.le l0) rfl q1, fun m1 h1 x v ex1 r1 rx ⟨h0, l0, q1⟩ => c m1 h0 x v ex1 (r1.le l0) rx q1, fun _ _ _ _ _ _ _ z => z.elim, fun _ _ _ _ _ _ _ z => z.elim, fun m1 h1 s1 σ1 cc ex1 r1 _ q1 => ce m1 h1 cc ex1 r1 q1⟩

theorem fn_at {G : Glob} {T : Tab} {P : Program} {w : World} {K : PySem.W.Frag} {mg : Str → Option Value} {base : Heap} {x qual : Str} {st : Stmt} {f : Addr} {fd : FuncData} {N ps : List Str} {k : Nat} {sp : LSp} {body : Ss} (F : L2.Fun K x qual st f fd) (S : FnScope N ps (defScope st)) (b : Binds K fd ps [])
    (g : GOk G T k P w K mg base) (hp : ∀ C f sp, G.prop C f = some sp → (T.prop f).isSome = true) (ok : okSs ⟨N, (defScope st).names, T, k, true⟩ body (defBody st) = true) (kp : Keeps G T N ps.length body sp) : FnAt P w K mg base (k + 1) ps.length f sp := ⟨fd, ps, fn_ok F S g hp ok kp, b⟩

/-! ### the tables of a program -/
structure TabL where
  fn : List (Str × Nat × Nat)
  cls : List (Str × Nat × Nat)
  meth : List (Str × Nat × Nat)
  prop : List (Str × Nat)
  blt : List Str
  kmeth : List (Str × Nat × Nat × List (Str × Int) × List (List Str)) := []
  lcl : Option (Nat × Nat) := none
  exn : List Str := []
def TabL.tab (t : TabL) : Tab := ⟨fun x => t.fn.lookup x, fun x => t.cls.lookup x, fun x => t.meth.lookup x, fun x => t.prop.lookup x, fun x => t.blt.any fun y => decide (y = x), fun x => t.kmeth.lookup x, t.lcl, fun x => t.exn.any fun y => decide (y = x)⟩
/-- a def is ready: where all below it keep their promises it keeps its own -/
def Rdy (G : Glob) (T : Tab) (P : Program) (w : World) (K : PySem.W.Frag) (mg : Str → Option Value) (base : Heap) (lv n : Nat) (f : Addr) (sp : LSp) : Prop :=
  0 < lv ∧ (GOk G T (lv - 1) P w K mg base → FnAt P w K mg base lv n f sp)
def RdyK (G : Glob) (T : Tab) (P : Program) (w : World) (K : PySem.W.Frag) (mg : Str → Option Value) (base : Heap) (lv n : Nat) (kd : List (Str × Int)) (kss : List (List Str)) (f : Addr) (sp : LSp) : Prop :=
  0 < lv ∧ (GOk G T (lv - 1) P w K mg base → KmAt P w K mg base lv n kd kss f sp)
theorem gok_of {G : Glob} {T : Tab} {P : Program} {w : World} {K : PySem.W.Frag} {mg : Str → Option Value} {base : Heap}
    (fn : ∀ x lv n, T.fn x = some (lv, n) → ∃ sp f, G.fn x = some sp ∧ mg x = some (.ref f) ∧ PySem.W.keepIn K (.ref f) = true ∧ Rdy G T P w K mg base lv n f sp)
    (cls : ∀ x lv n, T.cls x = some (lv, n) → ∃ C sp f, G.cls x = some (C, sp) ∧ mg x = some (.ref C) ∧ Mk K C f ∧ Rdy G T P w K mg base lv (n + 1) f sp)
    (meth : ∀ C m sp lv n, G.meth C m = some sp → T.meth m = some (lv, n) → ∃ f lv', lv' ≤ lv ∧ Cls K C ∧ Meth K C m f ∧ Rdy G T P w K mg base lv' (n + 1) f sp)
    (prop : ∀ C f sp lv, G.prop C f = some sp → T.prop f = some lv → ∃ p g lv', lv' ≤ lv ∧ Cls K C ∧ PropOf K C f p g ∧ Rdy G T P w K mg base lv' 1 g sp)
    (attr : ∀ C f, G.attr C f = true → Cls K C ∧ NoAttr K C f)
    (con : ∀ x v, G.con x = some v → ∃ u w, mg x = some u ∧ RelV w u ∧ ∀ m, VRel K m v w)
    (blt : ∀ x, T.blt x = true → mg x = none)
    (exc : ∀ x C, G.exc x = some C → mg x = some (.ref C) ∧ ExcAt K C)
    (exs : ∀ C x b, G.exs C x = some b → ExN K mg C x b)
    (exn : ∀ x, T.exn x = true → ∃ c, mg x = some c)
    (kmeth : ∀ C m sp lv n kd kss, G.meth C m = some sp → T.kmeth m = some (lv, n, kd, kss) → ∃ f, Cls K C ∧ Meth K C m f ∧ RdyK G T P w K mg base lv (n + 1) kd kss f sp)
    (fat : ∀ f sp lv n, G.fat f = some sp → T.lcl = some (lv, n) → ∃ lv', lv' ≤ lv ∧ PySem.W.keepIn K (.ref f) = true ∧ Rdy G T P w K mg base lv' n f sp)
    (gdct : ∀ x t, G.gdct x = some t → ∃ D, mg x = some (.ref D) ∧ ∀ z f, t z = some f → KDct K w D z (.ref f)) : ∀ k, GOk G T k P w K mg base := by
  have mono : ∀ {lv lv' n : Nat} {f : Addr} {sp : LSp}, lv' ≤ lv → FnAt P w K mg base lv' n f sp → FnAt P w K mg base lv n f sp := fun h ⟨fd, ps, F, B⟩ => ⟨fd, ps, F.mono h, B⟩
  have all : ∀ k, ∀ j, j ≤ k → GOk G T j P w K mg base := by
    intro k
    induction k with
    | zero =>
      intro j hj
      refine ⟨fun x lv n e h => ?_, fun x lv n e h => ?_, fun C m sp lv n e1 e2 h => ?_, fun C f sp lv e1 e2 h => ?_, attr, con, blt, exc, exs, exn, fun C m sp lv n kd kss e1 e2 h => ?_, fun f sp lv n e1 e2 h => ?_, gdct⟩
      · obtain ⟨sp, f, a, b, c, d, _⟩ := fn x lv n e; omega
      · omega
      · obtain ⟨f, lv', a, b, c, d, _⟩ := meth C m sp lv n e1 e2; omega
      · omega
      · obtain ⟨f, a, b, d, _⟩ := kmeth C m sp lv n kd kss e1 e2; omega
      · obtain ⟨lv', a, b, d, _⟩ := fat f sp lv n e1 e2; omega
    | succ k ih =>
      intro j hj
      refine ⟨fun x lv n e h => ?_, fun x lv n e h => ?_, fun C m sp lv n e1 e2 h => ?_, fun C f sp lv e1 e2 h => ?_, attr, con, blt, exc, exs, exn, fun C m sp lv n kd kss e1 e2 h => ?_, fun f sp lv n e1 e2 h => ?_, gdct⟩
      · obtain ⟨sp, f, a, b, c, d, r⟩ := fn x lv n e
        exact ⟨sp, f, a, b, c, r (ih _ (by omega))⟩
      · obtain ⟨C, sp, f, a, b, c, d, r⟩ := cls x lv n e
        exact ⟨C, sp, f, a, b, c, r (ih _ (by omega))⟩
      · obtain ⟨f, lv', a, b, c, d, r⟩ := meth C m sp lv n e1 e2
        exact ⟨f, b, c, mono a (r (ih _ (by omega)))⟩
      · obtain ⟨p, g, lv', a, b, c, d, r⟩ := prop C f sp lv e1 e2
        exact ⟨p, g, b, c, mono a (r (ih _ (by omega)))⟩
      · obtain ⟨f, a, b, d, r⟩ := kmeth C m sp lv n kd kss e1 e2
        exact ⟨f, a, b, r (ih _ (by omega))⟩
      · obtain ⟨lv', a, b, d, r⟩ := fat f sp lv n e1 e2
        exact ⟨b, mono a (r (ih _ (by omega)))⟩
  exact fun k => all k k (Nat.le_refl k)

/-! ### names compared -/
theorem ofS_eq (a b : String) : (Str.ofString a = Str.ofString b) = (a = b) := by
  apply propext
  refine ⟨fun e => ?_, fun e => by rw [e]⟩
  rw [Str.ofString_eq_toList, Str.ofString_eq_toList] at e
  have e1 : a.toList.map Char.toNat = b.toList.map Char.toNat := by
    have := congrArg (fun z : Str => z.cps.toList) e
    simpa using this
  have inj : ∀ l m : List Char, l.map Char.toNat = m.map Char.toNat → l = m := by
    intro l
    induction l with
    | nil => intro m h; cases m with
      | nil => rfl
      | cons => simp at h
    | cons x r ih => intro m h; cases m with
      | nil => simp at h
      | cons y t =>
        simp only [List.map_cons, List.cons.injEq] at h
        rw [Char.toNat_inj.mp h.1, ih t h.2]
  exact String.toList_inj.mp (inj _ _ e1)
theorem ofS_beq (a b : String) : (Str.ofString a == Str.ofString b) = decide (a = b) := by
  rw [Bool.beq_eq_decide_eq]
  congr 1
  exact ofS_eq a b
theorem lookup_hit {a : Str} {v : LV} {r : List (Str × LV)} : List.lookup a ((a, v) :: r) = some v := by
  simp [List.lookup_cons]
theorem lookup_skip {a b : String} {v : LV} {r : List (Str × LV)} : List.lookup (Str.ofString a) ((Str.ofString b, v) :: r) = if a = b then some v else List.lookup (Str.ofString a) r := by
  rw [List.lookup_cons, ofS_beq]
  by_cases h : a = b <;> simp [h]
theorem putL_skip {a b : String} {v w : LV} {r : List (Str × LV)} : putL (Str.ofString a) w ((Str.ofString b, v) :: r) = if b = a then (Str.ofString b, w) :: r else (Str.ofString b, v) :: putL (Str.ofString a) w r := by
  rw [putL]
  simp only [ofS_eq]
theorem putL_nil {a : Str} {w : LV} : putL a w [] = [(a, w)] := rfl

/-! ### == of numbers and truth values -/
theorem lEq_of {a b : LV} {h : LH} {Q : LQ} {d e : PyData} (ha : dat h 6 a = some d) (hb : dat h 6 b = some e) (hm : min d.depth e.depth ≤ 60) : lEq a b h Q = Q (.bl (PyData.eqv d e)) h := by
  apply propext
  refine ⟨fun ⟨d', e', h1, h2, _, q⟩ => ?_, fun q => ⟨d, e, ha, hb, hm, q⟩⟩
  rw [ha] at h1; rw [hb] at h2; cases h1; cases h2; exact q
theorem lNe_of {a b : LV} {h : LH} {Q : LQ} {d e : PyData} (ha : dat h 6 a = some d) (hb : dat h 6 b = some e) (hm : min d.depth e.depth ≤ 60) : lNe a b h Q = Q (.bl (!PyData.eqv d e)) h := by
  apply propext
  refine ⟨fun ⟨d', e', h1, h2, _, q⟩ => ?_, fun q => ⟨d, e, ha, hb, hm, q⟩⟩
  rw [ha] at h1; rw [hb] at h2; cases h1; cases h2; exact q
theorem lEq_int {i j : Int} {h : LH} {Q : LQ} : lEq (.int i) (.int j) h Q = Q (.bl (decide (i = j))) h := by
  rw [lEq_of (d := .int i) (e := .int j) (by rw [dat]) (by rw [dat]) (by simp [PyData.depth])]; simp only [PyData.eqv, Bool.beq_eq_decide_eq]
theorem lNe_int {i j : Int} {h : LH} {Q : LQ} : lNe (.int i) (.int j) h Q = Q (.bl (!decide (i = j))) h := by
  rw [lNe_of (d := .int i) (e := .int j) (by rw [dat]) (by rw [dat]) (by simp [PyData.depth])]; simp only [PyData.eqv, Bool.beq_eq_decide_eq]
theorem lEq_bl {i j : Bool} {h : LH} {Q : LQ} : lEq (.bl i) (.bl j) h Q = Q (.bl (i == j)) h := by
  rw [lEq_of (d := .bool i) (e := .bool j) (by rw [dat]) (by rw [dat]) (by simp [PyData.depth])]; simp only [PyData.eqv]
theorem lNe_bl {i j : Bool} {h : LH} {Q : LQ} : lNe (.bl i) (.bl j) h Q = Q (.bl (!(i == j))) h := by
  rw [lNe_of (d := .bool i) (e := .bool j) (by rw [dat]) (by rw [dat]) (by simp [PyData.depth])]; simp only [PyData.eqv]
theorem lEq_ss {a b : String} {h : LH} {Q : LQ} : lEq (.str (Str.ofString a)) (.str (Str.ofString b)) h Q = Q (.bl (decide (a = b))) h := by
  rw [lEq_of (d := .str (Str.ofString a)) (e := .str (Str.ofString b)) (by rw [dat]) (by rw [dat]) (by simp [PyData.depth])]; simp only [PyData.eqv, ofS_beq]
theorem lNe_ss {a b : String} {h : LH} {Q : LQ} : lNe (.str (Str.ofString a)) (.str (Str.ofString b)) h Q = Q (.bl (!decide (a = b))) h := by
  rw [lNe_of (d := .str (Str.ofString a)) (e := .str (Str.ofString b)) (by rw [dat]) (by rw [dat]) (by simp [PyData.depth])]; simp only [PyData.eqv, ofS_beq]
/-! ### isinstance -/
theorem lIsi_of {x : LV} {n t : String} {b : Bool} {h : LH} {Q : LQ} (ht : tyOf h x = some t) (hb : kitB t n = some b) : lIsi [x, .ty n] h Q = Q (.bl b) h := by
  apply propext
  refine ⟨fun ⟨t', b', h1, h2, q⟩ => ?_, fun q => ⟨t, b, ht, hb, q⟩⟩
  rw [ht] at h1; cases h1; rw [hb] at h2; cases h2; exact q
theorem isi_int_int {i : Int} {h : LH} {Q : LQ} : lIsi [.int i, .ty "int"] h Q = Q (.bl true) h := lIsi_of rfl (by decide +kernel)
theorem isi_int_bool {i : Int} {h : LH} {Q : LQ} : lIsi [.int i, .ty "bool"] h Q = Q (.bl false) h := lIsi_of rfl (by decide +kernel)
theorem isi_bl_int {i : Bool} {h : LH} {Q : LQ} : lIsi [.bl i, .ty "int"] h Q = Q (.bl true) h := lIsi_of rfl (by decide +kernel)
theorem isi_bl_bool {i : Bool} {h : LH} {Q : LQ} : lIsi [.bl i, .ty "bool"] h Q = Q (.bl true) h := lIsi_of rfl (by decide +kernel)
theorem isi_tup_tup {i : List LV} {h : LH} {Q : LQ} : lIsi [.tup i, .ty "tuple"] h Q = Q (.bl true) h := lIsi_of rfl (by decide +kernel)
theorem isi_lst {n : Nm} {v : Nat} {xs : List LV} {h : LH} {Q : LQ} (e : h n = some (v, .lst xs)) : lIsi [.loc n v, .ty "list"] h Q = Q (.bl true) h := lIsi_of (t := "list") (by unfold tyOf; simp only [e, if_true]) (by decide +kernel)
end LL

namespace LL
open PySem L2

/-! ### the readings, one step each -/
def getS (s : LSt) (i : Nat) (P : LV → Prop) : Prop := ∃ x, s[i]? = some (some x) ∧ P x
theorem getS_0 {x : LV} {s : LSt} {P : LV → Prop} : getS (some x :: s) 0 P = P x := by
  apply propext; unfold getS; simp
theorem getS_s {y : Option LV} {s : LSt} {i : Nat} {P : LV → Prop} : getS (y :: s) (i + 1) P = getS s i P := by
  apply propext; unfold getS; simp
section
variable {G : Glob} {T : Tab} {s : LSt} {h : LH} {Q : LQ} {X : LX} {B : Bool → LH → Prop} {A : List LV → LH → Prop} {D : LEnds} {a b c e : E} {es : Es} {x f : Str} {n : String} {i : Int} {j : Nat}
abbrev wpAV (G : Glob) (T : Tab) (es : Es) : LTE := (sems G T es).av
abbrev wpOV (G : Glob) (T : Tab) (es : Es) : LTE := (sems G T es).ov
abbrev wpAT (G : Glob) (T : Tab) (es : Es) : LTT := (sems G T es).at_
abbrev wpOT (G : Glob) (T : Tab) (es : Es) : LTT := (sems G T es).ot
def mthM (G : Glob) (T : Tab) (m : Str) (b : Bm) (es : Es) (s : LSt) (x : LV) (Q : LQ) (X : LX) (h1 : LH) : Kd → Prop
  | .lst => optM (lstM b es.len) fun r => wpA G T es s h1 (fun xs h2 => r x xs h2 Q) X
  | .dct => optM (dctM b es.len) fun r => wpA G T es s h1 (fun xs h2 => r x xs h2 Q) X
  | .ins C fs => (T.meth m).isSome = true ∧ ∃ sp, G.meth C m = some sp ∧ fs.lookup m = none ∧ wpA G T es s h1 (fun xs h2 => sp (x :: xs) h2 Q X) X
  | _ => False
def fldM (G : Glob) (C : Addr) (f : Str) (fs : List (Str × LV)) (x : LV) (h : LH) (Q : LQ) : Bool → Prop
  | true => optM (fs.lookup f) fun y => Q y h
  | false => optM (G.prop C f) fun sp => sp [x] h Q fun _ _ => False
theorem E_var : wpE G T (.var j) s h Q X = getS s j fun y => Q y h := (rfl)
theorem E_con : wpE G T (.con x) s h Q X = ∃ v, G.con x = some v ∧ Q v h := (rfl)
theorem E_ty : wpE G T (.ty n) s h Q X = Q (.ty n) h := (rfl)
theorem E_int : wpE G T (.int i) s h Q X = Q (.int i) h := (rfl)
theorem E_bl {b : Bool} : wpE G T (.bl b) s h Q X = Q (.bl b) h := (rfl)
theorem E_non : wpE G T .non s h Q X = Q .non h := (rfl)
theorem E_str : wpE G T (.str x) s h Q X = Q (.str x) h := (rfl)
theorem E_tup : wpE G T (.tup es) s h Q X = wpA G T es s h (fun xs h1 => xs.length ≤ sizeLine ∧ Q (.tup xs) h1) X := (rfl)
theorem E_lst : wpE G T (.lst es) s h Q X = wpA G T es s h (fun xs h1 => xs.length ≤ sizeLine ∧ Alloc h1 (.lst xs) Q) X := (rfl)
theorem E_bin {o : Op} : wpE G T (.bin o a b) s h Q X = wpE G T a s h (fun x h1 => wpE G T b s h1 (fun y h2 => opR o x y h2 Q) X) X := (rfl)
theorem E_neg : wpE G T (.neg a) s h Q X = wpE G T a s h (fun x h1 => lNeg x h1 Q) X := (rfl)
theorem E_cmp {o : Cp} : wpE G T (.cmp o a b) s h Q X = wpE G T a s h (fun x h1 => wpE G T b s h1 (fun y h2 => cpR o x y h2 Q) X) X := (rfl)
theorem E_chain {o o' : Cp} : wpE G T (.chain o o' a b c) s h Q X = wpE G T a s h (fun x h1 => wpE G T b s h1 (fun y h2 => cpR o x y h2 fun z h3 => isB z fun k => if k = true then wpE G T c s h3 (fun w h4 => cpR o' y w h4 Q) X else Q (.bl false) h3) X) X := (rfl)
theorem E_and : wpE G T (.and es) s h Q X = wpAV G T es s h Q X := (rfl)
theorem E_or : wpE G T (.or es) s h Q X = wpOV G T es s h Q X := (rfl)
theorem E_not : wpE G T (.not a) s h Q X = wpE G T a s h (fun x h1 => isB x fun c => Q (.bl (!c)) h1) X := (rfl)
theorem E_ife : wpE G T (.ife c a b) s h Q X = wpT G T c s h (fun k h1 => if k = true then wpE G T a s h1 Q X else wpE G T b s h1 Q X) X := (rfl)
theorem E_fld : wpE G T (.fld a f) s h Q X = wpE G T a s h (fun x h1 => InsM h1 x fun C fs => fldM G C f fs x h1 Q (G.attr C f)) X := by
  show wFld G (wpE G T a) f s h Q X = _
  unfold wFld
  congr 1
theorem E_ix : wpE G T (.ix a b) s h Q X = wpE G T a s h (fun x h1 => wpE G T b s h1 (fun y h2 => lIx x y h2 Q) X) X := (rfl)
theorem E_call : wpE G T (.call x es) s h Q X = ∃ sp, G.fn x = some sp ∧ wpA G T es s h (fun xs h1 => sp xs h1 Q X) X := (rfl)
theorem E_make : wpE G T (.make x es) s h Q X = ∃ C sp, G.cls x = some (C, sp) ∧ wpA G T es s h (fun xs h1 => Alloc h1 (.ins C []) fun x h2 => sp (x :: xs) h2 (fun y h3 => y = .non ∧ Q x h3) X) X := (rfl)
theorem E_blt {b : Blt} : wpE G T (.blt b es) s h Q X = wpA G T es s h (fun xs h1 => bltR b xs h1 Q) X := (rfl)
theorem E_meth {m : Str} {b : Bm} : wpE G T (.meth a m b es) s h Q X = wpE G T a s h (fun x h1 => mthM G T m b es s x Q X h1 (kd h1 x)) X := by
  show wMeth G m (T.meth m).isSome (lstM b es.len) (dctM b es.len) (wpE G T a) (wpA G T es) s h Q X = _
  unfold wMeth
  congr 1
  funext x h1
  cases kd h1 x
  · show _ = optM (lstM b es.len) _
    cases lstM b es.len <;> rfl
  · show _ = optM (dctM b es.len) _
    cases dctM b es.len <;> rfl
  all_goals rfl
def LcG (G : Glob) (T : Tab) (vs : List Nat) (g : Nt) (cs : Es) (e : E) (s : LSt) (L : LIt) (d : LV) (Q : LQ) (h : LH) : Prop := LcK (cs.cond (sems G T cs).at_) g (wpE G T e) vs s L d Q h
def ikM : Ik → List LV → LH → (LIt → LH → Prop) → Prop
  | .seq, xs, h, RL => seq1 xs h RL
  | .rng, xs, h, RL => rngM xs h RL
  | .enum, xs, h, RL => enum1 xs h RL
  | .items, xs, h, RL => itm1 .items xs h RL
  | .vals, xs, h, RL => itm1 .vals xs h RL
/-- a dict is locked meanwhile -/
def LockQ (f : LH → LQ → LX → Prop) (h : LH) (Q : LQ) : Prop := ∃ n v o, isD o = true ∧ h n = some (v, o) ∧ ∀ ob w, f (h.set n v (.fz o ob w)) (fun x h1 => h1 n = some (v, .fz o ob w) ∧ Q x (h1.set n v o)) fun _ _ => False
theorem lockQ_of {f : LH → LQ → LX → Prop} {n : Nm} {v : Nat} {o : LO} (hn : h n = some (v, o)) (hd : isD o = true) (p : ∀ ob w, f (h.set n v (.fz o ob w)) (fun x h1 => h1 n = some (v, .fz o ob w) ∧ Q x (h1.set n v o)) fun _ _ => False) : LockQ f h Q := ⟨n, v, o, hd, hn, p⟩
def LockS (t : LEnds → LSt → LH → Prop) (D : LEnds) (s : LSt) (h : LH) : Prop := ∃ n v o, isD o = true ∧ h n = some (v, o) ∧ ∀ ob w, t (lkE n v o ob w D) s (h.set n v (.fz o ob w))
theorem lockS_of {t : LEnds → LSt → LH → Prop} {n : Nm} {v : Nat} {o : LO} (hn : h n = some (v, o)) (hd : isD o = true) (p : ∀ ob w, t (lkE n v o ob w D) s (h.set n v (.fz o ob w))) : LockS t D s h := ⟨n, v, o, hd, hn, p⟩
theorem E_lcs {vs : List Nat} {g : Nt} {is cs : Es} : wpE G T (.lc vs g .seq is cs e) s h Q X = wpA G T is s h (fun xs h1 => seq1 xs h1 fun L h2 => Alloc h2 (.lst []) fun d h3 => LcG G T vs g cs e s L d Q h3) X := (rfl)
theorem E_lcr {vs : List Nat} {g : Nt} {is cs : Es} : wpE G T (.lc vs g .rng is cs e) s h Q X = wpA G T is s h (fun xs h1 => rngM xs h1 fun L h2 => Alloc h2 (.lst []) fun d h3 => LcG G T vs g cs e s L d Q h3) X := (rfl)
theorem E_lce {vs : List Nat} {g : Nt} {is cs : Es} : wpE G T (.lc vs g .enum is cs e) s h Q X = wpA G T is s h (fun xs h1 => enum1 xs h1 fun L h2 => Alloc h2 (.lst []) fun d h3 => LcG G T vs g cs e s L d Q h3) X := (rfl)
theorem E_lci {vs : List Nat} {g : Nt} {is cs : Es} : wpE G T (.lc vs g .items is cs e) s h Q X = LockQ (fun h Q X => wpA G T is s h (fun xs h1 => itm1 .items xs h1 fun L h2 => Alloc h2 (.lst []) fun d h3 => LcG G T vs g cs e s L d Q h3) X) h Q := (rfl)
theorem E_lcv {vs : List Nat} {g : Nt} {is cs : Es} : wpE G T (.lc vs g .vals is cs e) s h Q X = LockQ (fun h Q X => wpA G T is s h (fun xs h1 => itm1 .vals xs h1 fun L h2 => Alloc h2 (.lst []) fun d h3 => LcG G T vs g cs e s L d Q h3) X) h Q := (rfl)
def DcG (G : Glob) (T : Tab) (vs : List Nat) (g : Nt) (cs : Es) (ke ve : E) (s : LSt) (L : LIt) (d : LV) (Q : LQ) (h : LH) : Prop := DcK (cs.cond (sems G T cs).at_) g (wpE G T ke) (wpE G T ve) vs s L d Q h
theorem E_dci {vs : List Nat} {g : Nt} {is cs : Es} {ke ve : E} : wpE G T (.dc vs g .items is cs ke ve) s h Q X = LockQ (fun h Q X => wpA G T is s h (fun xs h1 => itm1 .items xs h1 fun L h2 => Alloc h2 (.dK []) fun d h3 => DcG G T vs g cs ke ve s L d Q h3) X) h Q := (rfl)
theorem Cd_nil {t : LTT} : Es.cond t .nil s h B X = B true h := (rfl)
theorem Cd_cons {t : LTT} : Es.cond t (.cons e es) s h B X = t s h B X := (rfl)
theorem K_sq1 {x : LV} {RL : LIt → LH → Prop} : seq1 [x] h RL = seqM x h RL := (rfl)
theorem K_it1 {x : LV} {dk : Dk} {RL : LIt → LH → Prop} : itm1 dk [x] h RL = itmM dk x h RL := (rfl)
theorem K_it2 {n : Nm} {v : Nat} {dk : Dk} {RL : LIt → LH → Prop} : itmM dk (.loc n v) h RL = itmO dk n v h RL (h n) := (rfl)
theorem K_it3 {n : Nm} {v v' : Nat} {dk : Dk} {o : LO} {ob : Obj} {w : HO} {RL : LIt → LH → Prop} : itmO dk n v h RL (some (v', .fz o ob w)) = (v' = v ∧ optM (dkL dk o) fun xs => RL (fzIt n v o ob w xs) h) := (rfl)
theorem E_lsRg : wpE G T (.lsRg es) s h Q X = wpA G T es s h (fun xs h1 => lsRg xs h1 Q) X := (rfl)
theorem V_lr1 {b : Int} : lsRg [.int b] h Q = (RgOk 0 b ∧ Alloc h (.lst (rgL 0 b)) Q) := (rfl)
theorem V_lr2 {a b : Int} : lsRg [.int a, .int b] h Q = (RgOk a b ∧ Alloc h (.lst (rgL a b)) Q) := (rfl)
theorem E_minv : wpE G T (.minv a) s h Q X = wpE G T a s h (fun x h1 => minVM x h1 Q) X := (rfl)
theorem V_mv1 {n : Nm} {v : Nat} : minVM (.loc n v) h Q = minVO h Q (h n) v := (rfl)
theorem V_mv2 {v v' : Nat} {kvs : List (Key × LV)} : minVO h Q (some (v', .dK kvs)) v = (v' = v ∧ ∃ (ns : List Int) (m : Int), kvs.map (·.2) = ns.map LV.int ∧ m ∈ ns ∧ (∀ y ∈ ns, m ≤ y) ∧ Q (.int m) h) := (rfl)
def kmM (x : Option (Nat × Nat × List (Str × Int) × List (List Str))) (P : List (Str × Int) → Prop) : Prop := ∃ lv n kd kss, x = some (lv, n, kd, kss) ∧ P kd
theorem km_some {lv n : Nat} {kd : List (Str × Int)} {kss : List (List Str)} {P : List (Str × Int) → Prop} : kmM (some (lv, n, kd, kss)) P = P kd := by
  apply propext
  refine ⟨fun ⟨_, _, _, _, e, p⟩ => by cases e; exact p, fun p => ⟨_, _, _, _, rfl, p⟩⟩
theorem E_mkw {m : Str} {ks : List Str} {vs : Es} : wpE G T (.mkw a m es ks vs) s h Q X = kmM (T.kmeth m) fun kd => wpE G T a s h (fun x h1 => InsM h1 x fun C fs => optM (G.meth C m) fun sp => fs.lookup m = none ∧ wpA G T es s h1 (fun xs h2 => wpA G T vs s h2 (fun zs h3 => sp (x :: xs ++ fillL kd ks zs) h3 Q X) X) X) X := (rfl)
theorem E_lcall : wpE G T (.lcall j es) s h Q X = getS s j fun x => atF G x fun sp => wpA G T es s h (fun xs h1 => sp xs h1 Q X) X := (rfl)
theorem V_atF {f : Addr} {P : LSp → Prop} : atF G (.ref f) P = optM (G.fat f) P := (rfl)
theorem E_gdx : wpE G T (.gdx x e) s h Q X = ∃ t, G.gdct x = some t ∧ wpE G T e s h (fun y h1 => strM y fun z => optM (t z) fun f => Q (.ref f) h1) X := (rfl)
theorem V_str {z : Str} {P : Str → Prop} : strM (.str z) P = P z := (rfl)
def hotM : Option (Addr × Addr) → (Addr → Addr → Prop) → Prop
  | some (a, C), P => P a C
  | none, _ => False
theorem V_hot {a C : Addr} {P : Addr → Addr → Prop} : hotM (some (a, C)) P = P a C := (rfl)
theorem E_isx : wpE G T (.isx j x) s h Q X = hotM G.hot fun a C => getS s j fun y => y = .ref a ∧ optM (G.exs C x) fun b => Q (.bl b) h := by
  apply propext
  constructor
  · rintro ⟨a, C, b, e1, e2, e3, q⟩
    rw [e1, V_hot]
    exact ⟨_, e2, rfl, by rw [e3]; exact q⟩
  · intro q
    unfold hotM at q
    split at q
    · rename_i a C e1
      obtain ⟨y, e2, rfl, q⟩ := q
      obtain ⟨b, e3, q⟩ := optM.of q
      exact ⟨a, C, b, e1, e2, e3, q⟩
    · exact q.elim
theorem E_disp : wpE G T (.disp es) s h Q X = Alloc h (.dK []) fun x h1 => wpA G T es s h1 (fun xs h2 => optM (pairsL xs) fun kvs => kvs.length ≤ 15 ∧ locM x fun n v => h2 n = some (v, .dK []) ∧ Q x (h2.set n v (.dK (mergeL kvs)))) X := (rfl)
theorem V_locM {n : Nm} {v : Nat} {P : Nm → Nat → Prop} : locM (.loc n v) P = P n v := (rfl)
theorem pairs_nil : pairsL [] = some [] := (rfl)
theorem pairs_str {k : Str} {y : LV} {r : List LV} : pairsL (.str k :: y :: r) = (pairsL r).map fun kvs => (.inr k, y) :: kvs := by
  rw [pairsL]
  simp only [keyOf]
  cases pairsL r <;> rfl
theorem pairs_int {k : Int} {y : LV} {r : List LV} : pairsL (.int k :: y :: r) = (pairsL r).map fun kvs => (.inl k, y) :: kvs := by
  rw [pairsL]
  simp only [keyOf]
  cases pairsL r <;> rfl
theorem merge_nil : mergeL [] = [] := (rfl)
theorem merge_one {k : Key} {x : LV} : mergeL [(k, x)] = [(k, x)] := (rfl)
theorem T_isx : wpT G T (.isx j x) s h B X = wpE G T (.isx j x) s h (fun x h1 => lTru x h1 fun k => B k h1) X := (rfl)
theorem T_mkw {m : Str} {ks : List Str} {vs : Es} : wpT G T (.mkw a m es ks vs) s h B X = wpE G T (.mkw a m es ks vs) s h (fun x h1 => lTru x h1 fun k => B k h1) X := (rfl)
theorem T_lc {vs : List Nat} {g : Nt} {k : Ik} {is cs : Es} : wpT G T (.lc vs g k is cs e) s h B X = wpE G T (.lc vs g k is cs e) s h (fun x h1 => lTru x h1 fun k => B k h1) X := (rfl)
theorem T_olen : wpT G T (.olen a) s h B X = wpE G T (.olen a) s h (fun x h1 => lTru x h1 fun k => B k h1) X := (rfl)
def prt (G : Glob) (T : Tab) (es : Es) (s : LSt) (h : LH) (k : Option Int → LH → Prop) (X : LX) : Prop := wPart (es.part (wpAV G T es)) s h k X
theorem E_sl {lo hi : Es} : wpE G T (.sl a lo hi) s h Q X = wpE G T a s h (fun x h1 => prt G T lo s h1 (fun l h2 => prt G T hi s h2 (fun u h3 => lSl x l u h3 Q) X) X) X := (rfl)
theorem E_dnew : wpE G T .dnew s h Q X = (Alloc h (.dK []) Q ∨ Alloc h (.dT []) Q) := (rfl)
theorem E_olen : wpE G T (.olen a) s h Q X = wpE G T a s h (fun x h1 => InsM h1 x fun C fs => olM G x h1 Q C fs) X := (rfl)
theorem V_olM {C : Addr} {x : LV} {fs : List (Str × LV)} : olM G x h Q C fs = optM (G.meth C "__len__") fun sp => sp [x] h (fun y h2 => isI y fun i => (0 ≤ i ∧ i < 2 ^ 63) ∧ Q (.int i) h2) fun _ _ => False := (rfl)
theorem S_rais : wpS G T (.rais x) D s h = ∃ C, G.exc x = some C ∧ D.xc C s h := (rfl)
theorem P_nil {k : Option Int → LH → Prop} : prt G T .nil s h k X = k none h := (rfl)
theorem P_one {k : Option Int → LH → Prop} : prt G T (.cons e .nil) s h k X = wpE G T e s h (fun x h1 => isI x fun i => k (some i) h1) X := (rfl)
theorem V_isI {P : Int → Prop} : isI (.int i) P = P i := (rfl)
theorem K_seq {x : LV} {RL : LIt → LH → Prop} : ikM .seq [x] h RL = seqM x h RL := (rfl)
theorem K_rng {xs : List LV} {RL : LIt → LH → Prop} : ikM .rng xs h RL = rngM xs h RL := (rfl)
theorem K_enum {x : LV} {RL : LIt → LH → Prop} : ikM .enum [x] h RL = enumM x h RL := (rfl)
theorem V_en1 {n : Nm} {v : Nat} {RL : LIt → LH → Prop} : enumM (.loc n v) h RL = lstO (h n) v (RL (enumIt (listIt n v)) h) := (rfl)
theorem V_en2 {ns : List Int} {RL : LIt → LH → Prop} : enumM (.rol ns) h RL = RL (enumIt (valsIt (ns.map LV.int))) h := (rfl)
theorem V_sl1 {n : Nm} {v : Nat} {lo hi : Option Int} : lSl (.loc n v) lo hi h Q = slM (h n) v lo hi h Q := (rfl)
theorem V_sl2 {v v' : Nat} {xs : List LV} {lo hi : Option Int} : slM (some (v', .lst xs)) v lo hi h Q = (v' = v ∧ Alloc h (.lst (cutL xs lo hi)) Q) := (rfl)
theorem V_sl3 {xs : List LV} {lo hi : Option Int} : lSl (.tup xs) lo hi h Q = Q (.tup (cutL xs lo hi)) h := (rfl)
theorem V_nt1 {x : LV} {P : LSt → Prop} : ntM (.one j) x s P = P (s.set j (some x)) := (rfl)
theorem V_nt2 {is : List Nat} {xs : List LV} {P : LSt → Prop} : ntM (.many is) (.tup xs) s P = (xs.length = is.length ∧ P (setAll s is xs)) := (rfl)
theorem V_sa1 {is : List Nat} {x : LV} {xs : List LV} {i : Nat} : setAll s (i :: is) (x :: xs) = setAll (s.set i (some x)) is xs := (rfl)
theorem V_sa2 {xs : List LV} : setAll s [] xs = s := (rfl)
theorem V_wi1 : wipeL s [] = s := (rfl)
theorem V_wi2 {v : Nat} {vs : List Nat} : wipeL s (v :: vs) = (wipeL s vs).set v none := (rfl)
theorem A_nil : wpA G T .nil s h A X = A [] h := (rfl)
theorem A_cons : wpA G T (.cons e es) s h A X = wpE G T e s h (fun x h1 => wpA G T es s h1 (fun xs h2 => A (x :: xs) h2) X) X := by cases es <;> rfl
theorem AV_1 : wpAV G T (.cons e .nil) s h Q X = wpE G T e s h Q X := (rfl)
theorem AV_2 {e' : E} : wpAV G T (.cons e (.cons e' es)) s h Q X = wpE G T e s h (fun x h1 => isB x fun c => if c = true then wpAV G T (.cons e' es) s h1 Q X else Q (.bl false) h1) X := (rfl)
theorem OV_1 : wpOV G T (.cons e .nil) s h Q X = wpE G T e s h Q X := (rfl)
theorem OV_2 {e' : E} : wpOV G T (.cons e (.cons e' es)) s h Q X = wpE G T e s h (fun x h1 => isB x fun c => if c = true then Q (.bl true) h1 else wpOV G T (.cons e' es) s h1 Q X) X := (rfl)
theorem AT_1 : wpAT G T (.cons e .nil) s h B X = wpT G T e s h B X := (rfl)
theorem AT_2 {e' : E} : wpAT G T (.cons e (.cons e' es)) s h B X = wpT G T e s h (fun c h1 => if c = true then wpAT G T (.cons e' es) s h1 B X else B false h1) X := (rfl)
theorem OT_1 : wpOT G T (.cons e .nil) s h B X = wpT G T e s h B X := (rfl)
theorem OT_2 {e' : E} : wpOT G T (.cons e (.cons e' es)) s h B X = wpT G T e s h (fun c h1 => if c = true then B true h1 else wpOT G T (.cons e' es) s h1 B X) X := (rfl)
theorem T_cmp {o : Cp} : wpT G T (.cmp o a b) s h B X = wpE G T a s h (fun x h1 => wpE G T b s h1 (fun y h2 => cpR o x y h2 fun z h3 => isB z fun k => B k h3) X) X := (rfl)
theorem T_chain {o o' : Cp} : wpT G T (.chain o o' a b c) s h B X = wpE G T (.chain o o' a b c) s h (fun z h3 => isB z fun k => B k h3) X := (rfl)
theorem T_and : wpT G T (.and es) s h B X = wpAT G T es s h B X := (rfl)
theorem T_or : wpT G T (.or es) s h B X = wpOT G T es s h B X := (rfl)
theorem T_not : wpT G T (.not a) s h B X = wpT G T a s h (fun c h1 => B (!c) h1) X := (rfl)
theorem T_var : wpT G T (.var j) s h B X = getS s j fun y => lTru y h fun k => B k h := (rfl)
theorem T_blt {b : Blt} : wpT G T (.blt b es) s h B X = wpE G T (.blt b es) s h (fun x h1 => lTru x h1 fun k => B k h1) X := (rfl)
theorem T_call : wpT G T (.call x es) s h B X = wpE G T (.call x es) s h (fun x h1 => lTru x h1 fun k => B k h1) X := (rfl)
theorem T_meth {m : Str} {b : Bm} : wpT G T (.meth a m b es) s h B X = wpE G T (.meth a m b es) s h (fun x h1 => lTru x h1 fun k => B k h1) X := (rfl)
theorem T_fld : wpT G T (.fld a f) s h B X = wpE G T (.fld a f) s h (fun x h1 => lTru x h1 fun k => B k h1) X := (rfl)
theorem T_ix : wpT G T (.ix a b) s h B X = wpE G T (.ix a b) s h (fun x h1 => lTru x h1 fun k => B k h1) X := (rfl)
theorem T_bin {o : Op} : wpT G T (.bin o a b) s h B X = wpE G T (.bin o a b) s h (fun x h1 => lTru x h1 fun k => B k h1) X := (rfl)
variable {g : Tg} {gs : Tgs} {y : LV} {P : LSt → LH → Prop} {XS : LXS} {ss : Ss} {st : S}
theorem G_name : wpG G T (.name j) y s h P XS = P (s.set j (some y)) h := (rfl)
theorem G_tup {ys : List LV} : wpG G T (.tup j gs) (.tup ys) s h P XS = (ys.length = j ∧ wpGs G T gs ys s h P XS) := (rfl)
theorem G_sub : wpG G T (.sub a b) y s h P XS = wpE G T a s h (fun o h1 => wpE G T b s h1 (fun i h2 => lSet o i y h2 fun h3 => P s h3) fun c h2 => XS c s h2) fun c h1 => XS c s h1 := (rfl)
theorem Gs_nil : wpGs G T .nil [] s h P XS = P s h := by
  apply propext; show ([] = [] ∧ P s h) ↔ _; simp
theorem Gs_cons {ys : List LV} : wpGs G T (.cons g gs) (y :: ys) s h P XS = wpG G T g y s h (fun s1 h1 => wpGs G T gs ys s1 h1 P XS) XS := (rfl)
variable {RL : LIt → LH → Prop} {z : Iz}
theorem I_seq : wpI G T (.seq e) s h RL X = wpE G T e s h (fun x h1 => seqM x h1 RL) X := (rfl)
theorem I_enum {es : Es} {RL : LIt → LH → Prop} : wpI G T (.enum es) s h RL X = wpA G T es s h (fun xs h1 => enum1 xs h1 RL) X := (rfl)
theorem V_en3 {x : LV} {RL : LIt → LH → Prop} : enum1 [x] h RL = enumM x h RL := (rfl)
theorem I_rng : wpI G T (.rng es) s h RL X = wpA G T es s h (fun xs h1 => rngM xs h1 RL) X := (rfl)
section
variable {i j : Int} {b : Bool} {v v' w : Nat} {n m : Nm} {xs ys : List LV} {x y : LV} {C : Addr} {fs : List (Str × LV)} {P : Prop} {PB : Bool → Prop} {PI : Addr → List (Str × LV) → Prop} {ns : List Int} {kvs : List (Key × LV)} {kts : List (List Key × LV)} {f : Str} {PH : LH → Prop} {PV : LV → Prop} {o : Option (Nat × LO)} {RL : LIt → LH → Prop}
theorem V_add  : lAdd (.int i) (.int j) h Q = Q (.int (i + j)) h := (rfl)
theorem V_addl  : lAdd (.loc n v) (.loc m w) h Q = ∃ xs ys, h n = some (v, .lst xs) ∧ h m = some (w, .lst ys) ∧ xs.length + ys.length ≤ sizeLine ∧ Alloc h (.lst (xs ++ ys)) Q := (rfl)
theorem V_sub  : lSub (.int i) (.int j) h Q = Q (.int (i - j)) h := (rfl)
theorem V_mul  : lMul (.int i) (.int j) h Q = (CMul i j ∧ Q (.int (i * j)) h) := (rfl)
theorem V_mull  : lMul (.loc n v) (.int j) h Q = ∃ xs, h n = some (v, .lst xs) ∧ -(2 ^ 63) ≤ j ∧ j < 2 ^ 63 ∧ xs.length * j.toNat ≤ sizeLine ∧ Alloc h (.lst (List.replicate j.toNat xs).flatten) Q := (rfl)
theorem V_fdiv  : lFDiv (.int i) (.int j) h Q = (CDivW i j ∧ Q (.int (i / j)) h) := (rfl)
theorem V_mod  : lMod (.int i) (.int j) h Q = (0 < j ∧ Q (.int (i % j)) h) := (rfl)
theorem V_pow  : lPow (.int i) (.int j) h Q = (CPow i j ∧ Q (.int (i ^ j.toNat)) h) := (rfl)
theorem V_cmp {p : Int → Int → Bool} : lCmp p (.int i) (.int j) h Q = Q (.bl (p i j)) h := (rfl)
theorem V_neg  : lNeg (.int i) h Q = Q (.int (-i)) h := (rfl)
theorem V_isn  : lIsB x .non h Q = Q (.bl x.isNon) h := by cases x <;> rfl
theorem V_notn  : lNotB x .non h Q = Q (.bl (!x.isNon)) h := by cases x <;> rfl
theorem V_isb {a b : Bool} : lIsB (.bl a) (.bl b) h Q = Q (.bl (a == b)) h := (rfl)
theorem V_notb {a b : Bool} : lNotB (.bl a) (.bl b) h Q = Q (.bl (!(a == b))) h := (rfl)
theorem V_in : lIn x y h Q = inM x h (fun k => Q (.bl k) h) y := (rfl)
theorem V_nin : lNin x y h Q = inM x h (fun k => Q (.bl (!k)) h) y := (rfl)
theorem V_inm1 : inM x h PB (.tup xs) = inP xs x PB := (rfl)
theorem V_inm2 : inM x h PB (.loc n v) = inO x (.loc n v) h PB (h n) v := (rfl)
theorem V_ino1 : inO x y h PB (some (w, .lst xs)) v = (w = v ∧ inP xs x PB) := (rfl)
theorem V_ino2 : inO x y h PB (some (w, .dK kvs)) v = lookM h y x fun o => PB o.isSome := (rfl)
theorem V_ino3 : inO x y h PB (some (w, .dT kts)) v = lookM h y x fun o => PB o.isSome := (rfl)
theorem V_ino4 {o : LO} {ob : Obj} {u : HO} : inO x y h PB (some (w, .fz o ob u)) v = lookM h y x fun o => PB o.isSome := (rfl)
theorem V_lk1 {PO : Option LV → Prop} : lookM h (.loc n v) y PO = lookO v y PO (h n) := (rfl)
theorem V_lk2 {PO : Option LV → Prop} : lookO v y PO (some (w, .dK kvs)) = (w = v ∧ optM (keyOf y) fun k => PO (getK kvs k)) := (rfl)
theorem V_lk3 {PO : Option LV → Prop} : lookO v y PO (some (w, .dT kts)) = (w = v ∧ optM (keysOf y) fun k => PO (getK kts k)) := (rfl)
theorem V_lk4 {PO : Option LV → Prop} {ob : Obj} {u : HO} : lookO v y PO (some (w, .fz (.dK kvs) ob u)) = (w = v ∧ optM (keyOf y) fun k => PO (getK kvs k)) := (rfl)
theorem V_lk5 {PO : Option LV → Prop} {ob : Obj} {u : HO} : lookO v y PO (some (w, .fz (.dT kts) ob u)) = (w = v ∧ optM (keysOf y) fun k => PO (getK kts k)) := (rfl)
theorem V_tk1 {PO : Option LV → LH → Prop} : takeM (.loc n v) y h PO = takeO n v y h PO (h n) := (rfl)
theorem V_tk2 {PO : Option LV → LH → Prop} : takeO n v y h PO (some (w, .dK kvs)) = (w = v ∧ optM (keyOf y) fun k => PO (getK kvs k) (h.set n v (.dK (dropK kvs k)))) := (rfl)
theorem V_tk3 {PO : Option LV → LH → Prop} : takeO n v y h PO (some (w, .dT kts)) = (w = v ∧ optM (keysOf y) fun k => PO (getK kts k) (h.set n v (.dT (dropK kts k)))) := (rfl)
theorem V_dg1 : lDGet x [y] h Q = lookM h x y fun o => Q (o.getD .non) h := (rfl)
theorem V_dg2 {z : LV} : lDGet x [y, z] h Q = lookM h x y fun o => Q (o.getD z) h := (rfl)
theorem V_dp1 : lDPop x [y] h Q = takeM x y h fun o h3 => optM o fun u => Q u h3 := (rfl)
theorem V_dp2 {z : LV} : lDPop x [y, z] h Q = takeM x y h fun o h3 => popR z h Q o h3 := (rfl)
theorem V_pr1 {z u : LV} {h3 : LH} : popR z h Q (some u) h3 = Q u h3 := (rfl)
theorem V_pr2 {z : LV} {h3 : LH} : popR z h Q none h3 = Q z h := (rfl)
theorem V_rm : lRemove (.loc n v) [y] h Q = ∃ ys k j, h n = some (v, .lst ys) ∧ k ≤ 60 ∧ nb k y = true ∧ nbs k ys = true ∧ ys[j]? = some y ∧ (∀ i : Nat, i < j → ys[i]? ≠ some y) ∧ Q .non (h.set n v (.lst (ys.eraseIdx j))) := (rfl)
theorem V_ct : lCount (.loc n v) [y] h Q = ∃ ys ds d, h n = some (v, .lst ys) ∧ dats h 6 ys = some ds ∧ dat h 6 y = some d ∧ d.depth ≤ 60 ∧ Q (.int (ds.countP fun z => PyData.eqv z d : Nat)) h := (rfl)
theorem V_so1 : lSorted [.loc n v] h Q = sortO h Q (h n) v := (rfl)
theorem V_so2 : sortO h Q (some (w, .dK kvs)) v = (w = v ∧ ∃ ks : List Int, kvs.map (·.1) = ks.map Sum.inl ∧ Alloc h (.lst ((sortI ks).map LV.int)) Q) := (rfl)
theorem V_so3 : sortO h Q (some (w, .dT kts)) v = (w = v ∧ ∃ ks : List (Int × Int), kts.map (·.1) = ks.map (fun p => [Sum.inl p.1, Sum.inl p.2]) ∧ Alloc h (.lst ((sortP ks).map pv)) Q) := (rfl)
theorem V_sum1 : lSum [.loc n v] h Q = sumO h Q (h n) v := (rfl)
theorem V_sum2 : sumO h Q (some (w, .lst xs)) v = (w = v ∧ ∃ ns : List Int, xs = ns.map LV.int ∧ Q (.int ns.sum) h) := (rfl)
theorem V_ln6  : lenO h Q (some (w, .dT kts)) v = (w = v ∧ Q (.int kts.length) h) := (rfl)
theorem N_non  : LV.isNon .non = true := (rfl)
theorem N_int  : LV.isNon (.int i) = false := (rfl)
theorem N_bl  : LV.isNon (.bl b) = false := (rfl)
theorem N_tup  : LV.isNon (.tup xs) = false := (rfl)
theorem N_loc  : LV.isNon (.loc n v) = false := (rfl)
theorem V_B  : isB (.bl b) PB = PB b := (rfl)
theorem V_t1  : lTru .non h PB = PB false := (rfl)
theorem V_t2  : lTru (.bl b) h PB = PB b := (rfl)
theorem V_t3  : lTru (.int i) h PB = PB (i != 0) := (rfl)
theorem V_t4  : lTru (.tup xs) h PB = PB (!xs.isEmpty) := (rfl)
theorem V_t5  : lTru (.loc n v) h PB = truO (h n) v PB := (rfl)
theorem V_t6  : truO (some (w, .lst xs)) v PB = (w = v ∧ PB (!xs.isEmpty)) := (rfl)
theorem V_t7  : truO (some (w, .dK kvs)) v PB = (w = v ∧ PB (!kvs.isEmpty)) := (rfl)
theorem V_in1  : InsM h (.loc n v) PI = insO (h n) v PI := (rfl)
theorem V_in2  : insO (some (w, .ins C fs)) v PI = (w = v ∧ PI C fs) := (rfl)
theorem V_op1 {α : Type} {a : α} {PA : α → Prop} : optM (some a) PA = PA a := (rfl)
theorem V_at {α : Type} {l : List α} {PA : α → Prop} : atM l (.int i) PA = optM (atI l i) PA := (rfl)
theorem V_ix1  : lIx (.tup xs) y h Q = atM xs y fun u => Q u h := (rfl)
theorem V_ix2  : lIx (.rol ns) y h Q = atM ns y fun u => Q (.int u) h := (rfl)
theorem V_ix3  : lIx (.loc n v) y h Q = ixO h (.loc n v) y Q (h n) v := (rfl)
theorem V_ix4  : ixO h x y Q (some (w, .lst xs)) v = (w = v ∧ atM xs y fun u => Q u h) := (rfl)
theorem V_ix5  : ixO h x y Q (some (w, .dK kvs)) v = ∃ u, DAt h x y (some u) ∧ Q u h := (rfl)
theorem V_ix6  : ixO h x y Q (some (w, .dT kts)) v = ∃ u, DAt h x y (some u) ∧ Q u h := (rfl)
theorem V_st1  : lSet (.loc n v) x y h PH = setO n v x y h PH (h n) := (rfl)
theorem V_st2  : setO n v (.int i) y h PH (some (w, .lst xs)) = (w = v ∧ optM (ixN xs.length i) fun j => PH (h.set n v (.lst (xs.set j y)))) := (rfl)
theorem V_st3  : setO n v x y h PH (some (w, .dK kvs)) = (w = v ∧ optM (keyOf x) fun z => kvs.length < sizeLine ∧ PH (h.set n v (.dK (putK kvs z y)))) := (rfl)
theorem V_st4  : setO n v x y h PH (some (w, .dT kts)) = (w = v ∧ optM (keysOf x) fun z => kts.length < sizeLine ∧ PH (h.set n v (.dT (putK kts z y)))) := (rfl)
theorem V_ln1  : lLen [.tup xs] h Q = Q (.int xs.length) h := (rfl)
theorem V_ln2  : lLen [.rol ns] h Q = Q (.int ns.length) h := (rfl)
theorem V_ln3  : lLen [.loc n v] h Q = lenO h Q (h n) v := (rfl)
theorem V_ln4  : lenO h Q (some (w, .lst xs)) v = (w = v ∧ Q (.int xs.length) h) := (rfl)
theorem V_ln5  : lenO h Q (some (w, .dK kvs)) v = (w = v ∧ Q (.int kvs.length) h) := (rfl)
theorem V_int1  : lInt [.int i] h Q = Q (.int i) h := (rfl)
theorem V_int2  : lInt [.bl b] h Q = Q (.int (if b then 1 else 0)) h := (rfl)
theorem V_abs  : lAbs [.int i] h Q = Q (.int (if i < 0 then -i else i)) h := (rfl)
theorem V_max  : lMaxL [.int i, .int j] h Q = Q (.int (max i j)) h := (rfl)
theorem V_min  : lMinL [.int i, .int j] h Q = Q (.int (min i j)) h := (rfl)
theorem V_mx2 : lMaxL [.loc n v] h Q = mmO (fun m y => y ≤ m) h Q (h n) v := (rfl)
theorem V_mn2 : lMinL [.loc n v] h Q = mmO (fun m y => m ≤ y) h Q (h n) v := (rfl)
theorem V_mm {PP : Int → Int → Prop} : mmO PP h Q (some (w, .lst xs)) v = (w = v ∧ ∃ (ns : List Int) (m : Int), xs = ns.map LV.int ∧ m ∈ ns ∧ (∀ y ∈ ns, PP m y) ∧ Q (.int m) h) := (rfl)
theorem V_li1  : lListC [.tup xs] h Q = Alloc h (.lst xs) Q := (rfl)
theorem V_li2  : lListC [.loc n v] h Q = listO2 h Q (h n) v := (rfl)
theorem V_li4 : listO2 h Q (some (w, .dK kvs)) v = (w = v ∧ Alloc h (.lst (kvs.map fun kv => keyL kv.1)) Q) := (rfl)
theorem V_li5 : listO2 h Q (some (w, .dT kts)) v = (w = v ∧ Alloc h (.lst (kts.map fun kv => .tup (kv.1.map keyL))) Q) := (rfl)
theorem V_li3  : listO2 h Q (some (w, .lst xs)) v = (w = v ∧ Alloc h (.lst xs) Q) := (rfl)
theorem V_tu1  : lTuple [.tup xs] h Q = Q (.tup xs) h := (rfl)
theorem V_tu2  : lTuple [.loc n v] h Q = tupO h Q (h n) v := (rfl)
theorem V_tu3  : tupO h Q (some (w, .lst xs)) v = (w = v ∧ Q (.tup xs) h) := (rfl)
theorem V_kd1  : kd h (.loc n v) = kdO (h n) v := (rfl)
theorem V_kd2  : kdO (some (w, .lst xs)) v = if w = v then .lst else .oth := (rfl)
theorem V_kd3  : kdO (some (w, .ins C fs)) v = if w = v then .ins C fs else .oth := (rfl)
theorem V_kd4  : kdO (some (w, .dK kvs)) v = if w = v then .dct else .oth := (rfl)
theorem V_kd5  : kdO (some (w, .dT kts)) v = if w = v then .dct else .oth := (rfl)
theorem V_ap  : lAppend (.loc n v) [y] h Q = ∃ ys, h n = some (v, .lst ys) ∧ ys.length < sizeLine ∧ Q .non (h.set n v (.lst (ys ++ [y]))) := (rfl)
theorem V_ex  : lExtend (.loc n v) [.loc m w] h Q = ∃ ys zs, h n = some (v, .lst ys) ∧ h m = some (w, .lst zs) ∧ ys.length + zs.length ≤ sizeLine ∧ Q .non (h.set n v (.lst (ys ++ zs))) := (rfl)
theorem V_po  : lPop (.loc n v) [] h Q = ∃ ys y, h n = some (v, .lst ys) ∧ ys[ys.length - 1]? = some y ∧ Q y (h.set n v (.lst ys.dropLast)) := (rfl)
theorem V_pa  : lPopAt (.loc n v) [.int i] h Q = ∃ ys k y, h n = some (v, .lst ys) ∧ -(2 ^ 63) ≤ i ∧ i < 2 ^ 63 ∧ seqIndex? i ys.length = some k ∧ ys[k]? = some y ∧ Q y (h.set n v (.lst (ys.eraseIdx k))) := (rfl)
theorem V_rv  : lReverse (.loc n v) [] h Q = ∃ ys, h n = some (v, .lst ys) ∧ Q .non (h.set n v (.lst ys.reverse)) := (rfl)
theorem V_cl  : lClear (.loc n v) [] h Q = ∃ ys, h n = some (v, .lst ys) ∧ Q .non (h.set n v (.lst [])) := (rfl)
theorem V_ai  : addI (.int i) (.int j) PV = PV (.int (i + j)) := (rfl)
theorem V_sf  : setF (.loc n v) C f fs y h PH = (fs.length < 1000 ∧ PH (h.set n v (.ins C (putL f y fs)))) := (rfl)
theorem V_sq1  : seqM (.loc n v) h RL = lstO (h n) v (RL (listIt n v) h) := (rfl)
theorem V_sq2  : seqM (.tup xs) h RL = RL (valsIt xs) h := (rfl)
theorem V_sq3  : seqM (.rol ns) h RL = RL (valsIt (ns.map LV.int)) h := (rfl)
theorem V_sq4  : lstO (some (w, .lst xs)) v P = (w = v ∧ P) := (rfl)
theorem V_rg1  : rngM [.int j] h RL = ((-(2 ^ 62) ≤ j ∧ j < 2 ^ 62) ∧ RL (rngIt 0 j.toNat) h) := (rfl)
theorem V_rg2  : rngM [.int i, .int j] h RL = ((-(2 ^ 62) ≤ i ∧ i < 2 ^ 62 ∧ -(2 ^ 62) ≤ j ∧ j < 2 ^ 62) ∧ RL (rngIt i (j - i).toNat) h) := (rfl)
theorem V_mt1 {mt : Str} {bm : Bm} {es : Es} : mthM G T mt bm es s x Q X h .lst = optM (lstM bm es.len) fun r => wpA G T es s h (fun xs h2 => r x xs h2 Q) X := (rfl)
theorem V_mt2 {mt : Str} {bm : Bm} {es : Es} : mthM G T mt bm es s x Q X h (.ins C fs) = ((T.meth mt).isSome = true ∧ ∃ sp, G.meth C mt = some sp ∧ fs.lookup mt = none ∧ wpA G T es s h (fun xs h2 => sp (x :: xs) h2 Q X) X) := (rfl)
theorem V_mt3 {mt : Str} {bm : Bm} {es : Es} : mthM G T mt bm es s x Q X h .dct = optM (dctM bm es.len) fun r => wpA G T es s h (fun xs h2 => r x xs h2 Q) X := (rfl)
theorem V_fd1  : fldM G C f fs x h Q true = optM (fs.lookup f) fun y => Q y h := (rfl)
theorem V_fd2  : fldM G C f fs x h Q false = optM (G.prop C f) fun sp => sp [x] h Q fun _ _ => False := (rfl)
theorem V_bl1  : Es.len .nil = 0 := (rfl)
theorem V_bl2 {e : E} {r : Es} : Es.len (.cons e r) = r.len + 1 := (rfl)
theorem O_add  : opR .add = lAdd := (rfl)
theorem O_sub  : opR .sub = lSub := (rfl)
theorem O_mul  : opR .mul = lMul := (rfl)
theorem O_fdiv  : opR .fdiv = lFDiv := (rfl)
theorem O_mod  : opR .mod = lMod := (rfl)
theorem O_pow  : opR .pow = lPow := (rfl)
theorem C_eq  : cpR .eq = lEq := (rfl)
theorem C_ne  : cpR .ne = lNe := (rfl)
theorem C_lt  : cpR .lt = lCmp fun i j => decide (i < j) := (rfl)
theorem C_le  : cpR .le = lCmp fun i j => decide (i ≤ j) := (rfl)
theorem C_gt  : cpR .gt = lCmp fun i j => decide (j < i) := (rfl)
theorem C_ge  : cpR .ge = lCmp fun i j => decide (j ≤ i) := (rfl)
theorem C_is  : cpR .is = lIsB := (rfl)
theorem C_isn  : cpR .isn = lNotB := (rfl)
theorem C_in : cpR .isin = lIn := (rfl)
theorem C_nin : cpR .nin = lNin := (rfl)
theorem F_len  : bltR .len = lLen := (rfl)
theorem F_int  : bltR .int = lInt := (rfl)
theorem F_abs  : bltR .abs = lAbs := (rfl)
theorem F_max  : bltR .max = lMaxL := (rfl)
theorem F_min  : bltR .min = lMinL := (rfl)
theorem F_list  : bltR .list = lListC := (rfl)
theorem F_sorted : bltR .sorted = lSorted := (rfl)
theorem F_sum : bltR .sum = lSum := (rfl)
theorem M_remove1 : lstM .remove 1 = some lRemove := (rfl)
theorem M_count1 : lstM .count 1 = some lCount := (rfl)
theorem M_dget {k : Nat} : dctM .get k = some lDGet := (rfl)
theorem M_dpop {k : Nat} : dctM .pop k = some lDPop := (rfl)
theorem F_tuple  : bltR .tuple = lTuple := (rfl)
theorem F_isi  : bltR .isi = lIsi := (rfl)
theorem M_append1  : lstM .append 1 = some lAppend := (rfl)
theorem M_extend1  : lstM .extend 1 = some lExtend := (rfl)
theorem M_pop0  : lstM .pop 0 = some lPop := (rfl)
theorem M_pop1  : lstM .pop 1 = some lPopAt := (rfl)
theorem M_reverse0  : lstM .reverse 0 = some lReverse := (rfl)
theorem M_clear0  : lstM .clear 0 = some lClear := (rfl)
end
theorem Ss_nil : wpSs G T .nil D s h = D.nx s h := (rfl)
theorem Ss_cons : wpSs G T (.cons st ss) D s h = wpS G T st { D with nx := wpSs G T ss D } s h := (rfl)
theorem S_expr : wpS G T (.expr e) D s h = wpE G T e s h (fun _ h1 => D.nx s h1) fun c h1 => D.xc c s h1 := (rfl)
theorem S_ret : wpS G T (.ret e) D s h = wpE G T e s h D.rt fun c h1 => D.xc c s h1 := (rfl)
theorem S_retN : wpS G T .retN D s h = D.rt .non h := (rfl)
theorem S_brk : wpS G T .brk D s h = D.bk s h := (rfl)
theorem S_cnt : wpS G T .cnt D s h = D.ct s h := (rfl)
theorem S_pass : wpS G T .pass D s h = D.nx s h := (rfl)
theorem S_asg : wpS G T (.asg g e) D s h = wpE G T e s h (fun x h1 => wpG G T g x s h1 D.nx D.xc) fun c h1 => D.xc c s h1 := (rfl)
theorem S_fld : wpS G T (.fld a f e) D s h = wpE G T e s h (fun y h1 => wpE G T a s h1 (fun x h2 => InsM h2 x fun C fs => G.attr C f = true ∧ setF x C f fs y h2 fun h3 => D.nx s h3) fun c h2 => D.xc c s h2) fun c h1 => D.xc c s h1 := (rfl)
theorem S_flda : wpS G T (.flda a f e) D s h = wpE G T a s h (fun x h1 => InsM h1 x fun C fs => G.attr C f = true ∧ optM (fs.lookup f) fun z =>
  wpE G T e s h1 (fun y h2 => InsM h2 x fun C' fs' => C' = C ∧ addI z y fun u => setF x C f fs' u h2 fun h4 => D.nx s h4) fun c h2 => D.xc c s h2) fun c h1 => D.xc c s h1 := (rfl)
theorem S_ifs {u v : Ss} : wpS G T (.ifs c u v) D s h = wpT G T c s h (fun b h1 => if b = true then wpSs G T u D s h1 else wpSs G T v D s h1) fun c h1 => D.xc c s h1 := (rfl)
/-- what is asked of a loop, once it is known what is walked -/
def ForK (G : Glob) (T : Tab) (g : Tg) (ss : Ss) (D : LEnds) (s : LSt) : LIt → LH → Prop := fun L h1 => ∃ Wl : Nat → Nat → LSt → LH → Prop, (∃ n, Wl 0 n s h1) ∧ ∀ i n s h, Wl i n s h → (L i h = some none ∧ D.nx s h) ∨ ∃ x, L i h = some (some x) ∧
  ∃ N : LSt → LH → Prop, (∀ s' h', N s' h' → ∃ n', n' < n ∧ Wl (i + 1) n' s' h') ∧ wpG G T g x s h (fun s2 h2 => wpSs G T ss { D with nx := Fgt N, ct := Fgt N, bk := D.nx } s2 h2) D.xc
theorem S_fors : wpS G T (.for g (.seq e) ss) D s h = wpI G T (.seq e) s h (ForK G T g ss D s) fun c h1 => D.xc c s h1 := (rfl)
theorem S_forr : wpS G T (.for g (.rng es) ss) D s h = wpI G T (.rng es) s h (ForK G T g ss D s) fun c h1 => D.xc c s h1 := (rfl)
theorem S_fore : wpS G T (.for g (.enum es) ss) D s h = wpI G T (.enum es) s h (ForK G T g ss D s) fun c h1 => D.xc c s h1 := (rfl)
theorem S_fori {dk : Dk} : wpS G T (.for g (.itm dk e) ss) D s h = LockS (fun D s h => wpE G T e s h (fun x h1 => itmM dk x h1 (ForK G T g ss D s)) fun c h1 => D.xc c s h1) D s h := (rfl)
theorem S_del : wpS G T (.del a b) D s h = wpE G T a s h (fun x h1 => wpE G T b s h1 (fun y h2 => takeM x y h2 fun o h3 => o.isSome = true ∧ D.nx s h3) fun c h2 => D.xc c s h2) fun c h1 => D.xc c s h1 := (rfl)
def HdX (G : Glob) (T : Tab) (hs : Hs) (D : LEnds) : LXS := hdX G D (wpHs G T hs)
theorem S_try {hs : Hs} : wpS G T (.tryS ss hs) D s h = wpSs G T ss { D with xc := HdX G T hs D } s h := (rfl)
theorem H_nil {C : Addr} : HdX G T .nil D C s h = D.xc C s h := (rfl)
theorem H_cons {C : Addr} {o : Option Nat} {hs : Hs} : HdX G T (.cons x o ss hs) D C s h = optM (G.exs C x) fun b => tryM b (∀ a, wpSs (G.at a C) T ss (dnL o D) (snL o a s) h) (HdX G T hs D C s h) := (rfl)
theorem H_y {p q : Prop} : tryM true p q = p := (rfl)
theorem H_n {p q : Prop} : tryM false p q = q := (rfl)
theorem dnL_n : dnL none D = { nx := D.nx, rt := D.rt, bk := D.bk, ct := D.ct } := (rfl)
theorem dnL_s : dnL (some j) D = { nx := fun s h => D.nx (s.set j none) h, rt := D.rt, bk := fun s h => D.bk (s.set j none) h, ct := fun s h => D.ct (s.set j none) h } := (rfl)
theorem snL_n {a : Addr} : snL none a s = s := (rfl)
theorem snL_s {a : Addr} : snL (some j) a s = s.set j (some (.ref a)) := (rfl)
theorem at_fn {a C : Addr} : (G.at a C).fn = G.fn := (rfl)
theorem at_exs {a C : Addr} : (G.at a C).exs = G.exs := (rfl)
theorem at_hot {a C : Addr} : (G.at a C).hot = some (a, C) := (rfl)
theorem at_con {a C : Addr} : (G.at a C).con = G.con := (rfl)
theorem S_whl : wpS G T (.whl c ss) D s h = wWhile (wpT G T c) (wpSs G T ss) D s h := (rfl)
/-- the loop's ends at a turn that is to reach P -/
abbrev turn (D : LEnds) (P : LSt → LH → Prop) : LEnds := { D with nx := Fgt P, ct := Fgt P, bk := D.nx }
theorem forK_vals {xs : List LV} (Pv : Nat → LSt → LH → Prop) (h0 : Pv 0 s h) (hs : ∀ i x s h, xs[i]? = some x → Pv i s h → wpG G T g x s h (fun s2 h2 => wpSs G T ss (turn D (Pv (i + 1))) s2 h2) D.xc)
    (he : ∀ s h, Pv xs.length s h → D.nx s h) : ForK G T g ss D s (valsIt xs) h := for_vals Pv h0 hs he
theorem forK_rng {lo : Int} {n : Nat} (Pv : Nat → LSt → LH → Prop) (h0 : Pv 0 s h) (hs : ∀ i s h, i < n → Pv i s h → wpG G T g (.int (lo + i)) s h (fun s2 h2 => wpSs G T ss (turn D (Pv (i + 1))) s2 h2) D.xc)
    (he : ∀ s h, Pv n s h → D.nx s h) : ForK G T g ss D s (rngIt lo n) h := for_rng Pv h0 hs he
theorem forK_lst {n : Nm} {v : Nat} {xs : List LV} (Pv : Nat → LSt → LH → Prop) (h0 : Pv 0 s h) (hl : ∀ i s h, Pv i s h → h n = some (v, .lst xs))
    (hs : ∀ i x s h, xs[i]? = some x → Pv i s h → wpG G T g x s h (fun s2 h2 => wpSs G T ss (turn D (Pv (i + 1))) s2 h2) D.xc) (he : ∀ s h, Pv xs.length s h → D.nx s h) : ForK G T g ss D s (listIt n v) h := for_lst Pv h0 hl hs he
theorem forK_fz {n : Nm} {v : Nat} {o : LO} {ob : Obj} {w : HO} {xs : List LV} (Pv : Nat → LSt → LH → Prop) (h0 : Pv 0 s h) (hl : ∀ i s h, Pv i s h → h n = some (v, .fz o ob w))
    (hs : ∀ i x s h, xs[i]? = some x → Pv i s h → wpG G T g x s h (fun s2 h2 => wpSs G T ss (turn D (Pv (i + 1))) s2 h2) D.xc) (he : ∀ s h, Pv xs.length s h → D.nx s h) : ForK G T g ss D s (fzIt n v o ob w xs) h :=
  for_n xs.length Pv h0 (fun i s h hi p => ⟨xs[i], by rw [fzIt_at (hl i s h p), List.getElem?_eq_getElem hi], hs i _ s h (List.getElem?_eq_getElem hi) p⟩) fun s h p => ⟨by rw [fzIt_at (hl _ s h p)]; simp, he s h p⟩
end
/-! ### dicts, one step each -/
def datO (v : Nat) (y : LV) (o : Option LV) : Option (Nat × LO) → Prop
  | some (v', .dK kvs) => v' = v ∧ ∃ k, keyOf y = some k ∧ getK kvs k = o
  | some (v', .dT kvs) => v' = v ∧ ∃ k, keysOf y = some k ∧ getK kvs k = o
  | some (v', .fz (.dK kvs) _ _) => v' = v ∧ ∃ k, keyOf y = some k ∧ getK kvs k = o
  | some (v', .fz (.dT kvs) _ _) => v' = v ∧ ∃ k, keysOf y = some k ∧ getK kvs k = o
  | _ => False
theorem D_loc {h : LH} {n : Nm} {v : Nat} {y : LV} {o : Option LV} : DAt h (.loc n v) y o = datO v y o (h n) := by
  unfold DAt datO
  rfl
theorem D_k {v w : Nat} {y : LV} {o : Option LV} {kvs : List (Key × LV)} : datO v y o (some (w, .dK kvs)) = (w = v ∧ ∃ k, keyOf y = some k ∧ getK kvs k = o) := (rfl)
theorem D_t {v w : Nat} {y : LV} {o : Option LV} {kvs : List (List Key × LV)} : datO v y o (some (w, .dT kvs)) = (w = v ∧ ∃ k, keysOf y = some k ∧ getK kvs k = o) := (rfl)
theorem key_int {i : Int} : keyOf (.int i) = some (.inl i) := (rfl)
theorem key_str {x : Str} : keyOf (.str x) = some (.inr x) := (rfl)
theorem keys_2 {i j : Int} : keysOf (.tup [.int i, .int j]) = some [.inl i, .inl j] := (rfl)
theorem getK_str {a b : String} {v : LV} {r : List (Key × LV)} : getK ((Sum.inr (Str.ofString b), v) :: r) (Sum.inr (Str.ofString a)) = if b = a then some v else getK r (Sum.inr (Str.ofString a)) := by
  unfold getK
  rw [List.find?_cons]
  have e : (Sum.inr (Str.ofString b) = (Sum.inr (Str.ofString a) : Key)) = (b = a) := by rw [Sum.inr.injEq, ofS_eq]
  by_cases h : b = a
  · simp [e, h]
  · have : ¬ ((Sum.inr (Str.ofString b) : Key) = Sum.inr (Str.ofString a)) := by rw [e]; exact h
    simp [this, h]
theorem getK_nil {κ : Type} [DecidableEq κ] {k : κ} : getK [] k = none := (rfl)
theorem cdivw {p j : Int} (h : 0 < j) (h2 : j < 2 ^ 62) : CDivW p j := by
  refine ⟨h, ?_⟩
  have e : j.natAbs.log2 < 62 := (Nat.log2_lt (by omega)).mpr (by omega)
  omega
/-! ### isinstance of a list, a dict -/
def isiO (v : Nat) (t : String) (h : LH) (Q : LQ) : Option (Nat × LO) → Prop
  | some (v', .lst _) => v' = v ∧ ∃ b, kitB "list" t = some b ∧ Q (.bl b) h
  | some (v', .dK _) => v' = v ∧ ∃ b, kitB "dict" t = some b ∧ Q (.bl b) h
  | some (v', .dT _) => v' = v ∧ ∃ b, kitB "dict" t = some b ∧ Q (.bl b) h
  | _ => False
def tyO (v : Nat) : Option (Nat × LO) → Option String
  | some (v', .lst _) => if v' = v then some "list" else none
  | some (v', .dK _) => if v' = v then some "dict" else none
  | some (v', .dT _) => if v' = v then some "dict" else none
  | _ => none
theorem tyO_eq {h : LH} {n : Nm} {v : Nat} : tyOf h (.loc n v) = tyO v (h n) := by
  show (match h n with | some (v', .lst _) => _ | some (v', .dK _) => _ | some (v', .dT _) => _ | _ => _) = _
  unfold tyO
  rfl
theorem isi_loc {n : Nm} {v : Nat} {t : String} {h : LH} {Q : LQ} : lIsi [.loc n v, .ty t] h Q = isiO v t h Q (h n) := by
  apply propext
  have e : lIsi [.loc n v, .ty t] h Q = ∃ s b, tyOf h (.loc n v) = some s ∧ kitB s t = some b ∧ Q (.bl b) h := (rfl)
  rw [e, tyO_eq]
  generalize h n = o
  unfold isiO tyO
  split
  all_goals first | (exact ⟨fun ⟨_, _, z, _⟩ => (by cases z), fun z => z.elim⟩) | skip
  all_goals
    constructor
    · rintro ⟨s, b, h1, h2, q⟩
      split at h1
      · rename_i z
        cases h1
        exact ⟨z, b, h2, q⟩
      · cases h1
    · rintro ⟨rfl, b, h2, q⟩
      exact ⟨_, b, if_pos rfl, h2, q⟩
theorem isiO_l {v w : Nat} {t : String} {h : LH} {Q : LQ} {xs : List LV} : isiO v t h Q (some (w, .lst xs)) = (w = v ∧ ∃ b, kitB "list" t = some b ∧ Q (.bl b) h) := (rfl)
theorem isiO_k {v w : Nat} {t : String} {h : LH} {Q : LQ} {xs : List (Key × LV)} : isiO v t h Q (some (w, .dK xs)) = (w = v ∧ ∃ b, kitB "dict" t = some b ∧ Q (.bl b) h) := (rfl)
theorem isiO_t {v w : Nat} {t : String} {h : LH} {Q : LQ} {xs : List (List Key × LV)} : isiO v t h Q (some (w, .dT xs)) = (w = v ∧ ∃ b, kitB "dict" t = some b ∧ Q (.bl b) h) := (rfl)
theorem kit_ll : kitB "list" "list" = some true := by decide +kernel
theorem kit_dd : kitB "dict" "dict" = some true := by decide +kernel
theorem isi_non {t : String} {b : Bool} {h : LH} {Q : LQ} (e : kitB "NoneType" t = some b) : lIsi [.non, .ty t] h Q = Q (.bl b) h := lIsi_of rfl e
theorem isi_non_int {h : LH} {Q : LQ} : lIsi [.non, .ty "int"] h Q = Q (.bl false) h := isi_non (by decide +kernel)
theorem ntM_mono {g : Nt} {x : LV} {s : LSt} {P P' : LSt → Prop} (i : ∀ s2, P s2 → P' s2) (h : ntM g x s P) : ntM g x s P' := by
  unfold ntM at h ⊢
  split at h
  · exact i _ h
  · exact ⟨h.1, i _ h.2⟩
  · exact h.elim
  · exact ⟨h.1, i _ h.2⟩
  · exact h.elim
/-- each item to its place in the new list, nothing else done -/
theorem lcK_map {G : Glob} {T : Tab} {vs : List Nat} {g : Nt} {e : E} {s : LSt} {L : LIt} {nd : Nm} {vd : Nat} {Q : LQ} {h : LH} (xs ys : List LV) (hl : xs.length ≤ sizeLine) (hn : ys.length = xs.length) (hL : ∀ i acc, L i (h.set nd vd (.lst acc)) = some xs[i]?)
    (hs : ∀ (i : Nat) (x : LV) (acc : List LV) (K : LQ), xs[i]? = some x → (∀ y, ys[i]? = some y → K y (h.set nd vd (.lst acc))) → ntM g x (wipeL s vs) fun s2 => wpE G T e s2 (h.set nd vd (.lst acc)) K fun _ _ => False)
    (q : Q (.loc nd vd) (h.set nd vd (.lst ys))) : LcG G T vs g .nil e s L (.loc nd vd) Q (h.set nd vd (.lst [])) := by
  refine ⟨fun i k h' => k = xs.length - i ∧ i ≤ xs.length ∧ h' = h.set nd vd (.lst (ys.take i)), ⟨_, rfl, Nat.zero_le _, by rw [List.take_zero]⟩, ?_⟩
  rintro i k h' ⟨rfl, hi, rfl⟩
  by_cases hlt : i < xs.length
  · refine .inr ⟨xs[i], by rw [hL, List.getElem?_eq_getElem hlt], fun h' => h' = h.set nd vd (.lst (ys.take (i + 1))), fun h' e => ⟨xs.length - (i + 1), by omega, rfl, hlt, e⟩, ?_⟩
    refine ntM_mono (P := fun s2 => wpE G T e s2 (h.set nd vd (.lst (ys.take i))) (fun y h4 => ∃ n v acc, LV.loc nd vd = .loc n v ∧ h4 n = some (v, .lst acc) ∧ acc.length < sizeLine ∧ h4.set n v (.lst (acc ++ [y])) = h.set nd vd (.lst (ys.take (i + 1)))) fun _ _ => False) (fun s2 w => ?_) (hs i xs[i] (ys.take i) _ (List.getElem?_eq_getElem hlt) fun y e1 => ⟨nd, vd, ys.take i, rfl, LH.set_same, by rw [List.length_take]; omega, ?_⟩)
    · exact iteT (B := False) w
    · rw [LH.set_set, List.take_succ, e1]
      rfl
  · have e : i = xs.length := by omega
    subst e
    refine .inl ⟨by rw [hL]; simp, ?_⟩
    rw [← hn, List.take_length]
    exact q
theorem LH.set_ap {h : LH} {n m : Nm} {v : Nat} {o : LO} : h.set n v o m = if m = n then some (v, o) else h m := (rfl)
theorem LH.del_ap {h : LH} {n m : Nm} : h.del n m = if m = n then none else h m := (rfl)
theorem atI_0 {α : Type} {a : α} {l : List α} : atI (a :: l) 0 = some a := by
  have := atI_nat (xs := a :: l) (j := 0) (v := a) rfl
  exact this
theorem atI_1 {α : Type} {a b : α} {l : List α} : atI (a :: b :: l) 1 = some b := by
  have := atI_nat (xs := a :: b :: l) (j := 1) (v := b) rfl
  exact this
theorem atI_2 {α : Type} {a b c : α} {l : List α} : atI (a :: b :: c :: l) 2 = some c := by
  have := atI_nat (xs := a :: b :: c :: l) (j := 2) (v := c) rfl
  exact this
theorem ixN_nat {n j : Nat} (h : j < n) : ixN n (j : Int) = some j := by
  unfold ixN
  rw [if_pos (Int.natCast_nonneg j), if_pos (by omega)]; rfl
theorem ixN_0 {n : Nat} : ixN (n + 1) 0 = some 0 := ixN_nat (j := 0) (by omega)
theorem ixN_1 {n : Nat} : ixN (n + 2) 1 = some 1 := ixN_nat (j := 1) (by omega)
end LL

namespace LL
open PySem L2

/-! ### the end of a row -/
theorem lookup_all {β : Type} {x : Str} {y : β} : ∀ {l : List (Str × β)}, l.lookup x = some y → (x, y) ∈ l
  | [], e => nomatch e
  | (a, b) :: r, e => by
    rw [List.lookup_cons] at e
    split at e
    · rename_i h
      cases e
      rw [show x = a from eq_of_beq h]
      exact .head _
    · exact .tail _ (lookup_all e)
/-- a table by class and name -/
def pick {β : Type} (C : Addr) (m : Str) : List (Addr × Str × β) → Option β
  | [] => none
  | (D, n, b) :: r => if C = D ∧ m = n then some b else pick C m r
theorem pick_mem {β : Type} {C : Addr} {m : Str} {b : β} : ∀ {l : List (Addr × Str × β)}, pick C m l = some b → (C, m, b) ∈ l
  | [], e => nomatch e
  | (D, n, c) :: r, e => by
    unfold pick at e
    split at e
    · rename_i h
      obtain ⟨rfl, rfl⟩ := h
      cases e
      exact .head _
    · exact .tail _ (pick_mem e)
theorem pick_nil {β : Type} {C : Addr} {m : Str} : pick (β := β) C m [] = none := rfl
theorem pick_hit {β : Type} {C : Addr} {m : Str} {b : β} {l : List (Addr × Str × β)} : pick C m ((C, m, b) :: l) = some b := if_pos ⟨rfl, rfl⟩
theorem pick_ofS {β : Type} {C D : Addr} {m n : String} {b : β} {l : List (Addr × Str × β)} : pick C (Str.ofString m) ((D, Str.ofString n, b) :: l) = if C = D ∧ m = n then some b else pick C (Str.ofString m) l := by
  rw [pick]
  simp only [ofS_eq]
theorem ro_of {K : PySem.W.Frag} {H : Hp} {a : Addr} {ns : List Int} (o : Only H) (h : SqL K H a (ns.map V.int)) : RoL K H a (ns.map V.int) := by
  rcases h with (h | h) | h
  · rcases o a with e | ⟨o, xs, e⟩ <;> rw [e] at h <;> cases h
  · exact .inl h
  · exact .inr h
theorem r_of {K : PySem.W.Frag} (H : Hp) : R K ⟨fun _ => none, H⟩ (fun _ => none) :=
  { obj := fun n v o e => (by cases e), inj := fun p q a e => (by cases e), fin := fun n => ⟨0, fun v _ => rfl⟩, anon := ⟨0, fun k v _ => rfl⟩, known := fun p a e => (by cases e) }
theorem walk {l : PySem.W.OpenLaw} {q : Program} {loose : List Str} {XP : (Str → Option Value) → Heap → Prop} {YP : World → Heap → Prop} {d : DefRec} {K : Params → PySem.W.Frag} {k : Nat} {x : Str} {sp : LSp} (hn : l.most = some 63) (hdf : d.params.defaults = []) (hr : Room k callerA)
    (hY : ∀ (w : World) (h : Heap), YP w h → (K w.params).In h)
    (F : ∀ (w : World) (mg : Str → Option Value) (fa : Addr) (h : Heap), (K w.params).In h → h.Ns mainGlobals mg → mg d.name = some (.ref fa) →
      ∃ fd : FuncData, (∀ (s : Shared) (u : Value), BindsTo s fd ⟨[u], []⟩ [(x, u)]) ∧ ∀ base : Heap, (K w.params).In base → base.Ns mainGlobals mg → FnOk l.prog w (K w.params) mg base (L2.CX l.prog w) k fa fd [x] (liftSp (K w.params) 1 sp))
    (hs : ∀ (ns : List Int) (Q : LQ) (X : LX), ns.length ≤ 63 → (∀ h, Q (.bl true) h) → sp [.rol ns] (fun _ => none) Q X) : PySem.W.WalkO q loose XP YP l.row.toRowW d [] (fun f vs => PySem.call f vs) :=
  L2.walk_of (n := 63) (k := k) (x := x) (CX := fun w => L2.CX l.prog w) (sp := fun w => liftSp (K w.params) 1 sp) hn (by decide) hdf hr hY F
    (fun w H a ns hl ho hS => ⟨⟨fun _ => none, H⟩, fun _ => none, [.rol ns], fun v _ => v = .bl true, fun _ _ => False, rfl, r_of H, .cons ⟨a, rfl, ro_of ho hS⟩ .nil, rfl, hs ns _ _ hl fun _ => rfl, fun m' h' x v _ _ rv e => by subst e; exact rv, fun _ _ _ _ _ z => z⟩)
    fun w H s e s' ⟨_, _, _, _, _, _, _, _, _, _, _, _, z⟩ => z
/-! ### exceptions' names -/
theorem kit_ownT {K : PySem.W.Frag} {C D : Addr} (hd : PySem.W.hasDictIn K C = true) (ht : PySem.W.typeIn K (.ref C) = some (.type "type")) (hs : PySem.W.subIn K (.ref D) (.ref C) = some true) : PySem.W.kitOne K (.ref D) (.ref C) = some true := by
  unfold PySem.W.kitOne
  split
  · rfl
  · obtain ⟨cd, hc, _⟩ := PySem.W.any_some hd
    have e2 : ((PySem.W.clsIn K C).isSome && PySem.W.typeIn K (.ref C) == some (.type "type")) = true := by rw [hc, ht] <;> rfl
    show (if ((PySem.W.clsIn K C).isSome && PySem.W.typeIn K (.ref C) == some (.type "type")) = true then PySem.W.subIn K (.ref D) (.ref C) else none) = _
    rw [if_pos e2]; exact hs
theorem kit_ownF {K : PySem.W.Frag} {C D : Addr} (hne : D ≠ C) (hd : PySem.W.hasDictIn K C = true) (ht : PySem.W.typeIn K (.ref C) = some (.type "type")) (hs : PySem.W.subIn K (.ref D) (.ref C) = some false) : PySem.W.kitOne K (.ref D) (.ref C) = some false := by
  unfold PySem.W.kitOne
  rw [if_neg (fun z => hne (Value.ref.inj (beq_iff_eq.mp z)))]
  obtain ⟨cd, hc, _⟩ := PySem.W.any_some hd
  have e2 : ((PySem.W.clsIn K C).isSome && PySem.W.typeIn K (.ref C) == some (.type "type")) = true := by rw [hc, ht] <;> rfl
  show (if ((PySem.W.clsIn K C).isSome && PySem.W.typeIn K (.ref C) == some (.type "type")) = true then PySem.W.subIn K (.ref D) (.ref C) else none) = _
  rw [if_pos e2]; exact hs
theorem kit_tyV {K : PySem.W.Frag} {D : Addr} {b : Bool} (hs : PySem.W.subIn K (.ref D) (.type "ValueError") = some b) : PySem.W.kitOne K (.ref D) (.type "ValueError") = some b := by
  unfold PySem.W.kitOne
  rw [if_neg (fun z => by cases (beq_iff_eq.mp z))]
  show (if PySem.W.kitMeta "ValueError" = true then PySem.W.subIn K (.ref D) (.type "ValueError") else none) = _
  rw [if_pos (by decide +kernel)]; exact hs
theorem exm_tyV {K : PySem.W.Frag} {D : Addr} {b : Bool} (hs : PySem.W.subIn K (.ref D) (.type "ValueError") = some b) : PySem.W.exmOne K (.ref D) (.type "ValueError") = some b := by
  unfold PySem.W.exmOne
  have e : PySem.W.subIn K (.type "ValueError") (.type "BaseException") = some true := by first | rfl | decide +kernel | kernel_rfl
  rw [if_pos (by rw [e]; rfl)]
  show (if PySem.W.kitMeta "ValueError" = true then PySem.W.subIn K (.ref D) (.type "ValueError") else none) = _
  rw [if_pos (by decide +kernel)]; exact hs
end LL

/-! the program's world as a typed value, and how it lies on the heap -/
namespace LL
open PySem L2
structure Cl where
  (out inc net site waves world : Addr)
abbrev Rf := Nat × Nat
def rv (r : Rf) : LV := .tup [.int r.1, .int r.2]
def orv : Option Rf → LV
  | none => .non
  | some r => rv r
def onv : Option Nat → LV
  | none => .non
  | some r => .int r
def oiv : Option Int → LV
  | none => .non
  | some r => .int r
/-- letters -/
inductive Lt where
  | give (p : Nat) (r : Rf) (q : Option Nat) | enter (m g : Nat) | entered (m : Nat) | got (p : Nat) | leave (m : Nat) | stamp (m : Nat) (x : Int)
  | fetch (q m : Nat) (f : Int) | none_ (q : Nat) | ask (w : Nat) (b : Int) | tell (w : Nat) (l : Int)
def ltv : Lt → LV
  | .give p r q => .tup [.str "give", .int p, rv r, onv q]
  | .enter m g => .tup [.str "enter", .int m, .int g]
  | .entered m => .tup [.str "entered", .int m]
  | .got p => .tup [.str "got", .int p]
  | .leave m => .tup [.str "leave", .int m]
  | .stamp m x => .tup [.str "stamp", .int m, .int x]
  | .fetch q m f => .tup [.str "fetch", .int q, .int m, .int f]
  | .none_ q => .tup [.str "none", .int q]
  | .ask w b => .tup [.str "ask", .int w, .int b]
  | .tell w l => .tup [.str "tell", .int w, .int l]
structure SiteS where
  vars : List (Option Rf) := List.replicate 8 none
  inbox : List Rf := []
  marks : List (Nat × Int) := []
  objs : List (Nat × List (Option Rf)) := []
  ocount : Nat := 0
  parcels : List (Nat × Nat × Rf) := []
  pcount : Nat := 0
  questions : List (Nat × Rf × Int) := []
  qcount : Nat := 0
  arrivals : List (Nat × Nat × Rf × Option Nat) := []
  holdings : List (Rf × Option Int) := []
  entries : List (Rf × Option Int) := []
  clock : Int := 0
  bound : Int := 0
  settled : Int := 0
  low : Int := 0
  pending : Option Int := none
  needed : List (Nat × Nat) := []
  nc : Nat := 0
  out : Nat → Nat × List Lt := fun _ => (0, [])
  inc : Nat → Nat := fun _ => 0
  v : WN → Nat
def siteOf : WN → Option Nat
  | .site i => some i | .vars i => some i | .inbox i => some i | .marks i => some i | .contents i => some i | .obj i _ => some i | .parcels i => some i | .questions i => some i | .arrivals i => some i
  | .holdings i => some i | .entries i => some i | .needed i _ => some i | .outg i => some i | .incg i => some i | .out i _ => some i | .wait i _ _ => some i | .inc i _ => some i
  | .world => none | .sites => none | .net => none | .packets => none | .waves => none | .others => none | .noted _ => none
def chs (n i : Nat) : List Nat := (List.range n).filter fun j => decide (j ≠ i)
def siteF (k i : Nat) (st : SiteS) : List (Str × LV) :=
  [("number", .int i), ("variables", .loc (.w k (.vars i)) (st.v (.vars i))), ("inbox", .loc (.w k (.inbox i)) (st.v (.inbox i))), ("marks", .loc (.w k (.marks i)) (st.v (.marks i))), ("contents", .loc (.w k (.contents i)) (st.v (.contents i))),
    ("object_count", .int st.ocount), ("parcels", .loc (.w k (.parcels i)) (st.v (.parcels i))), ("parcel_count", .int st.pcount), ("questions", .loc (.w k (.questions i)) (st.v (.questions i))), ("question_count", .int st.qcount),
    ("arrivals", .loc (.w k (.arrivals i)) (st.v (.arrivals i))), ("holdings", .loc (.w k (.holdings i)) (st.v (.holdings i))), ("entries", .loc (.w k (.entries i)) (st.v (.entries i))), ("clock", .int st.clock), ("bound", .int st.bound), ("settled", .int st.settled),
    ("low", .int st.low), ("pending", oiv st.pending), ("needed", .loc (.w k (.needed i st.nc)) (st.v (.needed i st.nc))), ("outgoing", .loc (.w k (.outg i)) (st.v (.outg i))), ("incoming", .loc (.w k (.incg i)) (st.v (.incg i)))]
def encS (c : Cl) (k n i : Nat) (st : SiteS) : WN → Option (Nat × LO)
  | .site _ => some (st.v (.site i), .ins c.site (siteF k i st))
  | .vars _ => some (st.v (.vars i), .lst (st.vars.map orv))
  | .inbox _ => some (st.v (.inbox i), .lst (st.inbox.map rv))
  | .marks _ => some (st.v (.marks i), .dK (st.marks.map fun p => (.inl (p.1 : Int), .int p.2)))
  | .contents _ => some (st.v (.contents i), .dK (st.objs.map fun p => (.inl (p.1 : Int), .loc (.w k (.obj i p.1)) (st.v (.obj i p.1)))))
  | .obj _ m => (st.objs.lookup m).map fun fs => (st.v (.obj i m), .lst (fs.map orv))
  | .parcels _ => some (st.v (.parcels i), .dK (st.parcels.map fun p => (.inl (p.1 : Int), .tup [.int p.2.1, rv p.2.2])))
  | .questions _ => some (st.v (.questions i), .dK (st.questions.map fun p => (.inl (p.1 : Int), .tup [rv p.2.1, .int p.2.2])))
  | .arrivals _ => some (st.v (.arrivals i), .lst (st.arrivals.map fun a => .tup [.int a.1, .int a.2.1, rv a.2.2.1, onv a.2.2.2]))
  | .holdings _ => some (st.v (.holdings i), .dT (st.holdings.map fun p => ([.inl (p.1.1 : Int), .inl (p.1.2 : Int)], oiv p.2)))
  | .entries _ => some (st.v (.entries i), .dT (st.entries.map fun p => ([.inl (p.1.1 : Int), .inl (p.1.2 : Int)], oiv p.2)))
  | .needed _ d => if d = st.nc then some (st.v (.needed i d), .dK (st.needed.map fun p => (.inl (p.1 : Int), .int p.2))) else none
  | .outg _ => some (st.v (.outg i), .dK ((chs n i).map fun (j : Nat) => (.inl (j : Int), .loc (.w k (.out i j)) (st.v (.out i j)))))
  | .incg _ => some (st.v (.incg i), .dK ((chs n i).map fun (j : Nat) => (.inl (j : Int), .loc (.w k (.inc i j)) (st.v (.inc i j)))))
  | .out _ j => if j < n ∧ j ≠ i then some (st.v (.out i j), .ins c.out [("_acknowledged", .int (st.out j).1), ("_waiting", .loc (.w k (.wait i j (st.out j).1)) (st.v (.wait i j (st.out j).1)))]) else none
  | .wait _ j a => if (j < n ∧ j ≠ i) ∧ a = (st.out j).1 then some (st.v (.wait i j a), .lst ((st.out j).2.map ltv)) else none
  | .inc _ j => if j < n ∧ j ≠ i then some (st.v (.inc i j), .ins c.inc [("count", .int (st.inc j))]) else none
  | _ => none
/-- packets -/
inductive Pk where
  | data (s t m : Nat) (l : Lt) | ack (s t m : Nat)
def pkv : Pk → LV
  | .data s t m l => .tup [.int s, .int t, .str "data", .int m, ltv l]
  | .ack s t m => .tup [.int s, .int t, .str "ack", .int m, .non]
structure Wd where
  n : Nat
  s : Nat → SiteS
  packets : List Pk := []
  wn : Nat := 0
  noted : List (Nat × Int) := []
  wo : Bool := false
  v : WN → Nat
def encT (c : Cl) (k : Nat) (W : Wd) : WN → Option (Nat × LO)
  | .world => some (W.v .world, .ins c.world [("_sites", .loc (.w k .sites) (W.v .sites)), ("_network", .loc (.w k .net) (W.v .net)), ("_waves", .loc (.w k .waves) (W.v .waves))])
  | .sites => some (W.v .sites, .lst ((List.range W.n).map fun i => .loc (.w k (.site i)) ((W.s i).v (.site i))))
  | .net => some (W.v .net, .ins c.net [("_packets", .loc (.w k .packets) (W.v .packets))])
  | .packets => some (W.v .packets, .lst (W.packets.map pkv))
  | .waves => some (W.v .waves, .ins c.waves [("others", .loc (.w k .others) (W.v .others)), ("number", .int W.wn), ("noted", .loc (.w k (.noted W.wn)) (W.v (.noted W.wn))), ("is_open", .bl W.wo)])
  | .others => some (W.v .others, .lst (rgL 1 W.n))
  | .noted d => if d = W.wn then some (W.v (.noted d), .dK (W.noted.map fun p => (.inl (p.1 : Int), .int p.2))) else none
  | _ => none
def encW (c : Cl) (k : Nat) (W : Wd) (x : WN) : Option (Nat × LO) := match siteOf x with
  | some i => if i < W.n then encS c k W.n i (W.s i) x else none
  | none => encT c k W x
def IsSite (c : Cl) (k n i : Nat) (st : SiteS) (h : LH) : Prop := ∀ x, siteOf x = some i → h (.w k x) = encS c k n i st x
def IsW (c : Cl) (k : Nat) (W : Wd) (h : LH) : Prop := ∀ x, h (.w k x) = encW c k W x
/-- a site, a world, written -/
def LH.putS (h : LH) (k i : Nat) (f : WN → Option (Nat × LO)) : LH := fun m => match m with
  | .w k' x => if k' = k ∧ siteOf x = some i then f x else h (.w k' x)
  | .x p => h (.x p)
  | .a j => h (.a j)
def LH.putW (h : LH) (k : Nat) (f : WN → Option (Nat × LO)) : LH := fun m => match m with
  | .w k' x => if k' = k then f x else h (.w k' x)
  | .x p => h (.x p)
  | .a j => h (.a j)
def Wd.setS (W : Wd) (i : Nat) (st : SiteS) : Wd := { W with s := fun j => if j = i then st else W.s j }
section
variable {c : Cl} {k n i : Nat} {st st' : SiteS} {W W' : Wd} {h g : LH} {f f' : WN → Option (Nat × LO)}
theorem putW_w {x : WN} : h.putW k f (.w k x) = f x := if_pos rfl
theorem putW_x {p : List Nat} : h.putW k f (.x p) = h (.x p) := rfl
theorem putW_a {p : Nat} : h.putW k f (.a p) = h (.a p) := rfl
theorem putW_o {j : Nat} {x : WN} (e : j ≠ k) : h.putW k f (.w j x) = h (.w j x) := if_neg e
theorem putS_x {p : List Nat} : h.putS k i f (.x p) = h (.x p) := rfl
theorem putS_a {p : Nat} : h.putS k i f (.a p) = h (.a p) := rfl
theorem putS_w {x : WN} (e : siteOf x = some i) : h.putS k i f (.w k x) = f x := if_pos ⟨rfl, e⟩
theorem putS_o {j : Nat} {x : WN} (e : j ≠ k) : h.putS k i f (.w j x) = h (.w j x) := if_neg fun z => e z.1
theorem putS_o2 {j : Nat} {x : WN} (e : siteOf x ≠ some i) : h.putS k i f (.w j x) = h (.w j x) := if_neg fun z => e z.2
theorem putW_putW : (h.putW k f).putW k f' = h.putW k f' := by
  funext m
  cases m with
  | w j x => by_cases e : j = k <;> simp [LH.putW, e]
  | x p => rfl
  | a j => rfl
theorem putS_putS : (h.putS k i f).putS k i f' = h.putS k i f' := by
  funext m
  cases m with
  | w j x => by_cases e : j = k ∧ siteOf x = some i <;> simp [LH.putS, e]
  | x p => rfl
  | a j => rfl
theorem isW_put : IsW c k W (h.putW k (encW c k W)) := fun x => putW_w
theorem isS_put : IsSite c k n i st (h.putS k i (encS c k n i st)) := fun x e => putS_w e
theorem IsW.site (w : IsW c k W h) (hi : i < W.n) : IsSite c k W.n i (W.s i) h := fun x e => by
  rw [w x, encW, e]
  exact if_pos hi
theorem IsW.top (w : IsW c k W h) {x : WN} (e : siteOf x = none) : h (.w k x) = encT c k W x := by rw [w x, encW, e]
/-- one's own site is all that is changed -/
theorem IsW.putS (w : IsW c k W h) (hi : i < W.n) (hv : st'.v (.site i) = (W.s i).v (.site i)) : h.putS k i (encS c k W.n i st') = h.putW k (encW c k (W.setS i st')) := by
  funext m
  cases m with
  | w j x =>
    by_cases e : j = k
    · subst e
      rw [putW_w]
      by_cases e2 : siteOf x = some i
      · rw [putS_w e2, encW, e2]
        show _ = if i < W.n then encS c j W.n i ((W.setS i st').s i) x else none
        rw [if_pos hi]
        simp [Wd.setS]
      · rw [putS_o2 e2, w x]
        unfold encW
        cases e3 : siteOf x with
        | none =>
          show encT c j W x = encT c j (W.setS i st') x
          cases x <;> first | rfl | (cases e3; done) | skip
          unfold encT Wd.setS
          simp only [Option.some.injEq, Prod.mk.injEq, LO.lst.injEq, true_and]
          refine List.map_congr_left fun a _ => ?_
          by_cases ea : a = i
          · subst ea; simp [hv]
          · simp [ea]
        | some a =>
          have ea : a ≠ i := fun z => e2 (by rw [e3, z])
          show (if a < W.n then encS c j W.n a (W.s a) x else none) = if a < W.n then encS c j W.n a ((W.setS i st').s a) x else none
          simp [Wd.setS, ea]
    · rw [putS_o e, putW_o e]
  | x p => rfl
  | a j => rfl
/-- a step at a site's name -/
theorem set_putS {x : WN} {v : Nat} {o : LO} (hs : IsSite c k n i st h) (e : siteOf x = some i) (hf : ∀ y, siteOf y = some i → f y = if y = x then some (v, o) else encS c k n i st y) : h.set (.w k x) v o = h.putS k i f := by
  funext m
  cases m with
  | w j y =>
    by_cases ej : j = k
    · subst ej
      by_cases e2 : siteOf y = some i
      · rw [putS_w e2, hf y e2]
        by_cases e3 : y = x
        · subst e3; simp [LH.set]
        · rw [LH.set_ne (by simp [e3]), if_neg e3, hs y e2]
      · rw [putS_o2 e2, LH.set_ne]
        intro z; cases z; exact e2 e
    · rw [putS_o ej, LH.set_ne]
      intro z; cases z; exact ej rfl
  | x p => rw [putS_x, LH.set_ne (by simp)]
  | a j => rw [putS_a, LH.set_ne (by simp)]
theorem putS_self (hs : IsSite c k n i st h) : h.putS k i (encS c k n i st) = h := by
  funext m
  cases m with
  | w j y =>
    by_cases ej : j = k ∧ siteOf y = some i
    · obtain ⟨rfl, e2⟩ := ej
      rw [putS_w e2, hs y e2]
    · exact if_neg ej
  | x p => rfl
  | a j => rfl
theorem le_putS (h1 : ∀ x, siteOf x = some i → g (.w k x) = f x) (h2 : ∀ m p, (∀ x, m = .w k x → siteOf x ≠ some i) → h m = some p → g m = some p) : (h.putS k i f).le g := by
  intro m p e
  cases m with
  | w j x =>
    by_cases ej : j = k ∧ siteOf x = some i
    · obtain ⟨rfl, e2⟩ := ej
      rw [putS_w e2] at e
      rw [h1 x e2]; exact e
    · refine h2 _ p (fun y z e2 => ej ?_) (by rw [← e]; exact (if_neg ej).symm)
      cases z; exact ⟨rfl, e2⟩
  | x q => exact h2 _ p (fun y z => by cases z) e
  | a q => exact h2 _ p (fun y z => by cases z) e
theorem eq_putS (h1 : ∀ x, siteOf x = some i → g (.w k x) = f x) (h2 : ∀ m, (∀ x, siteOf x = some i → m ≠ .w k x) → g m = h m) : g = h.putS k i f := by
  funext m
  cases m with
  | w j x =>
    by_cases ej : j = k ∧ siteOf x = some i
    · obtain ⟨rfl, e2⟩ := ej
      rw [putS_w e2, h1 x e2]
    · rw [h2 _ fun y e2 z => by cases z; exact ej ⟨rfl, e2⟩]
      exact (if_neg ej).symm
  | x q => exact h2 _ fun y _ z => by cases z
  | a q => exact h2 _ fun y _ z => by cases z
theorem putS_off {m : Nm} (hm : ∀ x, siteOf x = some i → m ≠ .w k x) : h.putS k i f m = h m := by
  cases m with
  | w j x => exact if_neg fun z => hm x z.2 (by rw [z.1])
  | x q => rfl
  | a q => rfl
theorem le_putW (h1 : ∀ x, g (.w k x) = f x) (h2 : ∀ m p, (∀ x, m ≠ .w k x) → h m = some p → g m = some p) : (h.putW k f).le g := by
  intro m p e
  cases m with
  | w j x =>
    by_cases ej : j = k
    · subst ej
      rw [putW_w] at e
      rw [h1 x]; exact e
    · rw [putW_o ej] at e
      exact h2 _ p (fun y z => by cases z; exact ej rfl) e
  | x q => exact h2 _ p (fun y z => by cases z) e
  | a q => exact h2 _ p (fun y z => by cases z) e
theorem putW_off {m : Nm} (hm : ∀ x, m ≠ .w k x) : h.putW k f m = h m := by
  cases m with
  | w j x => exact putW_o fun z => hm x (by rw [z])
  | x q => rfl
  | a q => rfl
end
end LL

namespace K08
open PySem L2 LL

def n_Outgoing_init : List Str := ["self"]
def b_Outgoing_init : Ss :=
  .cons (.fld (.var 0) "_acknowledged" (.int 0))
  (.cons (.fld (.var 0) "_waiting" (.lst (.nil))) (.nil))
def n_Incoming_init : List Str := ["self"]
def b_Incoming_init : Ss :=
  .cons (.fld (.var 0) "count" (.int 0)) (.nil)
def n_Network_init : List Str := ["self"]
def b_Network_init : Ss :=
  .cons (.fld (.var 0) "_packets" (.lst (.nil))) (.nil)
def n_Site_init : List Str := ["self", "number", "sites", "other"]
def b_Site_init_L1 : Ss :=
  .cons (.ifs (.cmp .ne (.var 3) (.var 1))
    (.cons (.asg (.sub (.fld (.var 0) "outgoing") (.var 3)) (.make "Outgoing" (.nil)))
      (.cons (.asg (.sub (.fld (.var 0) "incoming") (.var 3)) (.make "Incoming" (.nil))) (.nil)))
    (.nil)) (.nil)
def b_Site_init : Ss :=
  .cons (.fld (.var 0) "number" (.var 1))
  (.cons (.fld (.var 0) "variables" (.bin .mul (.lst (.cons (.non) .nil)) (.con "VARIABLES")))
  (.cons (.fld (.var 0) "inbox" (.lst (.nil)))
  (.cons (.fld (.var 0) "marks" (.dnew))
  (.cons (.fld (.var 0) "contents" (.dnew))
  (.cons (.fld (.var 0) "object_count" (.int 0))
  (.cons (.fld (.var 0) "parcels" (.dnew))
  (.cons (.fld (.var 0) "parcel_count" (.int 0))
  (.cons (.fld (.var 0) "questions" (.dnew))
  (.cons (.fld (.var 0) "question_count" (.int 0))
  (.cons (.fld (.var 0) "arrivals" (.lst (.nil)))
  (.cons (.fld (.var 0) "holdings" (.dnew))
  (.cons (.fld (.var 0) "entries" (.dnew))
  (.cons (.fld (.var 0) "clock" (.int 0))
  (.cons (.fld (.var 0) "bound" (.int 0))
  (.cons (.fld (.var 0) "settled" (.int 0))
  (.cons (.fld (.var 0) "low" (.int 0))
  (.cons (.fld (.var 0) "pending" (.non))
  (.cons (.fld (.var 0) "needed" (.dnew))
  (.cons (.fld (.var 0) "outgoing" (.dnew))
  (.cons (.fld (.var 0) "incoming" (.dnew))
  (.cons (.for (.name 3) (.rng (.cons (.var 2) .nil)) b_Site_init_L1) (.nil))))))))))))))))))))))
def n_Site_is_near : List Str := ["self", "reference"]
def b_Site_is_near : Ss :=
  .cons (.ret (.cmp .eq (.ix (.var 1) (.int 0)) (.fld (.var 0) "number"))) (.nil)
def n_Site_create : List Str := ["self", "size", "mark", "number"]
def b_Site_create : Ss :=
  .cons (.asg (.name 3) (.fld (.var 0) "object_count"))
  (.cons (.flda (.var 0) "object_count" (.int 1))
  (.cons (.asg (.sub (.fld (.var 0) "marks") (.var 3)) (.var 2))
  (.cons (.asg (.sub (.fld (.var 0) "contents") (.var 3)) (.bin .mul (.lst (.cons (.non) .nil)) (.var 1)))
  (.cons (.ret (.tup (.cons (.fld (.var 0) "number") (.cons (.var 3) .nil)))) (.nil)))))
def n_Waves_init : List Str := ["self", "others"]
def b_Waves_init : Ss :=
  .cons (.fld (.var 0) "others" (.blt .list (.cons (.var 1) .nil)))
  (.cons (.fld (.var 0) "number" (.int 0))
  (.cons (.fld (.var 0) "noted" (.dnew))
  (.cons (.fld (.var 0) "is_open" (.bl false)) (.nil))))
def n_check_variable : List Str := ["variable"]
def b_check_variable : Ss :=
  .cons (.ifs (.not (.chain .le .lt (.int 0) (.var 0) (.con "VARIABLES")))
    (.cons (.rais "Unknown") (.nil))
    (.nil)) (.nil)
def n_held_reference : List Str := ["site", "variable", "reference"]
def b_held_reference : Ss :=
  .cons (.asg (.name 2) (.ix (.fld (.var 0) "variables") (.var 1)))
  (.cons (.ifs (.cmp .is (.var 2) (.non))
    (.cons (.rais "Empty") (.nil))
    (.nil))
  (.cons (.ret (.var 2)) (.nil)))
def n_near_number : List Str := ["site", "variable", "reference"]
def b_near_number : Ss :=
  .cons (.asg (.name 2) (.call "held_reference" (.cons (.var 0) (.cons (.var 1) .nil))))
  (.cons (.ifs (.not (.meth (.var 0) "is_near" .none (.cons (.var 2) .nil)))
    (.cons (.rais "NotNear") (.nil))
    (.nil))
  (.cons (.ret (.ix (.var 2) (.int 1))) (.nil)))
def n_World_init : List Str := ["self", "sites", "number"]
def b_World_init : Ss :=
  .cons (.fld (.var 0) "_sites" (.lc [2] (.one 2) .rng (.cons (.var 1) .nil) (.nil) (.make "Site" (.cons (.var 2) (.cons (.var 1) .nil)))))
  (.cons (.fld (.var 0) "_network" (.make "Network" (.nil)))
  (.cons (.fld (.var 0) "_waves" (.make "Waves" (.cons (.lsRg (.cons (.int 1) (.cons (.var 1) .nil))) .nil))) (.nil)))
def n_World__site : List Str := ["self", "number"]
def b_World__site : Ss :=
  .cons (.ifs (.not (.chain .le .lt (.int 0) (.var 1) (.blt .len (.cons (.fld (.var 0) "_sites") .nil))))
    (.cons (.rais "Unknown") (.nil))
    (.nil))
  (.cons (.ret (.ix (.fld (.var 0) "_sites") (.var 1))) (.nil))
def n_World_make : List Str := ["self", "site", "variable", "size", "mark", "here"]
def b_World_make : Ss :=
  .cons (.asg (.name 5) (.meth (.var 0) "_site" .none (.cons (.var 1) .nil)))
  (.cons (.expr (.call "check_variable" (.cons (.var 2) .nil)))
  (.cons (.asg (.sub (.fld (.var 5) "variables") (.var 2)) (.meth (.var 5) "create" .none (.cons (.var 3) (.cons (.var 4) .nil))))
  (.cons (.ret (.ix (.fld (.var 5) "variables") (.var 2))) (.nil))))
def n_World_assign : List Str := ["self", "site", "source", "target", "here"]
def b_World_assign : Ss :=
  .cons (.asg (.name 4) (.meth (.var 0) "_site" .none (.cons (.var 1) .nil)))
  (.cons (.expr (.call "check_variable" (.cons (.var 2) .nil)))
  (.cons (.expr (.call "check_variable" (.cons (.var 3) .nil)))
  (.cons (.asg (.sub (.fld (.var 4) "variables") (.var 3)) (.ix (.fld (.var 4) "variables") (.var 2))) (.nil))))
def n_World_reset : List Str := ["self", "site", "variable", "here"]
def b_World_reset : Ss :=
  .cons (.asg (.name 3) (.meth (.var 0) "_site" .none (.cons (.var 1) .nil)))
  (.cons (.expr (.call "check_variable" (.cons (.var 2) .nil)))
  (.cons (.asg (.sub (.fld (.var 3) "variables") (.var 2)) (.non)) (.nil)))
def n_World_look : List Str := ["self", "site", "variable", "here"]
def b_World_look : Ss :=
  .cons (.asg (.name 3) (.meth (.var 0) "_site" .none (.cons (.var 1) .nil)))
  (.cons (.expr (.call "check_variable" (.cons (.var 2) .nil)))
  (.cons (.ret (.ix (.fld (.var 3) "marks") (.call "near_number" (.cons (.var 3) (.cons (.var 2) .nil))))) (.nil)))
def n_World_variables : List Str := ["self", "site"]
def b_World_variables : Ss :=
  .cons (.ret (.blt .list (.cons (.fld (.meth (.var 0) "_site" .none (.cons (.var 1) .nil)) "variables") .nil))) (.nil)
def n_World_inbox : List Str := ["self", "site"]
def b_World_inbox : Ss :=
  .cons (.ret (.blt .list (.cons (.fld (.meth (.var 0) "_site" .none (.cons (.var 1) .nil)) "inbox") .nil))) (.nil)
def n_World_objects : List Str := ["self", "site"]
def b_World_objects : Ss :=
  .cons (.ret (.blt .sorted (.cons (.fld (.meth (.var 0) "_site" .none (.cons (.var 1) .nil)) "contents") .nil))) (.nil)
def n_World_fields : List Str := ["self", "site", "number", "here"]
def b_World_fields : Ss :=
  .cons (.asg (.name 3) (.meth (.var 0) "_site" .none (.cons (.var 1) .nil)))
  (.cons (.ifs (.cmp .nin (.var 2) (.fld (.var 3) "contents"))
    (.cons (.rais "Unknown") (.nil))
    (.nil))
  (.cons (.ret (.blt .list (.cons (.ix (.fld (.var 3) "contents") (.var 2)) .nil))) (.nil)))
def n_law_is_integer : List Str := ["_law_actual"]
def b_law_is_integer : Ss :=
  .cons (.ret (.and (.cons (.blt .isi (.cons (.var 0) (.cons (.ty "int") .nil))) (.cons (.not (.blt .isi (.cons (.var 0) (.cons (.ty "bool") .nil)))) .nil)))) (.nil)
def n_law_number : List Str := ["_law_cell_here", "_law_k", "_law_first", "_law_second"]
def b_law_number : Ss :=
  .cons (.ifs (.cmp .ge (.var 0) (.bin .pow (.int 10) (.int 18)))
    (.cons (.ret (.bin .sub (.var 0) (.bin .pow (.int 10) (.int 18)))) (.nil))
    (.nil))
  (.cons (.asg (.name 2) (.bin .mod (.blt .int (.cons (.bin .add (.bin .add (.bin .mul (.var 0) (.int 48271)) (.bin .mul (.var 1) (.int 69621))) (.int 12345)) .nil)) (.int 2147483647)))
  (.cons (.asg (.name 3) (.bin .mod (.blt .int (.cons (.bin .add (.bin .mul (.var 2) (.bin .add (.bin .add (.bin .fdiv (.var 2) (.int 65536)) (.var 1)) (.int 3))) (.int 101)) .nil)) (.int 2147483629)))
  (.cons (.ret (.bin .add (.var 2) (.bin .mul (.var 3) (.int 2147483647)))) (.nil))))
def n_law_cell : List Str := ["_law_script", "_law_k"]
def b_law_cell : Ss :=
  .cons (.ifs (.cmp .lt (.var 1) (.blt .len (.cons (.var 0) .nil)))
    (.cons (.ret (.ix (.var 0) (.var 1))) (.nil))
    (.nil))
  (.cons (.ret (.int 0)) (.nil))
def n_law_makes : List Str := ["_law_world", "_law_site", "_law_variable", "_law_part", "_law_made", "_law_width", "_law_value", "_law_choice", "_law_reference"]
def b_law_makes_T1 : Ss :=
  .cons (.expr (.meth (.ix (.var 4) (.var 1)) "append" .append (.cons (.tup (.cons (.bin .mul (.var 5) (.bin .mod (.var 7) (.int 2))) (.cons (.bin .mul (.var 6) (.bin .fdiv (.var 7) (.int 2))) .nil))) .nil)))
  (.cons (.ifs (.or (.cons (.not (.blt .isi (.cons (.var 8) (.cons (.ty "tuple") .nil)))) (.cons (.cmp .ne (.blt .len (.cons (.var 8) .nil)) (.int 2)) .nil)))
    (.cons (.ret (.bl false)) (.nil))
    (.nil))
  (.cons (.ifs (.or (.cons (.not (.call "_law_is_integer" (.cons (.ix (.var 8) (.int 0)) .nil))) (.cons (.not (.call "_law_is_integer" (.cons (.ix (.var 8) (.int 1)) .nil))) .nil)))
    (.cons (.ret (.bl false)) (.nil))
    (.nil))
  (.cons (.ret (.cmp .eq (.var 8) (.tup (.cons (.var 1) (.cons (.bin .sub (.blt .len (.cons (.ix (.var 4) (.var 1)) .nil)) (.int 1)) .nil))))) (.nil))))
def b_law_makes_T2 : Ss :=
  .cons (.asg (.name 7) (.bin .mod (.blt .int (.cons (.var 3) .nil)) (.int 4)))
  (.cons (.ifs (.cmp .eq (.var 7) (.int 0))
    (.cons (.asg (.name 8) (.mkw (.var 0) "make" (.cons (.var 1) (.cons (.var 2) .nil)) [] (.nil))) (.nil))
    (.cons (.ifs (.cmp .eq (.var 7) (.int 1))
        (.cons (.asg (.name 8) (.mkw (.var 0) "make" (.cons (.var 1) (.cons (.var 2) .nil)) ["size"] (.cons (.var 5) .nil))) (.nil))
        (.cons (.ifs (.cmp .eq (.var 7) (.int 2))
            (.cons (.asg (.name 8) (.mkw (.var 0) "make" (.cons (.var 1) (.cons (.var 2) .nil)) ["mark"] (.cons (.var 6) .nil))) (.nil))
            (.cons (.asg (.name 8) (.mkw (.var 0) "make" (.cons (.var 1) (.cons (.var 2) .nil)) ["size", "mark"] (.cons (.var 5) (.cons (.var 6) .nil)))) (.nil))) (.nil))) (.nil)))
  b_law_makes_T1)
def b_law_makes : Ss :=
  .cons (.asg (.name 5) (.bin .mod (.blt .int (.cons (.bin .fdiv (.var 3) (.int 4)) .nil)) (.int 9)))
  (.cons (.asg (.name 6) (.bin .mod (.blt .int (.cons (.bin .fdiv (.var 3) (.int 72)) .nil)) (.bin .pow (.int 10) (.int 30))))
  (.cons (.ifs (.cmp .eq (.bin .mod (.blt .int (.cons (.bin .fdiv (.var 3) (.int 36)) .nil)) (.int 2)) (.int 1))
    (.cons (.asg (.name 6) (.neg (.var 6))) (.nil))
    (.nil))
  b_law_makes_T2))
def n_law_looks : List Str := ["_law_world", "_law_site", "_law_variable", "_law_contents", "_law_made", "_law_reference", "_law_value", "e"]
def b_law_looks : Ss :=
  .cons (.asg (.name 5) (.ix (.ix (.var 3) (.var 1)) (.var 2)))
  (.cons (.tryS (.cons (.asg (.name 6) (.meth (.var 0) "look" .none (.cons (.var 1) (.cons (.var 2) .nil)))) (.nil)) (.cons "Empty" (some 7) (.cons (.ret (.and (.cons (.cmp .is (.var 5) (.non)) (.cons (.isx 7 "FarheapError") (.cons (.not (.isx 7 "Unknown")) .nil))))) (.nil)) .nil))
  (.cons (.ret (.and (.cons (.cmp .isn (.var 5) (.non)) (.cons (.call "_law_is_integer" (.cons (.var 6) .nil)) (.cons (.cmp .eq (.var 6) (.ix (.ix (.ix (.var 4) (.var 1)) (.ix (.var 5) (.int 1))) (.int 1))) .nil))))) (.nil)))
def n_law_holds : List Str := ["_law_world", "_law_site", "_law_contents", "_law_actual"]
def b_law_holds : Ss :=
  .cons (.asg (.name 3) (.meth (.var 0) "variables" .none (.cons (.var 1) .nil)))
  (.cons (.ret (.and (.cons (.blt .isi (.cons (.var 3) (.cons (.ty "list") .nil))) (.cons (.cmp .eq (.var 3) (.ix (.var 2) (.var 1))) .nil)))) (.nil))
def n_law_ends_well : List Str := ["_law_world", "_law_sites", "_law_contents", "_law_made", "_law_site", "_law_number_here", "_law_actual", "_law_variable"]
def b_law_ends_well_L1 : Ss :=
  .cons (.asg (.name 6) (.meth (.var 0) "fields" .none (.cons (.var 4) (.cons (.var 5) .nil))))
  (.cons (.ifs (.or (.cons (.not (.blt .isi (.cons (.var 6) (.cons (.ty "list") .nil)))) (.cons (.cmp .ne (.var 6) (.bin .mul (.lst (.cons (.non) .nil)) (.ix (.ix (.ix (.var 3) (.var 4)) (.var 5)) (.int 0)))) .nil)))
    (.cons (.ret (.bl false)) (.nil))
    (.nil)) (.nil))
def b_law_ends_well_L2 : Ss :=
  .cons (.ifs (.not (.call "_law_looks" (.cons (.var 0) (.cons (.var 4) (.cons (.var 7) (.cons (.var 2) (.cons (.var 3) .nil)))))))
    (.cons (.ret (.bl false)) (.nil))
    (.nil)) (.nil)
def b_law_ends_well_L3 : Ss :=
  .cons (.ifs (.or (.cons (.not (.call "_law_holds" (.cons (.var 0) (.cons (.var 4) (.cons (.var 2) .nil))))) (.cons (.cmp .ne (.meth (.var 0) "inbox" .none (.cons (.var 4) .nil)) (.lst (.nil))) .nil)))
    (.cons (.ret (.bl false)) (.nil))
    (.nil))
  (.cons (.ifs (.cmp .ne (.meth (.var 0) "objects" .none (.cons (.var 4) .nil)) (.lsRg (.cons (.blt .len (.cons (.ix (.var 3) (.var 4)) .nil)) .nil)))
    (.cons (.ret (.bl false)) (.nil))
    (.nil))
  (.cons (.for (.name 5) (.rng (.cons (.blt .len (.cons (.ix (.var 3) (.var 4)) .nil)) .nil)) b_law_ends_well_L1)
  (.cons (.for (.name 7) (.rng (.cons (.int 8) .nil)) b_law_ends_well_L2) (.nil))))
def b_law_ends_well : Ss :=
  .cons (.for (.name 4) (.rng (.cons (.var 1) .nil)) b_law_ends_well_L3)
  (.cons (.ret (.bl true)) (.nil))
def n_law : List Str := ["_law_script", "_law_sites", "_law_world", "_law_contents", "_law_made", "_law_k", "_law_part", "_law_site", "_law_deed", "_law_variable", "_law_target", "_law_good"]
def b_law_T1 : Ss :=
  .cons (.ifs (.or (.cons (.not (.var 11)) (.cons (.not (.call "_law_holds" (.cons (.var 2) (.cons (.var 7) (.cons (.var 3) .nil))))) .nil)))
    (.cons (.ret (.bl false)) (.nil))
    (.nil))
  (.cons (.ifs (.not (.call "_law_holds" (.cons (.var 2) (.cons (.bin .mod (.bin .add (.var 7) (.int 1)) (.var 1)) (.cons (.var 3) .nil)))))
    (.cons (.ret (.bl false)) (.nil))
    (.nil)) (.nil))
def b_law_L2 : Ss :=
  .cons (.asg (.name 6) (.call "_law_number" (.cons (.ix (.var 0) (.var 5)) (.cons (.var 5) .nil))))
  (.cons (.asg (.name 7) (.bin .mod (.blt .int (.cons (.var 6) .nil)) (.var 1)))
  (.cons (.asg (.name 8) (.bin .mod (.blt .int (.cons (.bin .fdiv (.var 6) (.int 8)) .nil)) (.int 8)))
  (.cons (.asg (.name 9) (.bin .mod (.blt .int (.cons (.bin .fdiv (.var 6) (.int 64)) .nil)) (.int 8)))
  (.cons (.asg (.name 10) (.bin .mod (.blt .int (.cons (.bin .fdiv (.var 6) (.int 512)) .nil)) (.int 8)))
  (.cons (.asg (.name 11) (.bl true))
  (.cons (.ifs (.cmp .lt (.var 8) (.int 3))
    (.cons (.asg (.name 11) (.call "_law_makes" (.cons (.var 2) (.cons (.var 7) (.cons (.var 9) (.cons (.bin .fdiv (.var 6) (.int 4096)) (.cons (.var 4) .nil)))))))
      (.cons (.asg (.sub (.ix (.var 3) (.var 7)) (.var 9)) (.tup (.cons (.var 7) (.cons (.bin .sub (.blt .len (.cons (.ix (.var 4) (.var 7)) .nil)) (.int 1)) .nil)))) (.nil)))
    (.cons (.ifs (.cmp .lt (.var 8) (.int 5))
        (.cons (.expr (.meth (.var 2) "assign" .none (.cons (.var 7) (.cons (.var 9) (.cons (.var 10) .nil)))))
          (.cons (.asg (.sub (.ix (.var 3) (.var 7)) (.var 10)) (.ix (.ix (.var 3) (.var 7)) (.var 9))) (.nil)))
        (.cons (.ifs (.cmp .eq (.var 8) (.int 5))
            (.cons (.expr (.meth (.var 2) "reset" .none (.cons (.var 7) (.cons (.var 9) .nil))))
              (.cons (.asg (.sub (.ix (.var 3) (.var 7)) (.var 9)) (.non)) (.nil)))
            (.cons (.asg (.name 11) (.call "_law_looks" (.cons (.var 2) (.cons (.var 7) (.cons (.var 9) (.cons (.var 3) (.cons (.var 4) .nil))))))) (.nil))) (.nil))) (.nil)))
  b_law_T1))))))
def b_law : Ss :=
  .cons (.asg (.name 1) (.bin .add (.int 1) (.bin .mod (.blt .int (.cons (.call "_law_cell" (.cons (.var 0) (.cons (.int 0) .nil))) .nil)) (.int 8))))
  (.cons (.asg (.name 2) (.make "World" (.cons (.var 1) .nil)))
  (.cons (.asg (.name 3) (.lc [5] (.one 5) .rng (.cons (.var 1) .nil) (.nil) (.bin .mul (.lst (.cons (.non) .nil)) (.int 8))))
  (.cons (.asg (.name 4) (.lc [5] (.one 5) .rng (.cons (.var 1) .nil) (.nil) (.lst (.nil))))
  (.cons (.for (.name 5) (.rng (.cons (.int 1) (.cons (.blt .len (.cons (.var 0) .nil)) .nil))) b_law_L2)
  (.cons (.ret (.call "_law_ends_well" (.cons (.var 2) (.cons (.var 1) (.cons (.var 3) (.cons (.var 4) .nil)))))) (.nil))))))
def tb : TabL :=
  { fn := [("check_variable", 1, 1), ("held_reference", 1, 2), ("near_number", 2, 2), ("_law_is_integer", 1, 1), ("_law_number", 1, 2), ("_law_cell", 1, 2), ("_law_makes", 3, 5), ("_law_looks", 4, 5), ("_law_holds", 3, 3), ("_law_ends_well", 5, 4), ("law", 7, 1)]
    cls := [("Outgoing", 1, 0), ("Incoming", 1, 0), ("Network", 1, 0), ("Site", 3, 2), ("Waves", 1, 1), ("World", 5, 1)]
    meth := [("is_near", 1, 1), ("create", 1, 2), ("_site", 1, 1), ("assign", 2, 3), ("reset", 2, 2), ("look", 3, 2), ("variables", 2, 1), ("inbox", 2, 1), ("objects", 2, 1), ("fields", 2, 2)]
    prop := []
    blt := ["ValueError", "bool", "enumerate", "int", "isinstance", "len", "list", "max", "min", "range", "sorted", "tuple"]
    kmeth := [("make", 2, 2, [("size", 0), ("mark", 0)], [[], ["size"], ["mark"], ["size", "mark"]])]
    exn := ["Empty"] }
end K08

local macro_rules | `(tactic| walk_at "go") => `(tactic| simp only [LL.Ss_nil, LL.Ss_cons, LL.S_expr, LL.S_ret, LL.S_retN, LL.S_brk, LL.S_cnt, LL.S_pass, LL.S_asg, LL.S_fld, LL.S_flda, LL.S_ifs, LL.S_fors, LL.S_forr, LL.S_fore, LL.S_fori, LL.S_del, LL.S_try, LL.H_nil, LL.H_cons, LL.H_y, LL.H_n, LL.dnL_n, LL.dnL_s, LL.snL_n, LL.snL_s, LL.at_fn, LL.at_exs, LL.at_hot, LL.at_con, LL.lkE, LL.S_whl,
  LL.E_var, LL.E_con, LL.E_ty, LL.E_int, LL.E_bl, LL.E_non, LL.E_str, LL.E_tup, LL.E_lst, LL.E_bin, LL.E_neg, LL.E_cmp, LL.E_chain, LL.E_and, LL.E_or, LL.E_not, LL.E_ife, LL.E_fld, LL.E_ix, LL.E_call, LL.E_make, LL.E_blt, LL.E_meth,
  LL.A_nil, LL.A_cons, LL.AV_1, LL.AV_2, LL.OV_1, LL.OV_2, LL.AT_1, LL.AT_2, LL.OT_1, LL.OT_2, LL.T_cmp, LL.T_chain, LL.T_and, LL.T_or, LL.T_not, LL.T_var, LL.T_blt, LL.T_call, LL.T_meth, LL.T_fld, LL.T_ix, LL.T_bin,
  LL.G_name, LL.G_tup, LL.G_sub, LL.Gs_nil, LL.Gs_cons, LL.I_seq, LL.D_loc, LL.D_k, LL.D_t, LL.key_int, LL.key_str, LL.keys_2, LL.getK_str, LL.getK_nil, LL.E_dnew, LL.E_olen, LL.V_olM, LL.S_rais, LL.I_enum, LL.E_lcs, LL.E_lcr, LL.E_lce, LL.E_lci, LL.E_lcv, LL.E_dci, LL.Cd_nil, LL.Cd_cons, LL.K_sq1, LL.K_it1, LL.K_it2, LL.K_it3, LL.E_lsRg, LL.V_lr1, LL.V_lr2, LL.E_minv, LL.V_mv1, LL.V_mv2, LL.km_some, LL.E_mkw, LL.E_lcall, LL.V_atF, LL.E_gdx, LL.V_str, LL.V_hot, LL.E_isx, LL.E_disp, LL.V_locM, LL.pairs_nil, LL.pairs_str, LL.pairs_int, LL.merge_nil, LL.merge_one, LL.T_isx, LL.T_mkw, LL.T_lc, LL.T_olen, LL.C_in, LL.C_nin, LL.F_sorted, LL.F_sum, LL.M_remove1, LL.M_count1, LL.M_dget, LL.M_dpop, LL.V_isb, LL.V_notb, LL.V_in, LL.V_nin, LL.V_inm1, LL.V_inm2, LL.V_ino1, LL.V_ino2, LL.V_ino3, LL.V_ino4, LL.V_lk1, LL.V_lk2, LL.V_lk3, LL.V_lk4, LL.V_lk5, LL.V_tk1, LL.V_tk2, LL.V_tk3, LL.V_dg1, LL.V_dg2, LL.V_dp1, LL.V_dp2, LL.V_pr1, LL.V_pr2, LL.V_rm, LL.V_so1, LL.V_so2, LL.V_so3, LL.V_sum1, LL.V_sum2, LL.V_ln6, LL.V_mx2, LL.V_mn2, LL.V_mm, LL.V_li4, LL.V_li5, LL.V_mt3, LL.LO.fz.injEq, Option.map_some, LL.E_sl, LL.P_nil, LL.P_one, LL.V_isI, LL.K_seq, LL.K_rng, LL.K_enum, LL.V_en1, LL.V_en2, LL.V_en3, LL.V_sl1, LL.V_sl2, LL.V_sl3, LL.V_nt1, LL.V_nt2, LL.V_sa1, LL.V_sa2, LL.V_wi1, LL.V_wi2, LL.I_rng, LL.getS_0, LL.getS_s, LL.ends, LL.start,
  LL.V_add, LL.V_addl, LL.V_sub, LL.V_mul, LL.V_mull, LL.V_fdiv, LL.V_mod, LL.V_pow, LL.V_cmp, LL.V_neg, LL.V_isn, LL.V_notn, LL.N_non, LL.N_int, LL.N_bl, LL.N_tup, LL.N_loc, LL.V_B, LL.V_t1, LL.V_t2, LL.V_t3, LL.V_t4, LL.V_t5, LL.V_t6, LL.V_t7, LL.V_in1, LL.V_in2, LL.V_op1, LL.V_at, LL.V_ix1, LL.V_ix2, LL.V_ix3, LL.V_ix4, LL.V_ix5, LL.V_ix6, LL.V_st1, LL.V_st2, LL.V_st3, LL.V_st4, LL.V_ln1, LL.V_ln2, LL.V_ln3, LL.V_ln4, LL.V_ln5, LL.V_int1, LL.V_int2, LL.V_abs, LL.V_max, LL.V_min, LL.V_li1, LL.V_li2, LL.V_li3, LL.V_tu1, LL.V_tu2, LL.V_tu3, LL.V_kd1, LL.V_kd2, LL.V_kd3, LL.V_kd4, LL.V_kd5, LL.V_ap, LL.V_ex, LL.V_po, LL.V_pa, LL.V_rv, LL.V_cl, LL.V_ai, LL.V_sf, LL.V_sq1, LL.V_sq2, LL.V_sq3, LL.V_sq4, LL.V_rg1, LL.V_rg2, LL.V_mt1, LL.V_mt2, LL.V_fd1, LL.V_fd2, LL.V_bl1, LL.V_bl2, LL.O_add, LL.O_sub, LL.O_mul, LL.O_fdiv, LL.O_mod, LL.O_pow, LL.C_eq, LL.C_ne, LL.C_lt, LL.C_le, LL.C_gt, LL.C_ge, LL.C_is, LL.C_isn, LL.F_len, LL.F_int, LL.F_abs, LL.F_max, LL.F_min, LL.F_list, LL.F_tuple, LL.F_isi, LL.M_append1, LL.M_extend1, LL.M_pop0, LL.M_pop1, LL.M_reverse0, LL.M_clear0,
  LL.lEq_int, LL.lNe_int, LL.lEq_bl, LL.lNe_bl, LL.isi_int_int, LL.isi_int_bool, LL.isi_bl_int, LL.isi_bl_bool, LL.isi_tup_tup, LL.isi_loc, LL.isiO_l, LL.isiO_k, LL.isiO_t, LL.kit_ll, LL.kit_dd, LL.isi_non_int, LL.LH.set_ap, LL.LH.set_set, LL.LH.del_ap, LL.Nm.x.injEq, LL.Nm.w.injEq, LL.Nm.a.injEq, LL.atI_0, LL.atI_1, LL.atI_2, Int.toNat_natCast, Int.natCast_inj, LL.ixN_0, LL.ixN_1,
  List.map_cons, List.map_nil, List.length_cons, List.length_nil, List.replicate, List.cons_append, List.nil_append, Nat.reduceAdd, Nat.reduceSub, List.set_cons_zero, List.set_cons_succ,
  Option.some.injEq, exists_eq_left', exists_eq_left, exists_eq_right, exists_eq, exists_eq', LL.LV.int.injEq, LL.LV.bl.injEq, and_true, true_and, Bool.false_eq_true, if_false, if_true, ite_true, ite_false, reduceCtorEq, false_and, and_false, exists_false, false_or, or_false, ↓reduceIte,
  LL.lookup_skip, List.lookup_nil, LL.putL_skip, LL.putL_nil, String.reduceEq, Option.isSome_some, Option.isSome_none, Nat.reduceLT, Bool.not_true, Bool.not_false, decide_eq_true_eq, List.cons.injEq, Prod.mk.injEq, LL.LO.ins.injEq, LL.LO.lst.injEq, LL.LO.dK.injEq, LL.LO.dT.injEq, LL.LV.loc.injEq, LL.LV.tup.injEq, exists_and_left, and_assoc, decide_true, decide_false, beq_self_eq_true, not_true_eq_false, not_false_eq_true, exists_const,
  Nat.reduceEqDiff, Nat.succ_ne_self, Int.reduceSub, Int.reduceAdd, Nat.zero_ne_one, Nat.one_ne_zero, LL.siteF, LL.putW_w, LL.putW_x, LL.putW_a, LL.putS_x, LL.putS_a, *])
local macro_rules | `(tactic| walk_at "side1") => `(tactic| first | decide | omega | (exact LL.cdivw (by omega) (by omega)) | (exact ⟨by decide, by decide, by decide⟩) | (exact .inr (by decide)) | (exact ⟨by decide, by decide +kernel⟩) | (exact .inl (by constructor <;> omega)) | (exact .inr (by constructor <;> omega)))
local macro_rules | `(tactic| walk_at "sd") => `(tactic| repeat ((with_reducible refine And.intro ?_ ?_); · walk_at "side1"))
namespace K08
open PySem L2 LL
variable {G : Glob} {T : Tab} {c : Cl}
theorem iteI {p : Prop} [Decidable p] {a b : Prop} (ha : p → a) (hb : ¬p → b) : if p then a else b := by
  by_cases h : p
  · rw [if_pos h]; exact ha h
  · rw [if_neg h]; exact hb h
section
variable {k n i : Nat} {st : SiteS} {h : LH}
theorem _root_.LL.IsSite.s (hs : IsSite c k n i st h) : h (.w k (.site i)) = some (st.v (.site i), .ins c.site (siteF k i st)) := hs _ rfl
theorem _root_.LL.IsSite.vars (hs : IsSite c k n i st h) : h (.w k (.vars i)) = some (st.v (.vars i), .lst (st.vars.map orv)) := hs _ rfl
theorem _root_.LL.IsSite.inb (hs : IsSite c k n i st h) : h (.w k (.inbox i)) = some (st.v (.inbox i), .lst (st.inbox.map rv)) := hs _ rfl
theorem _root_.LL.IsSite.mrk (hs : IsSite c k n i st h) : h (.w k (.marks i)) = some (st.v (.marks i), .dK (st.marks.map fun p => (.inl (p.1 : Int), .int p.2))) := hs _ rfl
theorem _root_.LL.IsSite.cont (hs : IsSite c k n i st h) : h (.w k (.contents i)) = some (st.v (.contents i), .dK (st.objs.map fun p => (.inl (p.1 : Int), .loc (.w k (.obj i p.1)) (st.v (.obj i p.1))))) := hs _ rfl
theorem _root_.LL.IsSite.ob {m : Nat} (hs : IsSite c k n i st h) : h (.w k (.obj i m)) = (st.objs.lookup m).map fun fs => (st.v (.obj i m), .lst (fs.map orv)) := hs _ rfl
end
/-- a new object's mark and fields -/
def _root_.LL.SiteS.create (st : SiteS) (i sz : Nat) (mk : Int) (ver : Nat) : SiteS :=
  { st with ocount := st.ocount + 1, marks := st.marks ++ [(st.ocount, mk)], objs := st.objs ++ [(st.ocount, List.replicate sz none)], v := fun x => if x = .obj i st.ocount then ver else st.v x }
/-- numbers are given out in order -/
def _root_.LL.SiteS.Fresh (st : SiteS) : Prop := (∀ p ∈ st.marks, p.1 < st.ocount) ∧ ∀ p ∈ st.objs, p.1 < st.ocount
theorem look_none {β : Type} {m : Nat} : ∀ {l : List (Nat × β)}, (∀ p ∈ l, p.1 < m) → l.lookup m = none
  | [], _ => rfl
  | (a, b) :: r, h => by
    have h1 := h _ List.mem_cons_self
    rw [List.lookup_cons, show (m == a) = false by simp; omega]
    exact look_none fun p hp => h p (List.mem_cons_of_mem _ hp)
theorem lookup_snoc {β : Type} {m : Nat} {x : β} : ∀ {l : List (Nat × β)} {y : Nat}, (∀ p ∈ l, p.1 < m) → (l ++ [(m, x)]).lookup y = if y = m then some x else l.lookup y
  | [], y, _ => by
    rw [List.nil_append, List.lookup_cons]
    by_cases e : y = m
    · rw [show (y == m) = true by simpa using e, if_pos e]
    · rw [show (y == m) = false by simpa using e, if_neg e]
  | (a, b) :: r, y, h => by
    have h1 : a < m := h _ List.mem_cons_self
    rw [List.cons_append, List.lookup_cons, List.lookup_cons, lookup_snoc fun p hp => h p (List.mem_cons_of_mem _ hp)]
    by_cases e : y = a
    · rw [show (y == a) = true by simpa using e]
      simp only
      rw [if_neg (by omega)]
    · rw [show (y == a) = false by simpa using e]
theorem put_new {m : Nat} {x : LV} : ∀ {l : List (Key × LV)}, (∀ p ∈ l, p.1 ≠ .inl (m : Int)) → LL.putK l (.inl (m : Int)) x = l ++ [(.inl (m : Int), x)] := fun {l} h => by
  unfold LL.putK
  rw [if_neg]
  intro z
  obtain ⟨p, hp, e⟩ := List.any_eq_true.mp z
  exact h p hp (of_decide_eq_true e)
def spNear (c : Cl) : LSp := fun xs h Q _ => ∃ k n i st v r, xs = [.loc (.w k (.site i)) v, rv r] ∧ IsSite c k n i st h ∧ v = st.v (.site i) ∧ Q (.bl (decide (r.1 = i))) h
theorem k_near (ga : G.attr c.site "number" = true) : Keeps G T n_Site_is_near 2 b_Site_is_near (spNear c) := by
  rintro xs h Q X hn ⟨k, n, i, st, v, r, rfl, hs, rfl, q⟩
  have e := hs.s
  unfold b_Site_is_near n_Site_is_near rv
  walk_at "go"
  exact fin q
def spCreate (c : Cl) : LSp := fun xs h Q _ => ∃ k n i st v sz mk, xs = [.loc (.w k (.site i)) v, .int (sz : Nat), .int mk] ∧ IsSite c k n i st h ∧ v = st.v (.site i) ∧ st.Fresh ∧ sz ≤ 1000 ∧ st.ocount < 1000000 ∧ st.marks.length < 1000000 ∧ st.objs.length < 1000000 ∧
  ∀ ver, Q (rv (i, st.ocount)) (h.putS k i (encS c k n i (st.create i sz mk ver)))
theorem k_create (ga : G.attr c.site "number" = true) (g1 : G.attr c.site "object_count" = true) (g2 : G.attr c.site "marks" = true) (g3 : G.attr c.site "contents" = true) : Keeps G T n_Site_create 3 b_Site_create (spCreate c) := by
  rintro xs h Q X hn ⟨k, n, i, st, v, sz, mk, rfl, hs, rfl, fr, hsz, ho, hm1, hm2, q⟩
  have e := hs.s
  have e2 := hs.mrk
  have e3 := hs.cont
  have e4 : h (.w k (.obj i st.ocount)) = none := by rw [hs.ob, look_none fr.2]; rfl
  unfold b_Site_create n_Site_create
  walk_at "go"
  have s1 : sizeLine = 16777216 := sizeLine_eq
  refine ⟨by rw [List.length_map]; omega, by omega, alloc_any fun k0 hk0 v0 => ?_⟩
  simp only [LH.set_ap, reduceCtorEq, if_false] at hk0
  walk_at "go"
  refine ⟨by omega, by omega, by simp; omega, alloc_at (.w k (.obj i st.ocount)) (by simp [LH.set_ap, e4]) fun ver => ?_⟩
  walk_at "go"
  refine ⟨by rw [List.length_map]; omega, by decide, ?_⟩
  have f1 : LL.putK (st.marks.map fun (p : Nat × Int) => ((.inl (p.1 : Int) : Key), LV.int p.2)) (.inl (st.ocount : Int)) (.int mk) = ((st.marks ++ [(st.ocount, mk)]).map fun (p : Nat × Int) => ((.inl (p.1 : Int) : Key), LV.int p.2)) := by
    rw [put_new, List.map_append]; · rfl
    intro p hp e
    obtain ⟨y, hy, rfl⟩ := List.mem_map.mp hp
    have := fr.1 y hy
    simp only [Sum.inl.injEq] at e; omega
  have f2 : LL.putK (st.objs.map fun (p : Nat × List (Option Rf)) => ((.inl (p.1 : Int) : Key), LV.loc (.w k (.obj i p.1)) (st.v (.obj i p.1)))) (.inl (st.ocount : Int)) (.loc (.w k (.obj i st.ocount)) ver) =
      ((st.objs ++ [(st.ocount, List.replicate sz none)]).map fun (p : Nat × List (Option Rf)) => ((.inl (p.1 : Int) : Key), LV.loc (.w k (.obj i p.1)) ((st.create i sz mk ver).v (.obj i p.1)))) := by
    rw [put_new, List.map_append]
    · congr 1
      · refine List.map_congr_left fun p hp => ?_
        have := fr.2 p hp
        simp only [SiteS.create, WN.obj.injEq, true_and]
        rw [if_neg (by omega)]
      · simp [SiteS.create]
    · intro p hp e
      obtain ⟨y, hy, rfl⟩ := List.mem_map.mp hp
      have := fr.2 y hy
      simp only [Sum.inl.injEq] at e; omega
  have f3 : (List.replicate sz [LV.non]).flatten = ((List.replicate sz (none : Option Rf)).map orv) := by
    rw [List.map_replicate]
    induction sz with
    | zero => rfl
    | succ n ih => simp [List.replicate_succ, orv]
  rw [f1, f2, f3]
  refine ⟨_, le_putS (fun x hx => ?_) (fun m p hm hp => ?_), q ver⟩
  · have hx2 := hs x hx
    cases x <;> first | (cases hx; done) | skip
    all_goals (simp only [siteOf, Option.some.injEq] at hx; subst hx)
    all_goals first
      | (simp only [LH.set_ap, Nm.w.injEq, reduceCtorEq, WN.obj.injEq, and_false, true_and, if_false, if_true, and_true, WN.site.injEq, WN.marks.injEq, WN.contents.injEq, hx2, encS, SiteS.create, siteF]; done)
      | (rename_i m
         simp only [LH.set_ap, Nm.w.injEq, reduceCtorEq, WN.obj.injEq, and_false, true_and, if_false, hx2, encS, SiteS.create]
         rw [lookup_snoc fr.2]
         by_cases em : m = st.ocount
         · simp [em]
         · simp [em])
      | (simp [LH.set_ap, hx2, encS, SiteS.create, siteF]; done)
  · by_cases z : m = .a k0
    · rw [z, hk0] at hp; cases hp
    · simp only [LH.set_ap]
      have nw : ∀ x, siteOf x = some i → m ≠ .w k x := fun x e e2 => hm x e2 e
      rw [if_neg (nw _ rfl), if_neg (nw _ rfl), if_neg z, if_neg (nw _ rfl), if_neg (nw _ rfl)]
      exact hp
end K08
namespace K08
open PySem L2 LL
variable {G : Glob} {T : Tab} {c : Cl}
/-- the errors -/
structure Ex where
  (unknown empty notnear notfar : Addr)
variable {x : Ex}
section
variable {k : Nat} {W : Wd} {h : LH}
theorem _root_.LL.IsW.wo (w : IsW c k W h) : h (.w k .world) = some (W.v .world, .ins c.world [("_sites", .loc (.w k .sites) (W.v .sites)), ("_network", .loc (.w k .net) (W.v .net)), ("_waves", .loc (.w k .waves) (W.v .waves))]) := w.top rfl
theorem _root_.LL.IsW.si (w : IsW c k W h) : h (.w k .sites) = some (W.v .sites, .lst ((List.range W.n).map fun i => .loc (.w k (.site i)) ((W.s i).v (.site i)))) := w.top rfl
end
def spCheck (x : Ex) : LSp := fun xs h Q X => ∃ v : Int, xs = [.int v] ∧ if 0 ≤ v ∧ v < 8 then Q .non h else X x.unknown h
theorem k_check (gv : G.con "VARIABLES" = some (.int 8)) (ge : G.exc "Unknown" = some x.unknown) : Keeps G T n_check_variable 1 b_check_variable (spCheck x) := by
  rintro xs h Q X hn ⟨v, rfl, q⟩
  unfold b_check_variable n_check_variable
  walk_at "go"
  by_cases h1 : 0 ≤ v <;> by_cases h2 : v < 8 <;> simp only [h1, h2, and_self, and_true, true_and, if_true, if_false, and_false, false_and] at q <;> walk_at "go"
  all_goals first | exact fin q | exact q
def spHeld (c : Cl) (x : Ex) : LSp := fun xs h Q X => ∃ k n i st v, ∃ j : Nat, xs = [.loc (.w k (.site i)) v, .int j] ∧ IsSite c k n i st h ∧ v = st.v (.site i) ∧ ∃ r, st.vars[j]? = some r ∧ match r with
  | some r => Q (rv r) h
  | none => X x.empty h
theorem k_held (ga : G.attr c.site "variables" = true) (ge : G.exc "Empty" = some x.empty) : Keeps G T n_held_reference 2 b_held_reference (spHeld c x) := by
  rintro xs h Q X hn ⟨k, n, i, st, v, j, rfl, hs, rfl, r, hr, q⟩
  have e := hs.s
  have e2 := hs.vars
  have e3 : atI (st.vars.map orv) (j : Int) = some (orv r) := atI_nat (by rw [List.getElem?_map, hr]; rfl)
  unfold b_held_reference n_held_reference
  walk_at "go"
  cases r with
  | none =>
    have e4 : LV.isNon (orv none) = true := rfl
    simp only at q
    walk_at "go"
  | some r => 
    have e4 : LV.isNon (orv (some r)) = false := rfl
    walk_at "go"
    exact fin q
def spNearNum (c : Cl) (x : Ex) : LSp := fun xs h Q X => ∃ k n i st v, ∃ j : Nat, xs = [.loc (.w k (.site i)) v, .int j] ∧ IsSite c k n i st h ∧ v = st.v (.site i) ∧ ∃ r, st.vars[j]? = some r ∧ match r with
  | some r => if r.1 = i then Q (.int r.2) h else X x.notnear h
  | none => X x.empty h
theorem k_nearnum (gh : G.fn "held_reference" = some (spHeld c x)) (gn : G.meth c.site "is_near" = some (spNear c)) (tn : (T.meth "is_near").isSome = true) (ge : G.exc "NotNear" = some x.notnear) : Keeps G T n_near_number 2 b_near_number (spNearNum c x) := by
  rintro xs h Q X hn ⟨k, n, i, st, v, j, rfl, hs, rfl, r, hr, q⟩
  have e := hs.s
  unfold b_near_number n_near_number
  walk_at "go"
  refine ⟨k, n, i, st, _, j, rfl, hs, rfl, r, hr, ?_⟩
  cases r with
  | none => exact q
  | some r =>
    simp only at q ⊢
    walk_at "go"
    refine ⟨k, n, i, st, _, r, rfl, hs, rfl, ?_⟩
    by_cases hi : r.1 = i
    · simp only [hi, if_true, decide_true] at q ⊢
      unfold rv
      walk_at "go"
      exact fin q
    · simp only [hi, if_false, decide_false] at q ⊢
      walk_at "go"
def spSite (c : Cl) (x : Ex) : LSp := fun xs h Q X => ∃ k W v, ∃ i : Int, xs = [.loc (.w k .world) v, .int i] ∧ IsW c k W h ∧ v = W.v .world ∧ if 0 ≤ i ∧ i < W.n then Q (.loc (.w k (.site i.toNat)) ((W.s i.toNat).v (.site i.toNat))) h else X x.unknown h
theorem k_site (ga : G.attr c.world "_sites" = true) (ge : G.exc "Unknown" = some x.unknown) : Keeps G T n_World__site 2 b_World__site (spSite c x) := by
  rintro xs h Q X hn ⟨k, W, v, i, rfl, w, rfl, q⟩
  have e := w.wo
  have e2 := w.si
  unfold b_World__site n_World__site
  walk_at "go"
  simp only [List.length_map, List.length_range]
  by_cases h1 : 0 ≤ i <;> by_cases h2 : i < W.n <;> simp only [h1, h2, and_self, and_true, true_and, if_true, if_false, and_false, false_and] at q <;> walk_at "go"
  · have e3 : atI ((List.range W.n).map fun i => LV.loc (.w k (.site i)) ((W.s i).v (.site i))) i = some (.loc (.w k (.site i.toNat)) ((W.s i.toNat).v (.site i.toNat))) := by
      have z := atI_nat (xs := (List.range W.n).map fun i => LV.loc (.w k (.site i)) ((W.s i).v (.site i))) (j := i.toNat) (v := .loc (.w k (.site i.toNat)) ((W.s i.toNat).v (.site i.toNat))) (by rw [List.getElem?_map, List.getElem?_range (by omega)]; rfl)
      rw [Int.toNat_of_nonneg h1] at z
      exact z
    walk_at "go"
    exact fin q
  all_goals first | exact q
end K08
namespace K08
open PySem L2 LL
variable {G : Glob} {T : Tab} {c : Cl} {x : Ex}
def _root_.LL.SiteS.setVar (st : SiteS) (j : Nat) (r : Option Rf) : SiteS := { st with vars := st.vars.set j r }
/-- sizes -/
structure _root_.LL.SiteS.Ok (st : SiteS) : Prop where
  vl : st.vars.length = 8
  fr : st.Fresh
  oc : st.ocount < 1000000
  ml : st.marks.length ≤ st.ocount
  ol : st.objs.length ≤ st.ocount
theorem set_vars {k n i j : Nat} {st : SiteS} {h : LH} {r : Option Rf} (hs : IsSite c k n i st h) : h.set (.w k (.vars i)) (st.v (.vars i)) (.lst ((st.vars.map orv).set j (orv r))) = h.putS k i (encS c k n i (st.setVar j r)) := by
  refine set_putS hs rfl fun y hy => ?_
  cases y <;> first | (cases hy; done) | skip
  all_goals (simp only [siteOf, Option.some.injEq] at hy; subst hy)
  all_goals first | rfl | simp [encS, SiteS.setVar, siteF]
def Nat5 (xs : List LV) (k : Nat) (v : Nat) (as : List LV) : Prop := xs = .loc (.w k .world) v :: as
/-- what _site and check_variable ask, found good -/
structure Args (x : Ex) (c : Cl) (G : Glob) (T : Tab) : Prop where
  ms : G.meth c.world "_site" = some (spSite c x)
  ts : (T.meth "_site").isSome = true
  fc : G.fn "check_variable" = some (spCheck x)
  a1 : G.attr c.site "variables" = true
theorem site_of {k : Nat} {W : Wd} {h : LH} {Q : LQ} {X : LX} {i : Nat} (w : IsW c k W h) (hi : i < W.n) (q : Q (.loc (.w k (.site i)) ((W.s i).v (.site i))) h) : spSite c x [.loc (.w k .world) (W.v .world), .int (i : Nat)] h Q X :=
  ⟨k, W, _, i, rfl, w, rfl, by rw [if_pos ⟨by omega, by omega⟩, Int.toNat_natCast]; exact q⟩
theorem check_of {h : LH} {Q : LQ} {X : LX} {j : Nat} (hj : j < 8) (q : Q .non h) : spCheck x [.int (j : Nat)] h Q X := ⟨_, rfl, by rw [if_pos ⟨by omega, by omega⟩]; exact q⟩
def spMake (c : Cl) : LSp := fun xs h Q _ => ∃ k W, ∃ i j sz : Nat, ∃ mk : Int, xs = [.loc (.w k .world) (W.v .world), .int i, .int j, .int sz, .int mk] ∧ IsW c k W h ∧ i < W.n ∧ j < 8 ∧ sz ≤ 1000 ∧ (W.s i).Ok ∧
  ∀ ver, Q (rv (i, (W.s i).ocount)) (h.putW k (encW c k (W.setS i (((W.s i).create i sz mk ver).setVar j (some (i, (W.s i).ocount))))))
theorem k_make (A : Args x c G T) (mc : G.meth c.site "create" = some (spCreate c)) (tc : (T.meth "create").isSome = true) : Keeps G T n_World_make 5 b_World_make (spMake c) := by
  rintro xs h Q X hn ⟨k, W, i, j, sz, mk, rfl, w, hi, hj, hsz, ok, q⟩
  have e := w.wo
  have e1 := (w.site hi).s
  have e2 := (w.site hi).vars
  obtain ⟨ms, ts, fc, a1⟩ := A
  have hs := w.site hi
  unfold b_World_make n_World_make
  walk_at "go"
  refine site_of w hi ?_
  walk_at "go"
  refine check_of hj ?_
  walk_at "go"
  refine ⟨k, W.n, i, W.s i, _, sz, mk, rfl, hs, rfl, ok.fr, hsz, ok.oc, Nat.lt_of_le_of_lt ok.ml ok.oc, Nat.lt_of_le_of_lt ok.ol ok.oc, fun ver => ?_⟩
  have hs2 : IsSite c k W.n i ((W.s i).create i sz mk ver) (h.putS k i (encS c k W.n i ((W.s i).create i sz mk ver))) := isS_put
  have e3 := hs2.s
  have e4 := hs2.vars
  have jl : j < (List.map orv ((W.s i).create i sz mk ver).vars).length := by rw [List.length_map]; show j < (W.s i).vars.length; rw [ok.vl]; exact hj
  have e5 := ixN_nat jl
  have e8 : atI ((List.map orv ((W.s i).create i sz mk ver).vars).set j (rv (i, (W.s i).ocount))) (j : Int) = some (rv (i, (W.s i).ocount)) := atI_nat (List.getElem?_set_self jl)
  have e6 : ((W.s i).create i sz mk ver).v (.site i) = (W.s i).v (.site i) := by simp [SiteS.create]
  have e7 : ((W.s i).create i sz mk ver).v (.vars i) = (W.s i).v (.vars i) := by simp [SiteS.create]
  rw [e6] at e3
  walk_at "go"
  have z := set_vars (j := j) (r := some (i, (W.s i).ocount)) hs2
  rw [e7] at z
  rw [show rv (i, (W.s i).ocount) = orv (some (i, (W.s i).ocount)) from rfl, z, putS_putS, w.putS hi (by simp [SiteS.setVar, SiteS.create])]
  exact fin (q ver)
def spAssign (c : Cl) : LSp := fun xs h Q _ => ∃ k W, ∃ i j l : Nat, xs = [.loc (.w k .world) (W.v .world), .int i, .int j, .int l] ∧ IsW c k W h ∧ i < W.n ∧ j < 8 ∧ l < 8 ∧ (W.s i).vars.length = 8 ∧
  ∃ r, (W.s i).vars[j]? = some r ∧ Q .non (h.putW k (encW c k (W.setS i ((W.s i).setVar l r))))
theorem k_assign (A : Args x c G T) : Keeps G T n_World_assign 4 b_World_assign (spAssign c) := by
  rintro xs h Q X hn ⟨k, W, i, j, l, rfl, w, hi, hj, hl, vl, r, hr, q⟩
  have e := w.wo
  have hs := w.site hi
  have e1 := hs.s
  have e2 := hs.vars
  obtain ⟨ms, ts, fc, a1⟩ := A
  have jl : l < (List.map orv (W.s i).vars).length := by rw [List.length_map, vl]; exact hl
  have e5 := ixN_nat jl
  have e8 : atI (List.map orv (W.s i).vars) (j : Int) = some (orv r) := atI_nat (by rw [List.getElem?_map, hr]; rfl)
  unfold b_World_assign n_World_assign
  walk_at "go"
  refine site_of w hi ?_
  walk_at "go"
  refine check_of hj ?_
  refine check_of hl ?_
  walk_at "go"
  rw [set_vars (r := r) hs, w.putS hi (by simp [SiteS.setVar])]
  exact fin q
def spReset (c : Cl) : LSp := fun xs h Q _ => ∃ k W, ∃ i j : Nat, xs = [.loc (.w k .world) (W.v .world), .int i, .int j] ∧ IsW c k W h ∧ i < W.n ∧ j < 8 ∧ (W.s i).vars.length = 8 ∧ Q .non (h.putW k (encW c k (W.setS i ((W.s i).setVar j none))))
theorem k_reset (A : Args x c G T) : Keeps G T n_World_reset 3 b_World_reset (spReset c) := by
  rintro xs h Q X hn ⟨k, W, i, j, rfl, w, hi, hj, vl, q⟩
  have e := w.wo
  have hs := w.site hi
  have e1 := hs.s
  have e2 := hs.vars
  obtain ⟨ms, ts, fc, a1⟩ := A
  have jl : j < (List.map orv (W.s i).vars).length := by rw [List.length_map, vl]; exact hj
  have e5 := ixN_nat jl
  unfold b_World_reset n_World_reset
  walk_at "go"
  refine site_of w hi ?_
  walk_at "go"
  refine check_of hj ?_
  walk_at "go"
  rw [show (LV.non) = orv none from rfl, set_vars (r := none) hs, w.putS hi (by simp [SiteS.setVar])]
  exact fin q
def spLook (c : Cl) (x : Ex) : LSp := fun xs h Q X => ∃ k W, ∃ i j : Nat, xs = [.loc (.w k .world) (W.v .world), .int i, .int j] ∧ IsW c k W h ∧ i < W.n ∧ j < 8 ∧ ∃ r, (W.s i).vars[j]? = some r ∧ match r with
  | none => X x.empty h
  | some r => if r.1 = i then ∃ m, (W.s i).marks.lookup r.2 = some m ∧ Q (.int m) h else X x.notnear h
theorem getK_nat {β : Type} {f : Nat × β → LV} {m : Nat} : ∀ {l : List (Nat × β)}, getK (l.map fun p => ((.inl (p.1 : Int) : Key), f p)) (.inl (m : Int)) = (l.lookup m).map fun y => f (m, y)
  | [] => rfl
  | (a, b) :: r => by
    unfold getK
    rw [List.map_cons, List.find?_cons, List.lookup_cons]
    by_cases e : m = a
    · subst e; simp
    · have e2 : (m == a) = false := by simpa using e
      have e3 : ¬ ((.inl (a : Int) : Key) = .inl (m : Int)) := by simp; omega
      simp only [e3, decide_false, e2]
      exact getK_nat (l := r)
theorem k_look (A : Args x c G T) (a2 : G.attr c.site "marks" = true) (fn : G.fn "near_number" = some (spNearNum c x)) : Keeps G T n_World_look 3 b_World_look (spLook c x) := by
  rintro xs h Q X hn ⟨k, W, i, j, rfl, w, hi, hj, r, hr, q⟩
  have e := w.wo
  have hs := w.site hi
  have e1 := hs.s
  have e2 := hs.mrk
  obtain ⟨ms, ts, fc, a1⟩ := A
  unfold b_World_look n_World_look
  walk_at "go"
  refine site_of w hi ?_
  walk_at "go"
  refine check_of hj ?_
  walk_at "go"
  refine ⟨k, W.n, i, W.s i, _, j, rfl, hs, rfl, r, hr, ?_⟩
  cases r with
  | none => exact q
  | some r =>
    simp only at q ⊢
    by_cases hi2 : r.1 = i
    · rw [if_pos hi2] at q ⊢
      obtain ⟨m, hm, q⟩ := q
      have e9 : getK ((W.s i).marks.map fun p => ((.inl (p.1 : Int) : Key), LV.int p.2)) (.inl (r.2 : Int)) = some (.int m) := by rw [getK_nat (f := fun p => LV.int p.2), hm]; rfl
      walk_at "go"
      exact fin q
    · rw [if_neg hi2] at q ⊢
      exact q
def spVars (c : Cl) : LSp := fun xs h Q _ => ∃ k W, ∃ i : Nat, xs = [.loc (.w k .world) (W.v .world), .int i] ∧ IsW c k W h ∧ i < W.n ∧ Alloc h (.lst ((W.s i).vars.map orv)) Q
theorem fin_alloc {h : LH} {o : LO} {Q : LQ} (A : Alloc h o Q) : Alloc h o (LL.Fin Q) := by
  rcases A with ⟨n, e, q⟩ | q
  · exact .inl ⟨n, e, fun v => fin (q v)⟩
  · exact .inr fun k e v => fin (q k e v)
theorem k_vars (A : Args x c G T) : Keeps G T n_World_variables 2 b_World_variables (spVars c) := by
  rintro xs h Q X hn ⟨k, W, i, rfl, w, hi, q⟩
  have e := w.wo
  have hs := w.site hi
  have e1 := hs.s
  have e2 := hs.vars
  obtain ⟨ms, ts, fc, a1⟩ := A
  unfold b_World_variables n_World_variables
  walk_at "go"
  refine site_of w hi ?_
  walk_at "go"
  exact fin_alloc q
def spInbox (c : Cl) : LSp := fun xs h Q _ => ∃ k W, ∃ i : Nat, xs = [.loc (.w k .world) (W.v .world), .int i] ∧ IsW c k W h ∧ i < W.n ∧ Alloc h (.lst ((W.s i).inbox.map rv)) Q
theorem k_inbox (A : Args x c G T) (a2 : G.attr c.site "inbox" = true) : Keeps G T n_World_inbox 2 b_World_inbox (spInbox c) := by
  rintro xs h Q X hn ⟨k, W, i, rfl, w, hi, q⟩
  have e := w.wo
  have hs := w.site hi
  have e1 := hs.s
  have e2 := hs.inb
  obtain ⟨ms, ts, fc, a1⟩ := A
  unfold b_World_inbox n_World_inbox
  walk_at "go"
  refine site_of w hi ?_
  walk_at "go"
  exact fin_alloc q
def spObjects (c : Cl) : LSp := fun xs h Q _ => ∃ k W, ∃ i : Nat, xs = [.loc (.w k .world) (W.v .world), .int i] ∧ IsW c k W h ∧ i < W.n ∧ Alloc h (.lst ((sortI ((W.s i).objs.map fun p => (p.1 : Int))).map LV.int)) Q
theorem k_objects (A : Args x c G T) (a2 : G.attr c.site "contents" = true) : Keeps G T n_World_objects 2 b_World_objects (spObjects c) := by
  rintro xs h Q X hn ⟨k, W, i, rfl, w, hi, q⟩
  have e := w.wo
  have hs := w.site hi
  have e1 := hs.s
  have e2 := hs.cont
  obtain ⟨ms, ts, fc, a1⟩ := A
  unfold b_World_objects n_World_objects
  walk_at "go"
  refine site_of w hi ?_
  walk_at "go"
  exact ⟨_, by simp [List.map_map, Function.comp_def], fin_alloc q⟩
def spFields (c : Cl) (x : Ex) : LSp := fun xs h Q X => ∃ k W, ∃ i m : Nat, xs = [.loc (.w k .world) (W.v .world), .int i, .int m] ∧ IsW c k W h ∧ i < W.n ∧ match (W.s i).objs.lookup m with
  | none => X x.unknown h
  | some fs => Alloc h (.lst (fs.map orv)) Q
theorem k_fields (A : Args x c G T) (a2 : G.attr c.site "contents" = true) (ge : G.exc "Unknown" = some x.unknown) : Keeps G T n_World_fields 3 b_World_fields (spFields c x) := by
  rintro xs h Q X hn ⟨k, W, i, m, rfl, w, hi, q⟩
  have e := w.wo
  have hs := w.site hi
  have e1 := hs.s
  have e2 := hs.cont
  have e3 := hs.ob (m := m)
  obtain ⟨ms, ts, fc, a1⟩ := A
  have e9 := getK_nat (m := m) (f := fun (p : Nat × List (Option Rf)) => LV.loc (.w k (.obj i p.1)) ((W.s i).v (.obj i p.1))) (l := (W.s i).objs)
  unfold b_World_fields n_World_fields
  walk_at "go"
  refine site_of w hi ?_
  cases hl : (W.s i).objs.lookup m with
  | none =>
    rw [hl] at q e9
    simp only [Option.map_none] at q e9
    walk_at "go"
  | some fs =>
    rw [hl] at q e9 e3
    simp only [Option.map_some] at q e9 e3
    walk_at "go"
    exact fin_alloc q
end K08
local macro_rules | `(tactic| walk_at "heq") => `(tactic| (funext m; simp only [LL.LH.set_ap]; (repeat' split) <;> simp_all))
namespace K08
open PySem L2 LL
variable {G : Glob} {T : Tab} {c : Cl} {x : Ex}
def spOutI (c : Cl) : LSp := fun xs h Q _ => ∃ k i j v, xs = [.loc (.w k (.out i j)) v] ∧ h (.w k (.out i j)) = some (v, .ins c.out []) ∧ h (.w k (.wait i j 0)) = none ∧
  ∀ wv, Q .non ((h.set (.w k (.out i j)) v (.ins c.out [("_acknowledged", .int 0), ("_waiting", .loc (.w k (.wait i j 0)) wv)])).set (.w k (.wait i j 0)) wv (.lst []))
theorem k_outi (g1 : G.attr c.out "_acknowledged" = true) (g2 : G.attr c.out "_waiting" = true) : Keeps G T n_Outgoing_init 1 b_Outgoing_init (spOutI c) := by
  rintro xs h Q X hn ⟨k, i, j, v, rfl, e, e2, q⟩
  unfold b_Outgoing_init n_Outgoing_init
  walk_at "go"
  refine ⟨by decide, alloc_at (.w k (.wait i j 0)) (by simp [LH.set_ap, e2]) fun wv => ?_⟩
  walk_at "go"
  exact fin (cast (congrArg (Q .non) (by walk_at "heq")) (q wv))
def spIncI (c : Cl) : LSp := fun xs h Q _ => ∃ n v, xs = [.loc n v] ∧ h n = some (v, .ins c.inc []) ∧ Q .non (h.set n v (.ins c.inc [("count", .int 0)]))
theorem k_inci (g1 : G.attr c.inc "count" = true) : Keeps G T n_Incoming_init 1 b_Incoming_init (spIncI c) := by
  rintro xs h Q X hn ⟨n, v, rfl, e, q⟩
  unfold b_Incoming_init n_Incoming_init
  walk_at "go"
  exact fin q
def spNetI (c : Cl) : LSp := fun xs h Q _ => ∃ k v, xs = [.loc (.w k .net) v] ∧ h (.w k .net) = some (v, .ins c.net []) ∧ h (.w k .packets) = none ∧
  ∀ wv, Q .non ((h.set (.w k .net) v (.ins c.net [("_packets", .loc (.w k .packets) wv)])).set (.w k .packets) wv (.lst []))
theorem k_neti (g1 : G.attr c.net "_packets" = true) : Keeps G T n_Network_init 1 b_Network_init (spNetI c) := by
  rintro xs h Q X hn ⟨k, v, rfl, e, e2, q⟩
  unfold b_Network_init n_Network_init
  walk_at "go"
  refine ⟨by decide, alloc_at (.w k .packets) (by simp [LH.set_ap, e2]) fun wv => ?_⟩
  walk_at "go"
  exact fin (cast (congrArg (Q .non) (by walk_at "heq")) (q wv))
def spWavI (c : Cl) : LSp := fun xs h Q _ => ∃ k v n u ys, xs = [.loc (.w k .waves) v, .loc n u] ∧ h (.w k .waves) = some (v, .ins c.waves []) ∧ h n = some (u, .lst ys) ∧ h (.w k .others) = none ∧ h (.w k (.noted 0)) = none ∧
  ∀ v1 v2, Q .non (((h.set (.w k .waves) v (.ins c.waves [("others", .loc (.w k .others) v1), ("number", .int 0), ("noted", .loc (.w k (.noted 0)) v2), ("is_open", .bl false)])).set (.w k .others) v1 (.lst ys)).set (.w k (.noted 0)) v2 (.dK []))
theorem k_wavi (g1 : G.attr c.waves "others" = true) (g2 : G.attr c.waves "number" = true) (g3 : G.attr c.waves "noted" = true) (g4 : G.attr c.waves "is_open" = true) : Keeps G T n_Waves_init 2 b_Waves_init (spWavI c) := by
  rintro xs h Q X hn ⟨k, v, n, u, ys, rfl, e, e2, e3, e4, q⟩
  unfold b_Waves_init n_Waves_init
  walk_at "go"
  refine alloc_at (.w k .others) e3 fun v1 => ?_
  walk_at "go"
  refine .inl (alloc_at (.w k (.noted 0)) (by simp [LH.set_ap, e4]) fun v2 => ?_)
  walk_at "go"
  exact fin (cast (congrArg (Q .non) (by walk_at "heq")) (q v1 v2))
def spSiteI (c : Cl) : LSp := fun xs h Q _ => ∃ k, ∃ i n : Nat, ∃ v, xs = [.loc (.w k (.site i)) v, .int i, .int n] ∧ n ≤ 100 ∧ (∀ y, siteOf y = some i → h (.w k y) = if y = .site i then some (v, .ins c.site []) else none) ∧
  ∀ vs : WN → Nat, vs (.site i) = v → Q .non (h.putS k i (encS c k n i { v := vs }))
theorem chs_succ {t i : Nat} : chs (t + 1) i = if t = i then chs t i else chs t i ++ [t] := by
  unfold chs
  rw [List.range_succ, List.filter_append]
  by_cases e : t = i <;> simp [e]
theorem chs_lt {t i j : Nat} : j ∈ chs t i → j < t := fun h => by
  unfold chs at h
  exact List.mem_range.mp (List.mem_filter.mp h).1
theorem chs_len {t i : Nat} : (chs t i).length ≤ t := by
  unfold chs
  exact Nat.le_trans (List.length_filter_le _ _) (by rw [List.length_range]; exact Nat.le_refl _)
theorem put_chs {t i : Nat} {f : Nat → LV} {x : LV} : LL.putK ((chs t i).map fun (j : Nat) => ((.inl (j : Int) : Key), f j)) (.inl (t : Int)) x = ((chs t i).map fun (j : Nat) => ((.inl (j : Int) : Key), f j)) ++ [(.inl (t : Int), x)] := put_new fun p hp e => by
  obtain ⟨j, hj, rfl⟩ := List.mem_map.mp hp
  have := chs_lt hj
  simp only [Sum.inl.injEq] at e; omega
structure GS (G : Glob) (c : Cl) : Prop where
  a : ∀ f ∈ ["number", "variables", "inbox", "marks", "contents", "object_count", "parcels", "parcel_count", "questions", "question_count", "arrivals", "holdings", "entries", "clock", "bound", "settled", "low", "pending", "needed", "outgoing", "incoming"], G.attr c.site (Str.ofString f) = true
def blank (vs : WN → Nat) : SiteS := { v := vs }
def vsOf (i : Nat) (v v1 v2 v3 v4 v5 v6 v7 v8 v9 v10 v11 v12 : Nat) : WN → Nat
  | .site _ => v | .vars _ => v1 | .inbox _ => v2 | .marks _ => v3 | .contents _ => v4 | .parcels _ => v5 | .questions _ => v6 | .arrivals _ => v7 | .holdings _ => v8 | .entries _ => v9 | .needed _ _ => v10 | .outg _ => v11 | .incg _ => v12
  | _ => 0
theorem k_sitei (gs : GS G c) (gv : G.con "VARIABLES" = some (.int 8)) (co : G.cls "Outgoing" = some (c.out, spOutI c)) (ci : G.cls "Incoming" = some (c.inc, spIncI c)) : Keeps G T n_Site_init 3 b_Site_init (spSiteI c) := by
  rintro xs h Q X hn ⟨k, i, n, v, rfl, hn100, hf, q⟩
  have g1 := gs.a "number" (by decide)
  have g2 := gs.a "variables" (by decide)
  have g3 := gs.a "inbox" (by decide)
  have g4 := gs.a "marks" (by decide)
  have g5 := gs.a "contents" (by decide)
  have g6 := gs.a "object_count" (by decide)
  have g7 := gs.a "parcels" (by decide)
  have g8 := gs.a "parcel_count" (by decide)
  have g9 := gs.a "questions" (by decide)
  have g10 := gs.a "question_count" (by decide)
  have g11 := gs.a "arrivals" (by decide)
  have g12 := gs.a "holdings" (by decide)
  have g13 := gs.a "entries" (by decide)
  have g14 := gs.a "clock" (by decide)
  have g15 := gs.a "bound" (by decide)
  have g16 := gs.a "settled" (by decide)
  have g17 := gs.a "low" (by decide)
  have g18 := gs.a "pending" (by decide)
  have g19 := gs.a "needed" (by decide)
  have g20 := gs.a "outgoing" (by decide)
  have g21 := gs.a "incoming" (by decide)
  have e0 : h (.w k (.site i)) = some (v, .ins c.site []) := by rw [hf _ rfl, if_pos rfl]
  have hnn : ∀ y, siteOf y = some i → y ≠ .site i → h (.w k y) = none := fun y e z => by rw [hf y e, if_neg z]
  have f1 : h (.w k (.vars i)) = none := hnn _ rfl (by simp)
  have f2 : h (.w k (.inbox i)) = none := hnn _ rfl (by simp)
  have f3 : h (.w k (.marks i)) = none := hnn _ rfl (by simp)
  have f4 : h (.w k (.contents i)) = none := hnn _ rfl (by simp)
  have f5 : h (.w k (.parcels i)) = none := hnn _ rfl (by simp)
  have f6 : h (.w k (.questions i)) = none := hnn _ rfl (by simp)
  have f7 : h (.w k (.arrivals i)) = none := hnn _ rfl (by simp)
  have f8 : h (.w k (.holdings i)) = none := hnn _ rfl (by simp)
  have f9 : h (.w k (.entries i)) = none := hnn _ rfl (by simp)
  have f10 : h (.w k (.needed i 0)) = none := hnn _ rfl (by simp)
  have f11 : h (.w k (.outg i)) = none := hnn _ rfl (by simp)
  have f12 : h (.w k (.incg i)) = none := hnn _ rfl (by simp)
  unfold b_Site_init n_Site_init
  walk_at "go"
  refine ⟨by decide, alloc_any fun k0 hk0 v0 => ?_⟩
  walk_at "go"
  refine ⟨by decide, by decide, by decide, alloc_at (.w k (.vars i)) (by simp [LH.set_ap, f1]) fun v1 => ?_⟩
  walk_at "go"
  refine ⟨by decide, alloc_at (.w k (.inbox i)) (by simp [LH.set_ap, f2]) fun v2 => ?_⟩
  walk_at "go"
  refine .inl (alloc_at (.w k (.marks i)) (by simp [LH.set_ap, f3]) fun v3 => ?_)
  walk_at "go"
  refine .inl (alloc_at (.w k (.contents i)) (by simp [LH.set_ap, f4]) fun v4 => ?_)
  walk_at "go"
  refine .inl (alloc_at (.w k (.parcels i)) (by simp [LH.set_ap, f5]) fun v5 => ?_)
  walk_at "go"
  refine .inl (alloc_at (.w k (.questions i)) (by simp [LH.set_ap, f6]) fun v6 => ?_)
  walk_at "go"
  refine ⟨by decide, alloc_at (.w k (.arrivals i)) (by simp [LH.set_ap, f7]) fun v7 => ?_⟩
  walk_at "go"
  refine .inr (alloc_at (.w k (.holdings i)) (by simp [LH.set_ap, f8]) fun v8 => ?_)
  walk_at "go"
  refine .inr (alloc_at (.w k (.entries i)) (by simp [LH.set_ap, f9]) fun v9 => ?_)
  walk_at "go"
  refine .inl (alloc_at (.w k (.needed i 0)) (by simp [LH.set_ap, f10]) fun v10 => ?_)
  walk_at "go"
  refine .inl (alloc_at (.w k (.outg i)) (by simp [LH.set_ap, f11]) fun v11 => ?_)
  walk_at "go"
  refine .inl (alloc_at (.w k (.incg i)) (by simp [LH.set_ap, f12]) fun v12 => ?_)
  walk_at "go"
  refine ⟨by omega, by omega, ?_⟩
  have e7 : (List.replicate (Int.toNat 8) [LV.non]).flatten = (List.replicate 8 (none : Option Rf)).map orv := rfl
  simp only [LH.set_ap, reduceCtorEq, if_false] at hk0
  let tmp : LH := h.set (.a k0) v0 (.lst [.non])
  let P0 : (WN → Nat) → Nat → LH := fun vs t => tmp.putS k i (encS c k t i (blank vs))
  refine forK_rng (fun t s h' => ∃ vs : WN → Nat, vs (.site i) = v ∧ s = [some (.loc (.w k (.site i)) v), some (.int i), some (.int n), none] ∧ h' = P0 vs t) ?_ ?_ ?_
  · refine ⟨vsOf i v v1 v2 v3 v4 v5 v6 v7 v8 v9 v10 v11 v12, rfl, rfl, ?_⟩
    refine eq_putS (fun y hy => ?_) fun m hm => ?_
    · have hz := hnn y hy
      cases y <;> first | (cases hy; done) | skip
      all_goals (simp only [siteOf, Option.some.injEq] at hy; subst hy)
      all_goals (simp only [ne_eq, reduceCtorEq, not_false_eq_true, forall_const, not_true_eq_false, false_implies, WN.site.injEq] at hz)
      all_goals first
        | (simp only [LH.set_ap, Nm.w.injEq, reduceCtorEq, true_and, and_true, and_false, if_true, if_false, WN.site.injEq, encS, blank, vsOf, siteF, oiv, e7, List.map_nil, chs, List.range_zero, List.filter_nil, Int.natCast_zero, Int.cast_ofNat_Int]; done)
        | (simp [LH.set_ap, encS, blank, vsOf, siteF, chs, oiv, e7, hz]; done)
        | (simp [LH.set_ap, encS, blank, vsOf, siteF, chs, oiv, e7]; done)
        | (rename_i d; by_cases hd : d = 0 <;> simp [LH.set_ap, encS, blank, vsOf, siteF, chs, oiv, e7, hz, hd]; done)
    · have n0 := hm (.site i) rfl
      have n1 := hm (.vars i) rfl
      have n2 := hm (.inbox i) rfl
      have n3 := hm (.marks i) rfl
      have n4 := hm (.contents i) rfl
      have n5 := hm (.parcels i) rfl
      have n6 := hm (.questions i) rfl
      have n7 := hm (.arrivals i) rfl
      have n8 := hm (.holdings i) rfl
      have n9 := hm (.entries i) rfl
      have n10 := hm (.needed i 0) rfl
      have n11 := hm (.outg i) rfl
      have n12 := hm (.incg i) rfl
      simp only [LH.set_ap, n0, n1, n2, n3, n4, n5, n6, n7, n8, n9, n10, n11, n12, if_false, tmp]
  · rintro t s h' htn ⟨vs, hvs, rfl, rfl⟩
    have hs : IsSite c k t i (blank vs) (P0 vs t) := isS_put
    have e1 := hs.s
    have e2 : P0 vs t (.w k (.outg i)) = some (vs (.outg i), .dK ((chs t i).map fun (j : Nat) => ((.inl (j : Int) : Key), LV.loc (.w k (.out i j)) (vs (.out i j))))) := hs (.outg i) rfl
    have e3 : P0 vs t (.w k (.incg i)) = some (vs (.incg i), .dK ((chs t i).map fun (j : Nat) => ((.inl (j : Int) : Key), LV.loc (.w k (.inc i j)) (vs (.inc i j))))) := hs (.incg i) rfl
    have e4 : P0 vs t (.w k (.out i t)) = none := by rw [hs _ rfl]; simp [encS]
    have e5 : P0 vs t (.w k (.wait i t 0)) = none := by rw [hs _ rfl]; simp [encS]
    have e6 : P0 vs t (.w k (.inc i t)) = none := by rw [hs _ rfl]; simp [encS]
    have bv : (blank vs).v = vs := rfl
    rw [bv, hvs] at e1
    unfold b_Site_init_L1
    walk_at "go"
    simp only [Int.zero_add, Int.natCast_inj, Bool.not_eq_true', decide_eq_false_iff_not]
    refine iteI (fun ne => ?_) fun ne => ?_
    · refine alloc_at (.w k (.out i t)) e4 fun vo => ?_
      refine ⟨k, i, t, vo, rfl, LH.set_same, by simp [LH.set_ap, e5], fun wv => ?_⟩
      walk_at "go"
      have s1 : sizeLine = 16777216 := sizeLine_eq
      have s2 := chs_len (t := t) (i := i)
      refine ⟨by rw [List.length_map]; omega, ?_⟩
      refine alloc_at (.w k (.inc i t)) (by simp [LH.set_ap, e6]) fun vi => ?_
      refine ⟨_, vi, rfl, LH.set_same, ?_⟩
      walk_at "go"
      refine ⟨by rw [List.length_map]; omega, ?_⟩
      rw [put_chs, put_chs]
      refine ⟨_, _, ?_, LH.le_refl _, fun y => if y = .out i t then vo else if y = .wait i t 0 then wv else if y = .inc i t then vi else vs y, by simp [hvs], rfl, ?_⟩
      · refine ⟨rfl, fun a y e => ?_⟩
        match a, e with
        | 0, e => exact e
        | 1, e => exact e
        | 2, e => exact e
        | 3, e => simp at e
      · refine eq_putS (fun y hy => ?_) fun m hm => ?_
        · have hz := hs y hy
          cases y <;> first | (cases hy; done) | skip
          all_goals (simp only [siteOf, Option.some.injEq] at hy; subst hy)
          case outg =>
            simp only [LH.set_ap, Nm.w.injEq, reduceCtorEq, and_false, if_false, if_true, and_self, true_and, encS, blank, chs_succ, if_neg ne, List.map_append, List.map_cons, List.map_nil]
            congr 4
            · refine List.map_congr_left fun j hj => ?_
              have := chs_lt hj
              have : j ≠ t := by omega
              simp [this]
          case incg =>
            simp only [LH.set_ap, Nm.w.injEq, reduceCtorEq, and_false, if_false, if_true, and_self, true_and, encS, blank, chs_succ, if_neg ne, List.map_append, List.map_cons, List.map_nil]
            congr 4
            · refine List.map_congr_left fun j hj => ?_
              have := chs_lt hj
              have : j ≠ t := by omega
              simp [this]
          case out j =>
            by_cases hj : j = t
            · subst hj; simp [LH.set_ap, encS, blank, ne]
            · have e9 : (j < t + 1) = (j < t) := propext (by omega)
              simp [LH.set_ap, hj, hz, encS, blank, e9]
          case wait j a =>
            by_cases hj : j = t
            · subst hj
              by_cases ha : a = 0
              · subst ha; simp [LH.set_ap, encS, blank, ne]
              · simp [LH.set_ap, encS, blank, ne, ha, hz]
            · have e9 : (j < t + 1) = (j < t) := propext (by omega)
              simp [LH.set_ap, hj, hz, encS, blank, e9]
          case inc j =>
            by_cases hj : j = t
            · subst hj; simp [LH.set_ap, encS, blank, ne]
            · have e9 : (j < t + 1) = (j < t) := propext (by omega)
              simp [LH.set_ap, hj, hz, encS, blank, e9]
          all_goals first
            | (simp only [LH.set_ap, Nm.w.injEq, reduceCtorEq, and_false, if_false, hz, encS, blank, siteF]; done)
            | (simp [LH.set_ap, hz, encS, blank, siteF]; done)
        · have n0 := hm (.out i t) rfl
          have n1 := hm (.wait i t 0) rfl
          have n2 := hm (.inc i t) rfl
          have n3 := hm (.outg i) rfl
          have n4 := hm (.incg i) rfl
          simp only [LH.set_ap, n0, n1, n2, n3, n4, if_false]
          exact putS_off hm
    · have te : t = i := Classical.not_not.mp ne
      refine ⟨_, _, ?_, LH.le_refl _, vs, hvs, rfl, ?_⟩
      · refine ⟨rfl, fun a y e => ?_⟩
        match a, e with
        | 0, e => exact e
        | 1, e => exact e
        | 2, e => exact e
        | 3, e => simp at e
      · show tmp.putS k i _ = tmp.putS k i _
        congr 1
        funext y
        have c1 : chs (t + 1) i = chs t i := by rw [chs_succ, if_pos te]
        have c2 : ∀ j, (j < t + 1 ∧ j ≠ i) = (j < t ∧ j ≠ i) := fun j => propext (by omega)
        cases y <;> simp only [encS, c1, c2]
  · rintro s h' ⟨vs, hvs, rfl, rfl⟩
    walk_at "go"
    refine ⟨_, le_putS (fun y hy => putS_w hy) (fun m p hm hp => ?_), q vs hvs⟩
    have z : m ≠ .a k0 := fun z => by rw [z, hk0] at hp; cases hp
    show tmp.putS k i _ m = some p
    rw [putS_off fun y e2 e => hm y e e2]
    show (h.set (.a k0) v0 (.lst [.non])) m = some p
    rw [LH.set_ne z]
    exact hp
end K08
namespace K08
open PySem L2 LL
variable {G : Glob} {T : Tab} {c : Cl} {x : Ex}
def W0 (n : Nat) (vss : Nat → WN → Nat) (vt : WN → Nat) : Wd := { n := n, s := fun i => blank (vss i), v := vt }
def spWorldI (c : Cl) : LSp := fun xs h Q _ => ∃ k, ∃ n : Nat, ∃ v, xs = [.loc (.w k .world) v, .int n] ∧ 1 ≤ n ∧ n ≤ 100 ∧ (∀ y, h (.w k y) = if y = .world then some (v, .ins c.world []) else none) ∧
  ∀ vss vt, vt .world = v → Q .non (h.putW k (encW c k (W0 n vss vt)))
/-- so many sites are made -/
def encP (c : Cl) (k n v vs t : Nat) (vss : Nat → WN → Nat) (y : WN) : Option (Nat × LO) := match siteOf y with
  | some i => if i < t then encS c k n i (blank (vss i)) y else none
  | none => if y = .world then some (v, .ins c.world []) else if y = .sites then some (vs, .lst ((List.range t).map fun i => .loc (.w k (.site i)) (vss i (.site i)))) else none
theorem k_worldi (g1 : G.attr c.world "_sites" = true) (g2 : G.attr c.world "_network" = true) (g3 : G.attr c.world "_waves" = true) (cs : G.cls "Site" = some (c.site, spSiteI c)) (cn : G.cls "Network" = some (c.net, spNetI c)) (cw : G.cls "Waves" = some (c.waves, spWavI c)) :
    Keeps G T n_World_init 2 b_World_init (spWorldI c) := by
  rintro xs h Q X hn ⟨k, n, v, rfl, h1n, hn100, hf, q⟩
  have e0 : h (.w k .world) = some (v, .ins c.world []) := by rw [hf, if_pos rfl]
  have hnn : ∀ y, y ≠ .world → h (.w k y) = none := fun y z => by rw [hf y, if_neg z]
  unfold b_World_init n_World_init
  walk_at "go"
  refine ⟨by omega, by omega, alloc_at (.w k .sites) (hnn _ (by simp)) fun vs => ?_⟩
  have s1 : sizeLine = 16777216 := sizeLine_eq
  refine ⟨fun t m h' => m = n - t ∧ t ≤ n ∧ ∃ vss, h' = h.putW k (encP c k n v vs t vss), ⟨_, rfl, Nat.zero_le _, fun _ _ => 0, ?_⟩, ?_⟩
  · funext m
    cases m with
    | x p => rw [LH.set_ne (by simp), putW_x]
    | a p => rw [LH.set_ne (by simp), putW_a]
    | w j y =>
      by_cases ej : j = k
      · subst ej
        rw [putW_w]
        unfold encP
        by_cases e2 : y = .sites
        · subst e2; rw [LH.set_same]; rfl
        · rw [LH.set_ne (by simpa using e2), hf y]
          cases e3 : siteOf y with
          | none => simp only [e2, if_false]
          | some i =>
            simp only [Nat.not_lt_zero, if_false]
            rw [if_neg (fun z => by rw [z] at e3; cases e3)]
      · rw [LH.set_ne (fun z => by cases z; exact ej rfl), putW_o ej]
  · rintro t m h' ⟨rfl, ht, vss, rfl⟩
    by_cases hlt : t < n
    · refine .inr ⟨.int (t : Nat), by unfold rngIt; simp [hlt], fun h' => ∃ vss, h' = h.putW k (encP c k n v vs (t + 1) vss), fun h' ⟨vss, e⟩ => ⟨n - (t + 1), by omega, rfl, hlt, vss, e⟩, ?_⟩
      walk_at "go"
      have f1 : encP c k n v vs t vss (.site t) = none := if_neg (Nat.lt_irrefl t)
      refine alloc_at (.w k (.site t)) (by rw [putW_w]; exact f1) fun vt => ?_
      refine ⟨k, t, n, vt, rfl, hn100, fun y hy => ?_, fun vs' hvs' => ?_⟩
      · by_cases ey : y = .site t
        · subst ey; rw [if_pos rfl, LH.set_same]
        · rw [if_neg ey, LH.set_ne (by simpa using ey), putW_w, encP, hy]
          exact if_neg (Nat.lt_irrefl t)
      · refine ⟨rfl, (List.range t).map fun i => .loc (.w k (.site i)) (vss i (.site i)), ?_, by simp; omega, fun i => if i = t then vs' else vss i, ?_⟩
        · rw [putS_o2 (by simp [siteOf]), LH.set_ne (by simp), putW_w]
          rfl
        · funext m
          cases m with
          | x p => rw [LH.set_ne (by simp), putS_x, LH.set_ne (by simp), putW_x, putW_x]
          | a p => rw [LH.set_ne (by simp), putS_a, LH.set_ne (by simp), putW_a, putW_a]
          | w j y =>
            by_cases ej : j = k
            · subst ej
              rw [putW_w]
              by_cases e2 : y = .sites
              · subst e2
                rw [LH.set_same]
                show _ = some (vs, _)
                rw [List.range_succ, List.map_append]
                congr 4
                · refine List.map_congr_left fun i hi => ?_
                  have : i ≠ t := by have := List.mem_range.mp hi; omega
                  simp [this]
                · simp [hvs']
              · rw [LH.set_ne (by simpa using e2)]
                cases e3 : siteOf y with
                | none =>
                  rw [putS_o2 (by rw [e3]; simp), LH.set_ne (fun z => by cases z; cases e3), putW_w]
                  unfold encP
                  rw [e3]
                  simp only [e2, if_false]
                | some i =>
                  unfold encP
                  rw [e3]
                  by_cases ei : i = t
                  · subst ei
                    rw [putS_w e3]
                    show _ = if i < i + 1 then _ else _
                    rw [if_pos (Nat.lt_succ_self _)]
                    simp [blank]
                  · rw [putS_o2 (by rw [e3]; simpa using ei), LH.set_ne (fun z => by cases z; cases e3; exact ei rfl), putW_w, e3]
                    simp only [ei, if_false]
                    by_cases hlt2 : i < t
                    · rw [if_pos hlt2, if_pos (by omega)]
                    · rw [if_neg hlt2, if_neg (by omega)]
            · rw [LH.set_ne (fun z => by cases z; exact ej rfl), putS_o ej, LH.set_ne (fun z => by cases z; exact ej rfl), putW_o ej, putW_o ej]
    · have e : t = n := by omega
      subst e
      refine .inl ⟨by unfold rngIt; simp, ?_⟩
      have f1 : encP c k t v vs t vss .world = some (v, .ins c.world []) := rfl
      have f2 : encP c k t v vs t vss .net = none := rfl
      have f3 : encP c k t v vs t vss .packets = none := rfl
      walk_at "go"
      refine alloc_at (.w k .net) (by simp [LH.set_ap, putW_w, f2]) fun vn => ?_
      refine ⟨k, vn, rfl, LH.set_same, by simp [LH.set_ap, putW_w, f3], fun vp => ?_⟩
      walk_at "go"
      refine ⟨.of_le (by omega) (by omega) (by omega) (by omega), alloc_any fun kq hkq vq => ?_⟩
      have f4 : encP c k t v vs t vss .waves = none := rfl
      have f5 : encP c k t v vs t vss .others = none := rfl
      have f6 : encP c k t v vs t vss (.noted 0) = none := rfl
      refine alloc_at (.w k .waves) (by simp [LH.set_ap, putW_w, f4]) fun vw => ?_
      refine ⟨k, vw, .a kq, vq, rgL 1 t, rfl, LH.set_same, by simp [LH.set_ap], by simp [LH.set_ap, putW_w, f5], by simp [LH.set_ap, putW_w, f6], fun v1 v2 => ?_⟩
      walk_at "go"
      simp only [LH.set_ap, reduceCtorEq, if_false, putW_a] at hkq
      refine ⟨_, le_putW (fun y => ?_) (fun m p hm hp => ?_), q vss (fun y => match y with | .world => v | .sites => vs | .net => vn | .packets => vp | .waves => vw | .others => v1 | .noted _ => v2 | _ => 0) rfl⟩
      · cases hy : siteOf y with
        | some i =>
          have hne : ∀ z, siteOf z = none → y ≠ z := fun z e1 e2 => by rw [e2, e1] at hy; cases hy
          simp only [LH.set_ap, Nm.w.injEq, true_and, reduceCtorEq, if_false, hne .world rfl, hne .sites rfl, hne .net rfl, hne .packets rfl, hne .waves rfl, hne .others rfl, hne (.noted 0) rfl, putW_w]
          unfold encP encW
          rw [hy]
          rfl
        | none =>
          cases y <;> first | (cases hy; done) | skip
          all_goals first
            | (simp [LH.set_ap, putW_w, encP, encW, encT, siteOf, W0, blank]; done)
            | (rename_i d; by_cases hd : d = 0 <;> simp [LH.set_ap, putW_w, encP, encW, encT, siteOf, W0, hd]; done)
      · have z : m ≠ .a kq := fun z => by rw [z, hkq] at hp; cases hp
        simp only [LH.set_ap, hm, z, if_false]
        rw [putW_off hm]; exact hp
end K08
namespace K08
open PySem L2 LL
variable {G : Glob} {T : Tab} {c : Cl} {x : Ex}
theorem emodN {a n : Int} (hn : 0 < n) : ∃ j : Nat, a % n = (j : Int) ∧ (j : Int) < n := by
  have h1 := Int.emod_nonneg a (show n ≠ 0 by omega)
  have h2 := Int.emod_lt_of_pos a hn
  exact ⟨(a % n).toNat, by omega, by omega⟩
def spInt : LSp := fun xs h Q _ => ∃ i, xs = [.int i] ∧ Q (.bl true) h
theorem k_int : Keeps G T n_law_is_integer 1 b_law_is_integer spInt := by
  rintro xs h Q X hn ⟨i, rfl, q⟩
  unfold b_law_is_integer n_law_is_integer
  walk_at "go"
  exact fin q
def spNum : LSp := fun xs h Q _ => ∃ i k, xs = [.int i, .int k] ∧ (0 ≤ k ∧ k < 1000) ∧ ∀ j, Q (.int j) h
theorem k_num : Keeps G T n_law_number 2 b_law_number spNum := by
  rintro xs h Q X hn ⟨i, k, rfl, hk, q⟩
  unfold b_law_number n_law_number
  walk_at "go"
  have e1 := Int.emod_nonneg (i * 48271 + k * 69621 + 12345) (show (2147483647 : Int) ≠ 0 by decide)
  have e2 := Int.emod_lt_of_pos (i * 48271 + k * 69621 + 12345) (show (0 : Int) < 2147483647 by decide)
  refine ⟨⟨by decide, by decide, by decide⟩, ?_⟩
  split
  · exact ⟨⟨by decide, by decide, by decide⟩, fin (q _)⟩
  · exact ⟨.inr (by decide), .inr (by decide), by decide, ⟨by decide, by decide +kernel⟩, .inl ⟨by omega, by omega⟩, by decide, .inr (by decide), fin (q _)⟩
def spCell : LSp := fun xs h Q _ => ∃ ns : List Int, xs = [.rol ns, .int 0] ∧ ∀ j, Q (.int j) h
theorem k_cell : Keeps G T n_law_cell 2 b_law_cell spCell := by
  rintro xs h Q X hn ⟨ns, rfl, q⟩
  unfold b_law_cell n_law_cell
  walk_at "go"
  refine iteI (fun hd => ?_) fun hd => ?_
  · cases ns with
    | nil => simp at hd
    | cons a r =>
      walk_at "go"
      exact fin (q _)
  · exact fin (q _)
/-- what was made: width and mark -/
abbrev Md := Nat × Int
def mkv (m : Md) : LV := .tup [.int m.1, .int m.2]
/-- a site as the law's own lists say -/
structure SI (st : SiteS) (i : Nat) (M : List Md) : Prop where
  vl : st.vars.length = 8
  oc : st.ocount = M.length
  mks : st.marks = (List.range M.length).map fun j => (j, (M[j]?.getD (0, 0)).2)
  ob : st.objs = (List.range M.length).map fun j => (j, List.replicate (M[j]?.getD (0, 0)).1 none)
  vr : ∀ r, some r ∈ st.vars → r.1 = i ∧ r.2 < M.length
  ib : st.inbox = []
/-- versions of the law's own lists -/
structure Ver where
  (c m : Nat)
  (ci mi : Nat → Nat)
structure HL (c : Cl) (h : LH) (V : Ver) (W : Wd) (C : Nat → List (Option Rf)) (M : Nat → List Md) : Prop where
  w : IsW c 0 W h
  hc : h (.x [1]) = some (V.c, .lst ((List.range W.n).map fun i => .loc (.x [1, i]) (V.ci i)))
  hci : ∀ i, i < W.n → h (.x [1, i]) = some (V.ci i, .lst ((C i).map orv))
  hm : h (.x [2]) = some (V.m, .lst ((List.range W.n).map fun i => .loc (.x [2, i]) (V.mi i)))
  hmi : ∀ i, i < W.n → h (.x [2, i]) = some (V.mi i, .lst ((M i).map mkv))
theorem nb_orv : ∀ l : List (Option Rf), nbs 1 (l.map orv) = true
  | [] => rfl
  | none :: l => nb_orv l
  | some r :: l => nb_orv l
theorem range_at {n i : Nat} {f : Nat → LV} (h : i < n) : atI ((List.range n).map f) (i : Int) = some (f i) := atI_nat (by rw [List.getElem?_map, List.getElem?_range h]; rfl)
def spHolds (c : Cl) : LSp := fun xs h Q _ => ∃ V W C M, ∃ i : Nat, xs = [.loc (.w 0 .world) (W.v .world), .int i, .loc (.x [1]) V.c] ∧ HL c h V W C M ∧ i < W.n ∧ C i = (W.s i).vars ∧ Q (.bl true) h
theorem k_holds (mv : G.meth c.world "variables" = some (spVars c)) (tv : (T.meth "variables").isSome = true) : Keeps G T n_law_holds 3 b_law_holds (spHolds c) := by
  rintro xs h Q X hn ⟨V, W, C, M, i, rfl, I, hi, hC, q⟩
  have e := I.w.wo
  have e1 := I.hc
  have e2 := range_at (f := fun i => .loc (.x [1, i]) (V.ci i)) hi
  have e3 := I.hci i hi
  unfold b_law_holds n_law_holds
  walk_at "go"
  refine ⟨0, W, i, rfl, I.w, hi, alloc_any fun k hk v => ?_⟩
  walk_at "go"
  rw [lEq_ll (k := 1) LH.set_same (by rw [LH.set_ne (by simp)]; exact e3) (nb_orv _) (nb_orv _) (by decide), hC]
  simp only [decide_true]
  exact ⟨h, LH.le_set hk, q⟩
end K08
namespace K08
open PySem L2 LL
variable {G : Glob} {T : Tab} {c : Cl} {x : Ex}
theorem look_range {β : Type} {f : Nat → β} {n m : Nat} (h : m < n) : ((List.range n).map fun j => (j, f j)).lookup m = some (f m) := by
  induction n with
  | zero => omega
  | succ n ih =>
    rw [List.range_succ, List.map_append, List.map_cons, List.map_nil, lookup_snoc (by intro p hp; obtain ⟨j, hj, rfl⟩ := List.mem_map.mp hp; exact List.mem_range.mp hj)]
    by_cases e : m = n
    · subst e; rw [if_pos rfl]
    · rw [if_neg e, ih (by omega)]
def spLooks (c : Cl) : LSp := fun xs h Q _ => ∃ V W C M, ∃ i j : Nat, xs = [.loc (.w 0 .world) (W.v .world), .int i, .int j, .loc (.x [1]) V.c, .loc (.x [2]) V.m] ∧ HL c h V W C M ∧ i < W.n ∧ j < 8 ∧ C i = (W.s i).vars ∧ SI (W.s i) i (M i) ∧ Q (.bl true) h
theorem k_looks (ml : G.meth c.world "look" = some (spLook c x)) (tl : (T.meth "look").isSome = true) (fi : G.fn "_law_is_integer" = some spInt)
    (x1 : G.exs x.empty "Empty" = some true) (x2 : G.exs x.empty "FarheapError" = some true) (x3 : G.exs x.empty "Unknown" = some false) : Keeps G T n_law_looks 5 b_law_looks (spLooks c) := by
  rintro xs h Q X hn ⟨V, W, C, M, i, j, rfl, I, hi, hj, hC, S, q⟩
  have e := I.w.wo
  have e1 := I.hc
  have e2 := range_at (f := fun i => .loc (.x [1, i]) (V.ci i)) hi
  have e3 := I.hci i hi
  have f1 := I.hm
  have f2 := range_at (f := fun i => .loc (.x [2, i]) (V.mi i)) hi
  have f3 := I.hmi i hi
  have hjl : j < (W.s i).vars.length := by rw [S.vl]; exact hj
  obtain ⟨r, hr⟩ : ∃ r, (W.s i).vars[j]? = some r := ⟨_, List.getElem?_eq_getElem hjl⟩
  have e4 : atI ((W.s i).vars.map orv) (j : Int) = some (orv r) := atI_nat (by rw [List.getElem?_map, hr]; rfl)
  unfold b_law_looks n_law_looks
  walk_at "go"
  refine ⟨0, W, i, j, rfl, I.w, hi, hj, r, hr, ?_⟩
  cases r with
  | none =>
    have n1 : LV.isNon (orv none) = true := rfl
    simp only
    walk_at "go"
    intro a
    exact fin q
  | some r =>
    have n1 : LV.isNon (orv (some r)) = false := rfl
    obtain ⟨v1, v2⟩ := S.vr r (List.mem_of_getElem? hr)
    simp only
    rw [if_pos v1]
    refine ⟨((M i)[r.2]?.getD (0, 0)).2, by rw [S.mks, look_range v2], ?_⟩
    walk_at "go"
    have o1 : orv (some r) = .tup [.int r.1, .int r.2] := rfl
    have e5 : atI ((M i).map mkv) (r.2 : Int) = some (mkv ((M i)[r.2]?.getD (0, 0))) := atI_nat (by rw [List.getElem?_map, List.getElem?_eq_getElem v2]; rfl)
    refine ⟨_, rfl, ?_⟩
    rw [o1]
    have o2 : mkv ((M i)[r.2]?.getD (0, 0)) = .tup [.int (((M i)[r.2]?.getD (0, 0)).1 : Nat), .int ((M i)[r.2]?.getD (0, 0)).2] := rfl
    walk_at "go"
    exact fin q
def spMakes (c : Cl) : LSp := fun xs h Q _ => ∃ V W C M, ∃ i j : Nat, ∃ p : Int, xs = [.loc (.w 0 .world) (W.v .world), .int i, .int j, .int p, .loc (.x [2]) V.m] ∧ HL c h V W C M ∧ i < W.n ∧ j < 8 ∧ SI (W.s i) i (M i) ∧ (M i).length < 1000 ∧
  ∀ h' sz mk ver, sz ≤ 8 → HL c h' V (W.setS i (((W.s i).create i sz mk ver).setVar j (some (i, (W.s i).ocount)))) C (fun a => if a = i then M i ++ [(sz, mk)] else M a) → Q (.bl true) h'
theorem fill_0 : fillL [("size", 0), ("mark", 0)] [] [] = [.int 0, .int 0] := rfl
theorem fill_s {v : LV} : fillL [("size", 0), ("mark", 0)] ["size"] [v] = [v, .int 0] := by
  unfold fillL
  simp [List.lookup, ofS_beq]
theorem fill_m {v : LV} : fillL [("size", 0), ("mark", 0)] ["mark"] [v] = [.int 0, v] := by
  unfold fillL
  simp [List.lookup, ofS_beq]
theorem fill_sm {v w : LV} : fillL [("size", 0), ("mark", 0)] ["size", "mark"] [v, w] = [v, w] := by
  unfold fillL
  simp [List.lookup, ofS_beq]
theorem SI.ok {st : SiteS} {i : Nat} {M : List Md} (S : SI st i M) (h : M.length < 1000) : st.Ok := by
  refine ⟨S.vl, ⟨fun p hp => ?_, fun p hp => ?_⟩, by rw [S.oc]; omega, by rw [S.mks, S.oc]; simp, by rw [S.ob, S.oc]; simp⟩
  · rw [S.mks] at hp
    obtain ⟨j, hj, rfl⟩ := List.mem_map.mp hp
    rw [S.oc]; exact List.mem_range.mp hj
  · rw [S.ob] at hp
    obtain ⟨j, hj, rfl⟩ := List.mem_map.mp hp
    rw [S.oc]; exact List.mem_range.mp hj
end K08
namespace K08
open PySem L2 LL
variable {G : Glob} {T : Tab} {c : Cl} {x : Ex}
theorem k_makes {lv : Nat} {kss : List (List Str)} (mm : G.meth c.world "make" = some (spMake c)) (tm : T.kmeth "make" = some (lv, 2, ([(Str.ofString "size", 0), (Str.ofString "mark", 0)] : List (Str × Int)), kss)) (fi : G.fn "_law_is_integer" = some spInt) : Keeps G T n_law_makes 5 b_law_makes (spMakes c) := by
  rintro xs h Q X hn ⟨V, W, C, M, i, j, p, rfl, I, hi, hj, S, hM, q⟩
  have e := I.w.wo
  have f1 := I.hm
  have f2 := range_at (f := fun i => .loc (.x [2, i]) (V.mi i)) hi
  have f3 := I.hmi i hi
  have k0 := fill_0
  have k1 := @fill_s
  have k2 := @fill_m
  have k3 := @fill_sm
  unfold b_law_makes n_law_makes
  walk_at "go"
  walk_at "sd"
  obtain ⟨w, hw, hw9⟩ := emodN (a := p / 4) (n := 9) (by decide)
  rw [hw]
  have T1 : ∀ (vl mk cc : Int) (sz ver : Nat), (w : Int) * (cc % 2) = (sz : Int) → vl * (cc / 2) = mk → 0 ≤ cc → cc < 4 → sz ≤ 8 →
      wpSs G T b_law_makes_T1 { nx := fun x h => LL.Fin Q LV.non h, rt := LL.Fin Q, xc := fun c x h => X c h }
        [some (.loc (.w 0 .world) (W.v .world)), some (.int i), some (.int j), some (.int p), some (.loc (.x [2]) V.m), some (.int w), some (.int vl), some (.int cc), some (rv (i, (W.s i).ocount))]
        (h.putW 0 (encW c 0 (W.setS i (((W.s i).create i sz mk ver).setVar j (some (i, (W.s i).ocount)))))) := by
    intro vl mk cc sz ver h1 h2 h3 h4 h5
    have r0 : rv (i, (W.s i).ocount) = .tup [.int i, .int (W.s i).ocount] := rfl
    have o1 := S.oc
    rw [r0]
    unfold b_law_makes_T1
    walk_at "go"
    have s1 : sizeLine = 16777216 := sizeLine_eq
    refine ⟨by decide, ?_, ⟨by omega, by decide +kernel⟩, ?_, by omega, by rw [List.length_map]; omega, ?_⟩
    · rcases (show cc = 0 ∨ cc = 1 ∨ cc = 2 ∨ cc = 3 by omega) with rfl | rfl | rfl | rfl <;> exact .inr (by decide)
    · rcases (show cc = 0 ∨ cc = 1 ∨ cc = 2 ∨ cc = 3 by omega) with rfl | rfl | rfl | rfl <;> exact .inr (by decide)
    rw [if_neg (by decide)]
    refine ⟨_, rfl, ?_⟩
    walk_at "go"
    refine ⟨_, rfl, ?_⟩
    walk_at "go"
    refine ⟨by omega, ?_⟩
    rw [lEq_nb (k := 1) rfl rfl (by decide)]
    have e9 : ((List.map mkv (M i) ++ [LV.tup [LV.int sz, LV.int mk]]).length : Int) - 1 = ((M i).length : Int) := by simp
    simp only [e9, decide_true]
    refine fin (q _ sz mk ver h5 ⟨fun y => ?_, ?_, fun a ha => ?_, ?_, fun a ha => ?_⟩)
    · rw [LH.set_ne (by simp), putW_w, S.oc]
    · rw [LH.set_ne (by simp), putW_x]; exact I.hc
    · rw [LH.set_ne (by simp), putW_x]; exact I.hci a ha
    · rw [LH.set_ne (by simp), putW_x]; exact I.hm
    · by_cases ea : a = i
      · subst ea; rw [LH.set_same]; simp [mkv]
      · rw [LH.set_ne (by simpa using ea), putW_x]; simp only [ea, if_false]; exact I.hmi a ha
  have T2 : ∀ vl : Int, wpSs G T b_law_makes_T2 { nx := fun x h => LL.Fin Q LV.non h, rt := LL.Fin Q, xc := fun c x h => X c h }
      [some (.loc (.w 0 .world) (W.v .world)), some (.int i), some (.int j), some (.int p), some (.loc (.x [2]) V.m), some (.int w), some (.int vl), none, none] h := by
    intro vl
    obtain ⟨cc, hcc, hc4⟩ := emodN (a := p) (n := 4) (by decide)
    unfold b_law_makes_T2
    walk_at "go"
    have s1 : sizeLine = 16777216 := sizeLine_eq
    have ok := S.ok hM
    have T1' := T1
    refine ⟨by decide, ?_⟩
    refine iteI (fun h0 => ?_) fun h0 => ?_
    · refine ⟨0, W, i, j, 0, 0, rfl, I.w, hi, hj, by omega, ok, fun ver => ?_⟩
      exact T1 vl 0 cc 0 ver (by rw [h0]; simp) (by rw [h0]; simp) (by omega) hc4 (by omega)
    refine iteI (fun h1 => ?_) fun h1 => ?_
    · refine ⟨0, W, i, j, w, 0, rfl, I.w, hi, hj, by omega, ok, fun ver => ?_⟩
      exact T1 vl 0 cc w ver (by rw [h1]; simp) (by rw [h1]; simp) (by omega) hc4 (by omega)
    refine iteI (fun h2 => ?_) fun h2 => ?_
    · refine ⟨0, W, i, j, 0, vl, rfl, I.w, hi, hj, by omega, ok, fun ver => ?_⟩
      exact T1 vl vl cc 0 ver (by rw [h2]; simp) (by rw [h2]; simp) (by omega) hc4 (by omega)
    · have h3 : (cc : Int) = 3 := by omega
      refine ⟨0, W, i, j, w, vl, rfl, I.w, hi, hj, by omega, ok, fun ver => ?_⟩
      exact T1 vl vl cc w ver (by rw [h3]; simp) (by rw [h3]; simp) (by omega) hc4 (by omega)
  exact iteI (fun _ => T2 _) fun _ => T2 _
end K08
namespace K08
open PySem L2 LL
variable {G : Glob} {T : Tab} {c : Cl} {x : Ex}
theorem HL.tmp {h : LH} {V : Ver} {W : Wd} {C : Nat → List (Option Rf)} {M : Nat → List Md} (I : HL c h V W C M) (k v : Nat) (o : LO) : HL c (h.set (.a k) v o) V W C M :=
  ⟨fun y => by rw [LH.set_ne (by simp)]; exact I.w y, by rw [LH.set_ne (by simp)]; exact I.hc, fun i hi => by rw [LH.set_ne (by simp)]; exact I.hci i hi, by rw [LH.set_ne (by simp)]; exact I.hm, fun i hi => by rw [LH.set_ne (by simp)]; exact I.hmi i hi⟩
theorem le_tmp {h h0 : LH} (l : h0.le h) {k v : Nat} {o : LO} (e : h (.a k) = none) : h0.le (h.set (.a k) v o) := LH.le_trans l (LH.le_set e)
theorem nbs_ints : ∀ ns : List Int, nbs 1 (ns.map LV.int) = true
  | [] => rfl
  | n :: ns => nbs_ints ns
theorem rgL_ints (n : Nat) : rgL 0 n = ((List.range n).map fun (j : Nat) => (j : Int)).map LV.int := by
  unfold rgL
  rw [List.map_map, show ((n : Int) - 0).toNat = n by omega]
  refine List.map_congr_left fun j _ => ?_
  simp
theorem sort_rng (n : Nat) : sortI ((List.range n).map fun (j : Nat) => (j : Int)) = (List.range n).map fun (j : Nat) => (j : Int) := by
  refine (sortI_uniq (.refl _) ?_).symm
  rw [List.pairwise_map]
  exact List.pairwise_lt_range.imp fun h => by omega
theorem rep_flat (n : Nat) : (List.replicate n [LV.non]).flatten = (List.replicate n (none : Option Rf)).map orv := by
  rw [List.map_replicate]
  induction n with
  | zero => rfl
  | succ n ih => simp [List.replicate_succ, orv]
def spEnds (c : Cl) : LSp := fun xs h Q _ => ∃ V W C M, xs = [.loc (.w 0 .world) (W.v .world), .int (W.n : Nat), .loc (.x [1]) V.c, .loc (.x [2]) V.m] ∧ HL c h V W C M ∧ W.n ≤ 100 ∧ (∀ i, i < W.n → C i = (W.s i).vars ∧ SI (W.s i) i (M i) ∧ (M i).length < 1000 ∧ ∀ m ∈ M i, m.1 ≤ 8) ∧ Q (.bl true) h
def slE (V : Ver) (W : Wd) (a b d e : Option LV) : LSt := [some (.loc (.w 0 .world) (W.v .world)), some (.int (W.n : Nat)), some (.loc (.x [1]) V.c), some (.loc (.x [2]) V.m), a, b, d, e]
theorem k_ends (mh : G.fn "_law_holds" = some (spHolds c)) (mi : G.meth c.world "inbox" = some (spInbox c)) (ti : (T.meth "inbox").isSome = true) (mo : G.meth c.world "objects" = some (spObjects c)) (to : (T.meth "objects").isSome = true)
    (mf : G.meth c.world "fields" = some (spFields c x)) (tf : (T.meth "fields").isSome = true) (ml : G.fn "_law_looks" = some (spLooks c)) : Keeps G T n_law_ends_well 4 b_law_ends_well (spEnds c) := by
  rintro xs h Q X hn ⟨V, W, C, M, rfl, I, hn100, hS, q⟩
  unfold b_law_ends_well n_law_ends_well
  walk_at "go"
  refine ⟨by omega, by omega, ?_⟩
  refine forK_rng (fun t s h' => HL c h' V W C M ∧ h.le h' ∧ ∃ a b d e, s = slE V W a b d e) ⟨I, LH.le_refl h, _, _, _, _, rfl⟩ ?_ ?_
  · rintro t s h1 ht ⟨I1, l1, a, b, d, e, rfl⟩
    obtain ⟨hC, S, hM, h8⟩ := hS t ht
    unfold b_law_ends_well_L3 slE
    have e0 := I1.w.wo
    walk_at "go"
    simp only [Int.zero_add]
    refine ⟨V, W, C, M, t, rfl, I1, ht, hC, ?_⟩
    walk_at "go"
    refine ⟨0, W, t, rfl, I1.w, ht, alloc_any fun k1 hk1 v1 => ?_⟩
    refine ⟨by omega, alloc_any fun k2 hk2 v2 => ?_⟩
    have n12 : k2 ≠ k1 := fun z => by rw [z, LH.set_same] at hk2; cases hk2
    rw [lNe_ll (k := 1) (xs := []) (ys := []) (by rw [LH.set_ne (by simpa using fun z => n12 z.symm), LH.set_same, S.ib]; rfl) LH.set_same rfl rfl (by decide)]
    have I2 := (I1.tmp k1 v1 (.lst (List.map rv (W.s t).inbox))).tmp k2 v2 (.lst [])
    have l2 := le_tmp (v := v2) (o := .lst []) (le_tmp (v := v1) (o := .lst (List.map rv (W.s t).inbox)) l1 hk1) hk2
    generalize (h1.set (.a k1) v1 (.lst (List.map rv (W.s t).inbox))).set (.a k2) v2 (.lst []) = h2 at I2 l2
    have e1 := I2.w.wo
    have f1 := I2.hm
    have f2 := range_at (f := fun i => .loc (.x [2, i]) (V.mi i)) ht
    have f3 := I2.hmi t ht
    have d0 : (!decide (([] : List LV) = [])) = false := by simp
    rw [d0]
    walk_at "go"
    refine ⟨0, W, t, rfl, I2.w, ht, alloc_any fun k3 hk3 v3 => ?_⟩
    walk_at "go"
    simp only [List.length_map]
    refine ⟨.of_le (by omega) (by omega) (by omega) (by omega), alloc_any fun k4 hk4 v4 => ?_⟩
    have n34 : k4 ≠ k3 := fun z => by rw [z, LH.set_same] at hk4; cases hk4
    have eo : (W.s t).objs.map (fun p => (p.1 : Int)) = (List.range (M t).length).map fun (j : Nat) => (j : Int) := by rw [S.ob, List.map_map]; rfl
    rw [eo, sort_rng] at hk4 ⊢
    rw [rgL_ints]
    rw [lNe_ll (k := 1) (by rw [LH.set_ne (by simpa using fun z => n34 z.symm), LH.set_same]) LH.set_same (nbs_ints _) (nbs_ints _) (by decide)]
    have I3 := (I2.tmp k3 v3 (.lst (((List.range (M t).length).map fun (j : Nat) => (j : Int)).map LV.int))).tmp k4 v4 (.lst (((List.range (M t).length).map fun (j : Nat) => (j : Int)).map LV.int))
    have l3 := le_tmp (v := v4) (o := .lst (((List.range (M t).length).map fun (j : Nat) => (j : Int)).map LV.int)) (le_tmp (v := v3) (o := .lst (((List.range (M t).length).map fun (j : Nat) => (j : Int)).map LV.int)) l2 hk3) hk4
    generalize (h2.set (.a k3) v3 (.lst (((List.range (M t).length).map fun (j : Nat) => (j : Int)).map LV.int))).set (.a k4) v4 (.lst (((List.range (M t).length).map fun (j : Nat) => (j : Int)).map LV.int)) = h3 at I3 l3
    have e2 := I3.w.wo
    have f4 := I3.hm
    have f6 := I3.hmi t ht
    simp only [decide_true, Bool.not_true]
    walk_at "go"
    simp only [List.length_map]
    refine ⟨by omega, by omega, ?_⟩
    refine forK_rng (fun u s h' => HL c h' V W C M ∧ h.le h' ∧ ∃ b d e, s = slE V W (some (.int (t : Nat))) b d e) ⟨I3, l3, _, _, _, rfl⟩ ?_ ?_
    · rintro u s h5 hu ⟨I5, l5, b, d, e, rfl⟩
      replace hu : u < (M t).length := by simpa using hu
      unfold b_law_ends_well_L1 slE
      have e3 := I5.w.wo
      have f7 := I5.hm
      have f8 := I5.hmi t ht
      have f9 : atI ((M t).map mkv) (u : Int) = some (.tup [.int (((M t)[u]?.getD (0, 0)).1 : Nat), .int ((M t)[u]?.getD (0, 0)).2]) := atI_nat (by rw [List.getElem?_map, List.getElem?_eq_getElem hu]; rfl)
      have w8 : ((M t)[u]?.getD (0, 0)).1 ≤ 8 := by rw [List.getElem?_eq_getElem hu]; exact h8 _ (List.getElem_mem hu)
      walk_at "go"
      simp only [Int.zero_add]
      refine ⟨0, W, t, u, rfl, I5.w, ht, ?_⟩
      rw [S.ob, look_range hu]
      refine alloc_any fun k5 hk5 v5 => ?_
      walk_at "go"
      refine ⟨by decide, alloc_any fun k6 hk6 v6 => ?_⟩
      walk_at "go"
      refine ⟨by omega, by omega, ?_, alloc_any fun k7 hk7 v7 => ?_⟩
      · have s1 : sizeLine = 16777216 := sizeLine_eq
        simp; omega
      have n56 : k5 ≠ k6 := fun z => by rw [← z, LH.set_same] at hk6; cases hk6
      have n57 : k5 ≠ k7 := fun z => by rw [← z, LH.set_ne (by simpa using n56), LH.set_same] at hk7; cases hk7
      try simp only [Int.toNat_natCast] at hk7 ⊢
      rw [rep_flat]
      rw [lNe_ll (k := 1) (by rw [LH.set_ne (by simpa using n57), LH.set_ne (by simpa using n56), LH.set_same]) LH.set_same (nb_orv _) (nb_orv _) (by decide)]
      simp only [decide_true, Bool.not_true]
      walk_at "go"
      exact fgt ⟨((I5.tmp _ _ _).tmp _ _ _).tmp _ _ _, le_tmp (le_tmp (le_tmp l5 hk5) hk6) hk7, _, _, _, rfl⟩
    · rintro s h5 ⟨I5, l5, b, d, e, rfl⟩
      unfold slE
      walk_at "go"
      refine ⟨by decide, by decide, ?_⟩
      refine forK_rng (fun u s h' => HL c h' V W C M ∧ h.le h' ∧ ∃ b d e, s = slE V W (some (.int (t : Nat))) b d e) ⟨I5, l5, _, _, _, rfl⟩ ?_ ?_
      · rintro u s h6 hu ⟨I6, l6, b, d, e, rfl⟩
        unfold b_law_ends_well_L2 slE
        walk_at "go"
        simp only [Int.zero_add]
        refine ⟨V, W, C, M, t, u, rfl, I6, ht, by simpa using hu, hC, S, ?_⟩
        walk_at "go"
        exact fgt ⟨I6, l6, _, _, _, rfl⟩
      · rintro s h6 ⟨I6, l6, b, d, e, rfl⟩
        unfold slE
        walk_at "go"
        exact fgt ⟨I6, l6, _, _, _, _, rfl⟩
  · rintro s h1 ⟨I1, l1, a, b, d, e, rfl⟩
    walk_at "go"
    exact ⟨h, l1, q⟩
end K08
namespace K08
open PySem L2 LL
variable {G : Glob} {T : Tab} {c : Cl} {x : Ex}
def spLaw : LSp := fun xs h Q _ => ∃ ns : List Int, xs = [.rol ns] ∧ ns.length ≤ 63 ∧ (∀ m, h m = none) ∧ ∀ h, Q (.bl true) h
def slW (ns : List Int) (V : Ver) (W : Wd) (a b d e f g k : Option LV) : LSt := [some (.rol ns), some (.int (W.n : Nat)), some (.loc (.w 0 .world) (W.v .world)), some (.loc (.x [1]) V.c), some (.loc (.x [2]) V.m), a, b, d, e, f, g, k]
/-- what holds behind so many turns -/
structure LI (c : Cl) (h : LH) (V : Ver) (W : Wd) (M : Nat → List Md) (t : Nat) : Prop where
  l : HL c h V W (fun i => (W.s i).vars) M
  n1 : 1 ≤ W.n
  n8 : W.n ≤ 8
  s : ∀ i, i < W.n → SI (W.s i) i (M i) ∧ (M i).length ≤ t ∧ ∀ m ∈ M i, m.1 ≤ 8
structure S1 (c : Cl) (h : LH) (W : Wd) (v1 t : Nat) (ci : Nat → Nat) : Prop where
  w : IsW c 0 W h
  l : h (.x [1]) = some (v1, .lst ((List.range t).map fun i => .loc (.x [1, i]) (ci i)))
  i : ∀ i, i < t → h (.x [1, i]) = some (ci i, .lst ((List.replicate 8 (none : Option Rf)).map orv))
  n : ∀ i, t ≤ i → h (.x [1, i]) = none
  m : h (.x [2]) = none
  mi : ∀ i, h (.x [2, i]) = none
structure S2 (c : Cl) (h : LH) (W : Wd) (v1 : Nat) (ci : Nat → Nat) (v2 t : Nat) (mi : Nat → Nat) : Prop where
  w : IsW c 0 W h
  l : h (.x [1]) = some (v1, .lst ((List.range W.n).map fun i => .loc (.x [1, i]) (ci i)))
  i : ∀ i, i < W.n → h (.x [1, i]) = some (ci i, .lst ((List.replicate 8 (none : Option Rf)).map orv))
  m : h (.x [2]) = some (v2, .lst ((List.range t).map fun i => .loc (.x [2, i]) (mi i)))
  mi : ∀ i, i < t → h (.x [2, i]) = some (mi i, .lst [])
  n : ∀ i, t ≤ i → h (.x [2, i]) = none
theorem range_snoc {t : Nat} {f : Nat → LV} {g : Nat → LV} {y : LV} (h : ∀ i, i < t → f i = g i) (e : g t = y) : (List.range t).map f ++ [y] = (List.range (t + 1)).map g := by
  rw [List.range_succ, List.map_append, List.map_cons, List.map_nil, e]
  congr 1
  exact List.map_congr_left fun i hi => h i (List.mem_range.mp hi)
theorem law_T1 {D : LEnds} {ns : List Int} {h : LH} {V : Ver} {W : Wd} {M : Nat → List Md} {t i : Nat} {a b d e f g : Option LV} (fh : G.fn "_law_holds" = some (spHolds c)) (L : LI c h V W M t) (hi : i < W.n)
    (q : D.nx (slW ns V W a b (some (.int i)) d e f (some (.bl true))) h) : wpSs G T b_law_T1 D (slW ns V W a b (some (.int i)) d e f (some (.bl true))) h := by
  have n1 := L.n1
  obtain ⟨u, hu, hu2⟩ := emodN (a := (i : Int) + 1) (n := W.n) (by omega)
  unfold b_law_T1 slW
  walk_at "go"
  refine ⟨V, W, fun i => (W.s i).vars, M, i, rfl, L.l, hi, rfl, ?_⟩
  walk_at "go"
  refine ⟨by omega, V, W, fun i => (W.s i).vars, M, u, rfl, L.l, by omega, rfl, ?_⟩
  unfold slW at q
  walk_at "go"
theorem SI.setVar {st : SiteS} {i j : Nat} {M : List Md} {r : Option Rf} (S : SI st i M) (hr : ∀ y, r = some y → y.1 = i ∧ y.2 < M.length) : SI (st.setVar j r) i M := by
  refine ⟨by show (st.vars.set j r).length = 8; rw [List.length_set]; exact S.vl, S.oc, S.mks, S.ob, fun y hy => ?_, S.ib⟩
  rcases List.mem_or_eq_of_mem_set (show some y ∈ st.vars.set j r from hy) with h | h
  · exact S.vr y h
  · exact hr y h.symm
theorem SI.create {st : SiteS} {i sz ver : Nat} {mk : Int} {M : List Md} (S : SI st i M) : SI (st.create i sz mk ver) i (M ++ [(sz, mk)]) := by
  have g : ∀ j, j < M.length → (M ++ [(sz, mk)])[j]? = M[j]? := fun j hj => List.getElem?_append_left hj
  have g2 : (M ++ [(sz, mk)])[M.length]? = some (sz, mk) := by rw [List.getElem?_append_right (Nat.le_refl _)]; simp
  refine ⟨S.vl, ?_, ?_, ?_, fun y hy => ?_, S.ib⟩
  · show st.ocount + 1 = _
    rw [S.oc]; simp
  · show st.marks ++ [(st.ocount, mk)] = _
    rw [S.mks, S.oc, List.length_append, List.length_singleton, List.range_succ, List.map_append, List.map_cons, List.map_nil, g2]
    congr 1
    exact List.map_congr_left fun j hj => by rw [g j (List.mem_range.mp hj)]
  · show st.objs ++ [(st.ocount, _)] = _
    rw [S.ob, S.oc, List.length_append, List.length_singleton, List.range_succ, List.map_append, List.map_cons, List.map_nil, g2]
    congr 1
    exact List.map_congr_left fun j hj => by rw [g j (List.mem_range.mp hj)]
  · obtain ⟨h1, h2⟩ := S.vr y hy
    exact ⟨h1, by simp; omega⟩
theorem LI.next {h h' : LH} {V V' : Ver} {W : Wd} {M : Nat → List Md} {t i : Nat} {st : SiteS} {Mi : List Md} (L : LI c h V W M t) (hi : i < W.n) (S : SI st i Mi) (h1 : Mi.length ≤ t + 1) (h2 : ∀ m ∈ Mi, m.1 ≤ 8)
    (H : HL c h' V' (W.setS i st) (fun a => if a = i then st.vars else (W.s a).vars) (fun a => if a = i then Mi else M a)) : LI c h' V' (W.setS i st) (fun a => if a = i then Mi else M a) (t + 1) := by
  refine ⟨⟨H.w, H.hc, fun a ha => ?_, H.hm, H.hmi⟩, L.n1, L.n8, fun a ha => ?_⟩
  · have e := H.hci a ha
    rw [e]
    by_cases ea : a = i
    · subst ea; simp [Wd.setS]
    · simp [Wd.setS, ea]
  · by_cases ea : a = i
    · subst ea; simp only [if_pos]; refine ⟨?_, h1, h2⟩; simpa [Wd.setS] using S
    · obtain ⟨S0, l0, m0⟩ := L.s a ha
      simp only [ea, if_false]; refine ⟨?_, by omega, m0⟩; simpa [Wd.setS, ea] using S0
theorem HL.setC {h : LH} {V : Ver} {W : Wd} {C : Nat → List (Option Rf)} {M : Nat → List Md} {i : Nat} {cs : List (Option Rf)} (I : HL c h V W C M) : HL c (h.set (.x [1, i]) (V.ci i) (.lst (cs.map orv))) V W (fun a => if a = i then cs else C a) M := by
  refine ⟨fun y => by rw [LH.set_ne (by simp)]; exact I.w y, by rw [LH.set_ne (by simp)]; exact I.hc, fun a ha => ?_, by rw [LH.set_ne (by simp)]; exact I.hm, fun a ha => by rw [LH.set_ne (by simp)]; exact I.hmi a ha⟩
  by_cases ea : a = i
  · subst ea; rw [LH.set_same]; simp
  · rw [LH.set_ne (by simpa using ea)]; simp only [ea, if_false]; exact I.hci a ha
theorem HL.put {h : LH} {V : Ver} {W W2 : Wd} {C : Nat → List (Option Rf)} {M : Nat → List Md} (I : HL c h V W C M) (hn : W2.n = W.n) : HL c (h.putW 0 (encW c 0 W2)) V W2 C M := by
  refine ⟨fun y => by rw [putW_w], by rw [putW_x, hn]; exact I.hc, fun a ha => by rw [putW_x]; exact I.hci a (hn ▸ ha), by rw [putW_x, hn]; exact I.hm, fun a ha => by rw [putW_x]; exact I.hmi a (hn ▸ ha)⟩
theorem k_law (cw : G.cls "World" = some (c.world, spWorldI c)) (fc : G.fn "_law_cell" = some spCell) (fn : G.fn "_law_number" = some spNum) (fm : G.fn "_law_makes" = some (spMakes c)) (fl : G.fn "_law_looks" = some (spLooks c)) (fh : G.fn "_law_holds" = some (spHolds c)) (fe : G.fn "_law_ends_well" = some (spEnds c))
    (ma : G.meth c.world "assign" = some (spAssign c)) (ta : (T.meth "assign").isSome = true) (mr : G.meth c.world "reset" = some (spReset c)) (tr : (T.meth "reset").isSome = true) : Keeps G T n_law 1 b_law spLaw := by
  rintro xs h Q X hn ⟨ns, rfl, hl, hh, q⟩
  unfold b_law n_law
  walk_at "go"
  refine ⟨ns, rfl, fun cell => ?_⟩
  walk_at "go"
  obtain ⟨m, hm, hm8⟩ := emodN (a := cell) (n := 8) (by decide)
  rw [hm, show (1 : Int) + (m : Int) = ((1 + m : Nat) : Int) by omega]
  refine ⟨by decide, ?_⟩
  refine alloc_at (.w 0 .world) (hh _) fun v => ?_
  refine ⟨0, 1 + m, v, rfl, by omega, by omega, fun y => ?_, fun vss vt hvt => ?_⟩
  · by_cases ey : y = .world
    · subst ey; rw [LH.set_same, if_pos rfl]
    · rw [LH.set_ne (by simpa using ey), if_neg ey]; exact hh _
  generalize hW : W0 (1 + m) vss vt = W
  have hWn : W.n = 1 + m := by rw [← hW]; rfl
  have hWv : W.v .world = v := by rw [← hW]; exact hvt
  have s1 : sizeLine = 16777216 := sizeLine_eq
  refine ⟨rfl, by omega, by omega, alloc_at (.x [1]) (by rw [putW_x, LH.set_ne (by simp)]; exact hh _) fun v1 => ?_⟩
  refine ⟨fun t k h' => k = 1 + m - t ∧ t ≤ 1 + m ∧ ∃ ci, S1 c h' W v1 t ci, ⟨_, rfl, Nat.zero_le _, fun _ => 0, fun y => by rw [LH.set_ne (by simp), putW_w], by rw [LH.set_same]; rfl, fun i z => by omega, fun i _ => by rw [LH.set_ne (by simp), putW_x, LH.set_ne (by simp)]; exact hh _, by rw [LH.set_ne (by simp), putW_x, LH.set_ne (by simp)]; exact hh _, fun i => by rw [LH.set_ne (by simp), putW_x, LH.set_ne (by simp)]; exact hh _⟩, ?_⟩
  rintro t k h1 ⟨rfl, ht, ci, I1⟩
  by_cases hlt : t < 1 + m
  · refine .inr ⟨.int (t : Nat), by unfold rngIt; simp; omega, fun h' => ∃ ci, S1 c h' W v1 (t + 1) ci, fun h' ⟨ci, e⟩ => ⟨1 + m - (t + 1), by omega, rfl, hlt, ci, e⟩, ?_⟩
    walk_at "go"
    refine ⟨by decide, alloc_any fun k1 hk1 vk1 => ?_⟩
    walk_at "go"
    refine ⟨by decide, by decide, by decide, alloc_at (.x [1, t]) (by rw [LH.set_ne (by simp)]; exact I1.n t (Nat.le_refl _)) fun vt1 => ?_⟩
    refine ⟨_, by rw [LH.set_ne (by simp), LH.set_ne (by simp)]; exact I1.l, by simp; omega, fun i => if i = t then vt1 else ci i, ?_⟩
    refine ⟨fun y => by rw [LH.set_ne (by simp), LH.set_ne (by simp), LH.set_ne (by simp)]; exact I1.w y, ?_, fun i hi => ?_, fun i hi => ?_, by rw [LH.set_ne (by simp), LH.set_ne (by simp), LH.set_ne (by simp)]; exact I1.m, fun i => by rw [LH.set_ne (by simp), LH.set_ne (by simp), LH.set_ne (by simp)]; exact I1.mi i⟩
    · rw [LH.set_same, range_snoc (g := fun i => .loc (.x [1, i]) (if i = t then vt1 else ci i)) (fun i hi => by simp [show i ≠ t by omega]) (by simp)]
    · rw [LH.set_ne (by simp)]
      by_cases ei : i = t
      · subst ei; rw [LH.set_same]; simp; rfl
      · rw [LH.set_ne (by simpa using ei), LH.set_ne (by simp), I1.i i (by omega)]; simp [ei]
    · rw [LH.set_ne (by simp), LH.set_ne (by simp; omega), LH.set_ne (by simp)]; exact I1.n i (by omega)
  have e : t = 1 + m := by omega
  subst e
  refine .inl ⟨by unfold rngIt; simp, ?_⟩
  refine ⟨by omega, by omega, alloc_at (.x [2]) I1.m fun v2 => ?_⟩
  rw [← hWn] at I1 ⊢
  refine ⟨fun t k h' => k = W.n - t ∧ t ≤ W.n ∧ ∃ mi, S2 c h' W v1 ci v2 t mi, ⟨_, rfl, Nat.zero_le _, fun _ => 0, fun y => by rw [LH.set_ne (by simp)]; exact I1.w y, by rw [LH.set_ne (by simp)]; exact I1.l, fun i hi => by rw [LH.set_ne (by simp)]; exact I1.i i hi, by rw [LH.set_same]; rfl, fun i z => by omega, fun i _ => by rw [LH.set_ne (by simp)]; exact I1.mi i⟩, ?_⟩
  rintro t k h2 ⟨rfl, ht2, mi, I2⟩
  by_cases hlt2 : t < W.n
  · refine .inr ⟨.int (t : Nat), by unfold rngIt; simp; omega, fun h' => ∃ mi, S2 c h' W v1 ci v2 (t + 1) mi, fun h' ⟨mi, e⟩ => ⟨W.n - (t + 1), by omega, rfl, hlt2, mi, e⟩, ?_⟩
    walk_at "go"
    refine ⟨by decide, alloc_at (.x [2, t]) (I2.n t (Nat.le_refl _)) fun vt1 => ?_⟩
    refine ⟨_, by rw [LH.set_ne (by simp)]; exact I2.m, by simp; omega, fun i => if i = t then vt1 else mi i, ?_⟩
    refine ⟨fun y => by rw [LH.set_ne (by simp), LH.set_ne (by simp)]; exact I2.w y, by rw [LH.set_ne (by simp), LH.set_ne (by simp)]; exact I2.l, fun i hi => by rw [LH.set_ne (by simp), LH.set_ne (by simp)]; exact I2.i i hi, ?_, fun i hi => ?_, fun i hi => ?_⟩
    · rw [LH.set_same, range_snoc (g := fun i => .loc (.x [2, i]) (if i = t then vt1 else mi i)) (fun i hi => by simp [show i ≠ t by omega]) (by simp)]
    · rw [LH.set_ne (by simp)]
      by_cases ei : i = t
      · subst ei; rw [LH.set_same]; simp
      · rw [LH.set_ne (by simpa using ei), I2.mi i (by omega)]; simp [ei]
    · rw [LH.set_ne (by simp), LH.set_ne (by simp; omega)]; exact I2.n i (by omega)
  have e : t = W.n := by omega
  subst e
  refine .inl ⟨by unfold rngIt; simp, ?_⟩
  refine ⟨by omega, by omega, by omega, by omega, ?_⟩
  have L0 : LI c h2 ⟨v1, v2, ci, mi⟩ W (fun _ => []) 0 := by
    have bl : ∀ i, W.s i = blank (vss i) := fun i => by rw [← hW]; rfl
    refine ⟨⟨I2.w, I2.l, fun i hi => ?_, I2.m, I2.mi⟩, by omega, by omega, fun i hi => ⟨⟨?_, ?_, ?_, ?_, ?_, ?_⟩, Nat.le_refl _, fun m hm => by cases hm⟩⟩
    · rw [bl]; exact I2.i i hi
    all_goals rw [bl]
    · rfl
    · rfl
    · rfl
    · rfl
    · intro r hr
      have : some r ∈ List.replicate 8 (none : Option Rf) := hr
      simp at this
    · rfl
  refine forK_rng (fun t s h' => ∃ V W M, LI c h' V W M t ∧ ∃ a b d e f g k, s = slW ns V W a b d e f g k) ⟨_, W, _, L0, _, _, _, _, _, _, _, by rw [← hWv]; rfl⟩ ?_ ?_
  · rintro t s h3 ht ⟨V, W', M, L, a, b, d, e, f, g, k, rfl⟩
    unfold b_law_L2 slW
    walk_at "go"
    have e0 : atI ns (1 + (t : Int)) = some ns[1 + t] := by rw [show (1 : Int) + (t : Int) = ((1 + t : Nat) : Int) by omega]; exact atI_nat (List.getElem?_eq_getElem (by omega))
    walk_at "go"
    refine ⟨_, _, rfl, ⟨by omega, by omega⟩, fun p => ?_⟩
    have n1 := L.n1
    have e1 := L.l.w.wo
    have f1 := L.l.hc
    walk_at "go"
    walk_at "sd"
    obtain ⟨i, hi, hi2⟩ := emodN (a := p) (n := W'.n) (by omega)
    obtain ⟨j, hj, hj8⟩ := emodN (a := p / 64) (n := 8) (by decide)
    obtain ⟨l, hl1, hl8⟩ := emodN (a := p / 512) (n := 8) (by decide)
    simp only [hi, hj, hl1]
    obtain ⟨S, l1, l2⟩ := L.s i (by omega)
    have hib : i < W'.n := by omega
    have hjb : j < 8 := by omega
    have hlb : l < 8 := by omega
    refine iteI (fun _ => ?_) fun _ => iteI (fun _ => ?_) fun _ => iteI (fun _ => ?_) fun _ => ?_
    · walk_at "sd"
      refine ⟨V, W', fun i => (W'.s i).vars, M, i, j, p / 4096, rfl, L.l, hib, hjb, S, by omega, fun h4 sz mk ver hsz H => ?_⟩
      have g1 : h4 (.x [2]) = some (V.m, .lst ((List.range W'.n).map fun i => .loc (.x [2, i]) (V.mi i))) := H.hm
      have g2 := range_at (f := fun i => .loc (.x [2, i]) (V.mi i)) hib
      have g3 := H.hmi i hib
      rw [if_pos rfl] at g3
      have g4 : h4 (.x [1]) = some (V.c, .lst ((List.range W'.n).map fun i => .loc (.x [1, i]) (V.ci i))) := H.hc
      have g5 := range_at (f := fun i => .loc (.x [1, i]) (V.ci i)) hib
      have g6 := H.hci i hib
      have jl : j < (List.map orv (W'.s i).vars).length := by rw [List.length_map, S.vl]; exact hjb
      have g7 := ixN_nat jl
      walk_at "go"
      have ez : ((List.map mkv (M i ++ [(sz, mk)])).length : Int) - 1 = ((W'.s i).ocount : Nat) := by rw [S.oc]; simp
      rw [ez, show (LV.tup [LV.int i, LV.int (W'.s i).ocount]) = orv (some (i, (W'.s i).ocount)) from rfl, ← List.map_set]
      refine ⟨by decide, ?_⟩
      have L2 := L.next (st := ((W'.s i).create i sz mk ver).setVar j (some (i, (W'.s i).ocount))) (Mi := M i ++ [(sz, mk)]) hib (S.create.setVar fun y hy => by cases hy; exact ⟨rfl, by rw [S.oc]; simp⟩) (by simp; omega) (fun m hm => by
        rcases List.mem_append.mp hm with h | h
        · exact l2 m h
        · rw [List.mem_singleton.mp h]; exact hsz) H.setC
      refine law_T1 (W := W'.setS i (((W'.s i).create i sz mk ver).setVar j (some (i, (W'.s i).ocount)))) (ns := ns) (g := none) fh L2 hib (fgt ⟨_, _, _, L2, _, _, _, _, _, _, _, rfl⟩)
    · obtain ⟨r, hr⟩ : ∃ r, (W'.s i).vars[j]? = some r := ⟨_, List.getElem?_eq_getElem (by rw [S.vl]; exact hjb)⟩
      refine ⟨0, W', i, j, l, rfl, L.l.w, hib, hjb, hlb, S.vl, r, hr, ?_⟩
      have H := L.l.put (W2 := W'.setS i ((W'.s i).setVar l r)) rfl
      generalize h3.putW 0 (encW c 0 (W'.setS i ((W'.s i).setVar l r))) = h4 at H ⊢
      have g1 : h4 (.x [1]) = some (V.c, .lst ((List.range W'.n).map fun i => .loc (.x [1, i]) (V.ci i))) := H.hc
      have g2 := range_at (f := fun i => .loc (.x [1, i]) (V.ci i)) hib
      have g3 := H.hci i hib
      have g4 : atI ((W'.s i).vars.map orv) (j : Int) = some (orv r) := atI_nat (by rw [List.getElem?_map, hr]; rfl)
      have ll : l < (List.map orv (W'.s i).vars).length := by rw [List.length_map, S.vl]; exact hlb
      have g7 := ixN_nat ll
      walk_at "go"
      rw [← List.map_set]
      have eM : M = fun a => if a = i then M i else M a := by funext a; by_cases ea : a = i <;> simp [ea]
      have H2 := H.setC (i := i) (cs := (W'.s i).vars.set l r)
      rw [eM] at H2
      have L2 := L.next (st := (W'.s i).setVar l r) (Mi := M i) hib (S.setVar fun y hy => by
        subst hy; exact S.vr y (List.mem_of_getElem? hr)) (by omega) l2 H2
      refine law_T1 (W := W'.setS i ((W'.s i).setVar l r)) (ns := ns) (g := none) fh L2 hib (fgt ⟨_, _, _, L2, _, _, _, _, _, _, _, rfl⟩)
    · refine ⟨0, W', i, j, rfl, L.l.w, hib, hjb, S.vl, ?_⟩
      have H := L.l.put (W2 := W'.setS i ((W'.s i).setVar j none)) rfl
      generalize h3.putW 0 (encW c 0 (W'.setS i ((W'.s i).setVar j none))) = h4 at H ⊢
      have g1 : h4 (.x [1]) = some (V.c, .lst ((List.range W'.n).map fun i => .loc (.x [1, i]) (V.ci i))) := H.hc
      have g2 := range_at (f := fun i => .loc (.x [1, i]) (V.ci i)) hib
      have g3 := H.hci i hib
      have ll : j < (List.map orv (W'.s i).vars).length := by rw [List.length_map, S.vl]; exact hjb
      have g7 := ixN_nat ll
      walk_at "go"
      have e0 : (List.map orv (W'.s i).vars).set j LV.non = List.map orv ((W'.s i).vars.set j none) := by rw [List.map_set]; rfl
      rw [e0]
      have eM : M = fun a => if a = i then M i else M a := by funext a; by_cases ea : a = i <;> simp [ea]
      have H2 := H.setC (i := i) (cs := (W'.s i).vars.set j none)
      rw [eM] at H2
      have L2 := L.next (st := (W'.s i).setVar j none) (Mi := M i) hib (S.setVar fun y hy => by cases hy) (by omega) l2 H2
      refine law_T1 (W := W'.setS i ((W'.s i).setVar j none)) (ns := ns) (g := none) fh L2 hib (fgt ⟨_, _, _, L2, _, _, _, _, _, _, _, rfl⟩)
    · refine ⟨V, W', fun i => (W'.s i).vars, M, i, j, rfl, L.l, hib, hjb, rfl, S, ?_⟩
      walk_at "go"
      have L2 : LI c h3 V W' M (t + 1) := ⟨L.l, L.n1, L.n8, fun a ha => ⟨(L.s a ha).1, by have := (L.s a ha).2.1; omega, (L.s a ha).2.2⟩⟩
      refine law_T1 (W := W') (ns := ns) (g := none) fh L2 hib (fgt ⟨_, _, _, L2, _, _, _, _, _, _, _, rfl⟩)
  · rintro s h3 ⟨V, W', M, L, a, b, d, e, f, g, k, rfl⟩
    unfold slW
    walk_at "go"
    refine ⟨V, W', fun i => (W'.s i).vars, M, rfl, L.l, by have := L.n8; omega, fun i hi => ?_, fin (q _)⟩
    obtain ⟨S, h1, h2⟩ := L.s i hi
    exact ⟨rfl, S, by omega, h2⟩
theorem law_sp (ns : List Int) (Q : LQ) (X : LX) (h : ns.length ≤ 63) (q : ∀ h, Q (.bl true) h) : spLaw [.rol ns] (fun _ => none) Q X := ⟨ns, rfl, h, fun _ => rfl, q⟩
end K08

namespace K08
open PySem L2 LL
/-- what the program's names stand for -/
def gl (C0 C1 C2 C3 C4 C5 E0 E1 E2 : Addr) : Glob :=
  { fn := fun x => ([("check_variable", spCheck ⟨E0, E1, E2, E0⟩), ("held_reference", spHeld ⟨C0, C1, C2, C3, C4, C5⟩ ⟨E0, E1, E2, E0⟩), ("near_number", spNearNum ⟨C0, C1, C2, C3, C4, C5⟩ ⟨E0, E1, E2, E0⟩), ("_law_is_integer", spInt), ("_law_number", spNum), ("_law_cell", spCell), ("_law_makes", spMakes ⟨C0, C1, C2, C3, C4, C5⟩), ("_law_looks", spLooks ⟨C0, C1, C2, C3, C4, C5⟩), ("_law_holds", spHolds ⟨C0, C1, C2, C3, C4, C5⟩), ("_law_ends_well", spEnds ⟨C0, C1, C2, C3, C4, C5⟩), ("law", spLaw)] : List (Str × LSp)).lookup x
    cls := fun x => ([("Outgoing", C0, spOutI ⟨C0, C1, C2, C3, C4, C5⟩), ("Incoming", C1, spIncI ⟨C0, C1, C2, C3, C4, C5⟩), ("Network", C2, spNetI ⟨C0, C1, C2, C3, C4, C5⟩), ("Site", C3, spSiteI ⟨C0, C1, C2, C3, C4, C5⟩), ("Waves", C4, spWavI ⟨C0, C1, C2, C3, C4, C5⟩), ("World", C5, spWorldI ⟨C0, C1, C2, C3, C4, C5⟩)] : List (Str × Addr × LSp)).lookup x
    meth := fun C m => pick C m ([(C3, "is_near", spNear ⟨C0, C1, C2, C3, C4, C5⟩), (C3, "create", spCreate ⟨C0, C1, C2, C3, C4, C5⟩), (C5, "_site", spSite ⟨C0, C1, C2, C3, C4, C5⟩ ⟨E0, E1, E2, E0⟩), (C5, "make", spMake ⟨C0, C1, C2, C3, C4, C5⟩), (C5, "assign", spAssign ⟨C0, C1, C2, C3, C4, C5⟩), (C5, "reset", spReset ⟨C0, C1, C2, C3, C4, C5⟩), (C5, "look", spLook ⟨C0, C1, C2, C3, C4, C5⟩ ⟨E0, E1, E2, E0⟩), (C5, "variables", spVars ⟨C0, C1, C2, C3, C4, C5⟩), (C5, "inbox", spInbox ⟨C0, C1, C2, C3, C4, C5⟩), (C5, "objects", spObjects ⟨C0, C1, C2, C3, C4, C5⟩), (C5, "fields", spFields ⟨C0, C1, C2, C3, C4, C5⟩ ⟨E0, E1, E2, E0⟩)] : List (Addr × Str × LSp))
    prop := fun C m => pick C m ([] : List (Addr × Str × LSp))
    attr := fun C m => (pick C m ([(C0, "_acknowledged", ()), (C0, "_waiting", ()), (C1, "count", ()), (C2, "_packets", ()), (C3, "number", ()), (C3, "variables", ()), (C3, "inbox", ()), (C3, "marks", ()), (C3, "contents", ()), (C3, "object_count", ()), (C3, "parcels", ()), (C3, "parcel_count", ()), (C3, "questions", ()), (C3, "question_count", ()), (C3, "arrivals", ()), (C3, "holdings", ()), (C3, "entries", ()), (C3, "clock", ()), (C3, "bound", ()), (C3, "settled", ()), (C3, "low", ()), (C3, "pending", ()), (C3, "needed", ()), (C3, "outgoing", ()), (C3, "incoming", ()), (C4, "others", ()), (C4, "number", ()), (C4, "noted", ()), (C4, "is_open", ()), (C5, "_sites", ()), (C5, "_network", ()), (C5, "_waves", ())] : List (Addr × Str × Unit))).isSome
    con := fun x => ([("VARIABLES", .int 8)] : List (Str × LV)).lookup x
    exc := fun x => ([("Unknown", E0), ("Empty", E1), ("NotNear", E2)] : List (Str × Addr)).lookup x
    exs := fun C x => pick C x ([(E0, "Empty", false), (E0, "FarheapError", true), (E0, "Unknown", true), (E1, "Empty", true), (E1, "FarheapError", true), (E1, "Unknown", false), (E2, "Empty", false), (E2, "FarheapError", true), (E2, "Unknown", false)] : List (Addr × Str × Bool))
    }
end K08
local macro_rules | `(tactic| walk_at "side") => `(tactic| (first | rfl | (simp [K08.gl, LL.pick_ofS, LL.pick_nil, *]; done)))
namespace K08
open PySem L2 LL
def topS (i : Nat) : Stmt := PySem.Challenge.pw_farheap_k08_make_assign_reset_look.main.body.getD i (.Pass ⟨0, 0, 0, 0⟩)
abbrev st_Outgoing_init : Stmt := inClass (topS 8) 0
theorem sc_Outgoing_init : FnScope n_Outgoing_init ["self"] (defScope st_Outgoing_init) := ⟨rfl, rfl, rfl, by decide +kernel, rfl, by decide +kernel, by decide +kernel⟩
theorem ok_Outgoing_init : okSs ⟨n_Outgoing_init, (defScope st_Outgoing_init).names, tb.tab, 0, true⟩ b_Outgoing_init (defBody st_Outgoing_init) = true := by decide +kernel
abbrev st_Incoming_init : Stmt := inClass (topS 9) 0
theorem sc_Incoming_init : FnScope n_Incoming_init ["self"] (defScope st_Incoming_init) := ⟨rfl, rfl, rfl, by decide +kernel, rfl, by decide +kernel, by decide +kernel⟩
theorem ok_Incoming_init : okSs ⟨n_Incoming_init, (defScope st_Incoming_init).names, tb.tab, 0, true⟩ b_Incoming_init (defBody st_Incoming_init) = true := by decide +kernel
abbrev st_Network_init : Stmt := inClass (topS 10) 0
theorem sc_Network_init : FnScope n_Network_init ["self"] (defScope st_Network_init) := ⟨rfl, rfl, rfl, by decide +kernel, rfl, by decide +kernel, by decide +kernel⟩
theorem ok_Network_init : okSs ⟨n_Network_init, (defScope st_Network_init).names, tb.tab, 0, true⟩ b_Network_init (defBody st_Network_init) = true := by decide +kernel
abbrev st_Site_init : Stmt := inClass (topS 28) 0
theorem sc_Site_init : FnScope n_Site_init ["self", "number", "sites"] (defScope st_Site_init) := ⟨rfl, rfl, rfl, by decide +kernel, rfl, by decide +kernel, by decide +kernel⟩
theorem ok_Site_init : okSs ⟨n_Site_init, (defScope st_Site_init).names, tb.tab, 2, true⟩ b_Site_init (defBody st_Site_init) = true := by decide +kernel
abbrev st_Site_is_near : Stmt := inClass (topS 28) 1
theorem sc_Site_is_near : FnScope n_Site_is_near ["self", "reference"] (defScope st_Site_is_near) := ⟨rfl, rfl, rfl, by decide +kernel, rfl, by decide +kernel, by decide +kernel⟩
theorem ok_Site_is_near : okSs ⟨n_Site_is_near, (defScope st_Site_is_near).names, tb.tab, 0, true⟩ b_Site_is_near (defBody st_Site_is_near) = true := by decide +kernel
abbrev st_Site_create : Stmt := inClass (topS 28) 3
theorem sc_Site_create : FnScope n_Site_create ["self", "size", "mark"] (defScope st_Site_create) := ⟨rfl, rfl, rfl, by decide +kernel, rfl, by decide +kernel, by decide +kernel⟩
theorem ok_Site_create : okSs ⟨n_Site_create, (defScope st_Site_create).names, tb.tab, 0, true⟩ b_Site_create (defBody st_Site_create) = true := by decide +kernel
abbrev st_Waves_init : Stmt := inClass (topS 30) 0
theorem sc_Waves_init : FnScope n_Waves_init ["self", "others"] (defScope st_Waves_init) := ⟨rfl, rfl, rfl, by decide +kernel, rfl, by decide +kernel, by decide +kernel⟩
theorem ok_Waves_init : okSs ⟨n_Waves_init, (defScope st_Waves_init).names, tb.tab, 0, true⟩ b_Waves_init (defBody st_Waves_init) = true := by decide +kernel
abbrev st_check_variable : Stmt := topS 32
theorem sc_check_variable : FnScope n_check_variable ["variable"] (defScope st_check_variable) := ⟨rfl, rfl, rfl, by decide +kernel, rfl, by decide +kernel, by decide +kernel⟩
theorem ok_check_variable : okSs ⟨n_check_variable, (defScope st_check_variable).names, tb.tab, 0, true⟩ b_check_variable (defBody st_check_variable) = true := by decide +kernel
abbrev st_held_reference : Stmt := topS 33
theorem sc_held_reference : FnScope n_held_reference ["site", "variable"] (defScope st_held_reference) := ⟨rfl, rfl, rfl, by decide +kernel, rfl, by decide +kernel, by decide +kernel⟩
theorem ok_held_reference : okSs ⟨n_held_reference, (defScope st_held_reference).names, tb.tab, 0, true⟩ b_held_reference (defBody st_held_reference) = true := by decide +kernel
abbrev st_near_number : Stmt := topS 34
theorem sc_near_number : FnScope n_near_number ["site", "variable"] (defScope st_near_number) := ⟨rfl, rfl, rfl, by decide +kernel, rfl, by decide +kernel, by decide +kernel⟩
theorem ok_near_number : okSs ⟨n_near_number, (defScope st_near_number).names, tb.tab, 1, true⟩ b_near_number (defBody st_near_number) = true := by decide +kernel
abbrev st_World_init : Stmt := inClass (topS 35) 0
theorem sc_World_init : FnScope n_World_init ["self", "sites"] (defScope st_World_init) := ⟨rfl, rfl, rfl, by decide +kernel, rfl, by decide +kernel, by decide +kernel⟩
theorem ok_World_init : okSs ⟨n_World_init, (defScope st_World_init).names, tb.tab, 4, true⟩ b_World_init (defBody st_World_init) = true := by decide +kernel
abbrev st_World__site : Stmt := inClass (topS 35) 1
theorem sc_World__site : FnScope n_World__site ["self", "number"] (defScope st_World__site) := ⟨rfl, rfl, rfl, by decide +kernel, rfl, by decide +kernel, by decide +kernel⟩
theorem ok_World__site : okSs ⟨n_World__site, (defScope st_World__site).names, tb.tab, 0, true⟩ b_World__site (defBody st_World__site) = true := by decide +kernel
abbrev st_World_make : Stmt := inClass (topS 35) 2
theorem sc_World_make : FnScope n_World_make ["self", "site", "variable", "size", "mark"] (defScope st_World_make) := ⟨rfl, rfl, rfl, by decide +kernel, rfl, by decide +kernel, by decide +kernel⟩
theorem ok_World_make : okSs ⟨n_World_make, (defScope st_World_make).names, tb.tab, 1, true⟩ b_World_make (defBody st_World_make) = true := by decide +kernel
abbrev st_World_assign : Stmt := inClass (topS 35) 3
theorem sc_World_assign : FnScope n_World_assign ["self", "site", "source", "target"] (defScope st_World_assign) := ⟨rfl, rfl, rfl, by decide +kernel, rfl, by decide +kernel, by decide +kernel⟩
theorem ok_World_assign : okSs ⟨n_World_assign, (defScope st_World_assign).names, tb.tab, 1, true⟩ b_World_assign (defBody st_World_assign) = true := by decide +kernel
abbrev st_World_reset : Stmt := inClass (topS 35) 4
theorem sc_World_reset : FnScope n_World_reset ["self", "site", "variable"] (defScope st_World_reset) := ⟨rfl, rfl, rfl, by decide +kernel, rfl, by decide +kernel, by decide +kernel⟩
theorem ok_World_reset : okSs ⟨n_World_reset, (defScope st_World_reset).names, tb.tab, 1, true⟩ b_World_reset (defBody st_World_reset) = true := by decide +kernel
abbrev st_World_look : Stmt := inClass (topS 35) 5
theorem sc_World_look : FnScope n_World_look ["self", "site", "variable"] (defScope st_World_look) := ⟨rfl, rfl, rfl, by decide +kernel, rfl, by decide +kernel, by decide +kernel⟩
theorem ok_World_look : okSs ⟨n_World_look, (defScope st_World_look).names, tb.tab, 2, true⟩ b_World_look (defBody st_World_look) = true := by decide +kernel
abbrev st_World_variables : Stmt := inClass (topS 35) 22
theorem sc_World_variables : FnScope n_World_variables ["self", "site"] (defScope st_World_variables) := ⟨rfl, rfl, rfl, by decide +kernel, rfl, by decide +kernel, by decide +kernel⟩
theorem ok_World_variables : okSs ⟨n_World_variables, (defScope st_World_variables).names, tb.tab, 1, true⟩ b_World_variables (defBody st_World_variables) = true := by decide +kernel
abbrev st_World_inbox : Stmt := inClass (topS 35) 23
theorem sc_World_inbox : FnScope n_World_inbox ["self", "site"] (defScope st_World_inbox) := ⟨rfl, rfl, rfl, by decide +kernel, rfl, by decide +kernel, by decide +kernel⟩
theorem ok_World_inbox : okSs ⟨n_World_inbox, (defScope st_World_inbox).names, tb.tab, 1, true⟩ b_World_inbox (defBody st_World_inbox) = true := by decide +kernel
abbrev st_World_objects : Stmt := inClass (topS 35) 24
theorem sc_World_objects : FnScope n_World_objects ["self", "site"] (defScope st_World_objects) := ⟨rfl, rfl, rfl, by decide +kernel, rfl, by decide +kernel, by decide +kernel⟩
theorem ok_World_objects : okSs ⟨n_World_objects, (defScope st_World_objects).names, tb.tab, 1, true⟩ b_World_objects (defBody st_World_objects) = true := by decide +kernel
abbrev st_World_fields : Stmt := inClass (topS 35) 25
theorem sc_World_fields : FnScope n_World_fields ["self", "site", "number"] (defScope st_World_fields) := ⟨rfl, rfl, rfl, by decide +kernel, rfl, by decide +kernel, by decide +kernel⟩
theorem ok_World_fields : okSs ⟨n_World_fields, (defScope st_World_fields).names, tb.tab, 1, true⟩ b_World_fields (defBody st_World_fields) = true := by decide +kernel
abbrev st_law_is_integer : Stmt := topS 37
theorem sc_law_is_integer : FnScope n_law_is_integer ["_law_actual"] (defScope st_law_is_integer) := ⟨rfl, rfl, rfl, by decide +kernel, rfl, by decide +kernel, by decide +kernel⟩
theorem ok_law_is_integer : okSs ⟨n_law_is_integer, (defScope st_law_is_integer).names, tb.tab, 0, true⟩ b_law_is_integer (defBody st_law_is_integer) = true := by decide +kernel
abbrev st_law_number : Stmt := topS 38
theorem sc_law_number : FnScope n_law_number ["_law_cell_here", "_law_k"] (defScope st_law_number) := ⟨rfl, rfl, rfl, by decide +kernel, rfl, by decide +kernel, by decide +kernel⟩
theorem ok_law_number : okSs ⟨n_law_number, (defScope st_law_number).names, tb.tab, 0, true⟩ b_law_number (defBody st_law_number) = true := by decide +kernel
abbrev st_law_cell : Stmt := topS 39
theorem sc_law_cell : FnScope n_law_cell ["_law_script", "_law_k"] (defScope st_law_cell) := ⟨rfl, rfl, rfl, by decide +kernel, rfl, by decide +kernel, by decide +kernel⟩
theorem ok_law_cell : okSs ⟨n_law_cell, (defScope st_law_cell).names, tb.tab, 0, true⟩ b_law_cell (defBody st_law_cell) = true := by decide +kernel
abbrev st_law_makes : Stmt := topS 40
theorem sc_law_makes : FnScope n_law_makes ["_law_world", "_law_site", "_law_variable", "_law_part", "_law_made"] (defScope st_law_makes) := ⟨rfl, rfl, rfl, by decide +kernel, rfl, by decide +kernel, by decide +kernel⟩
theorem ok_law_makes : okSs ⟨n_law_makes, (defScope st_law_makes).names, tb.tab, 2, true⟩ b_law_makes (defBody st_law_makes) = true := by decide +kernel
abbrev st_law_looks : Stmt := topS 41
theorem sc_law_looks : FnScope n_law_looks ["_law_world", "_law_site", "_law_variable", "_law_contents", "_law_made"] (defScope st_law_looks) := ⟨rfl, rfl, rfl, by decide +kernel, rfl, by decide +kernel, by decide +kernel⟩
theorem ok_law_looks : okSs ⟨n_law_looks, (defScope st_law_looks).names, tb.tab, 3, true⟩ b_law_looks (defBody st_law_looks) = true := by decide +kernel
abbrev st_law_holds : Stmt := topS 42
theorem sc_law_holds : FnScope n_law_holds ["_law_world", "_law_site", "_law_contents"] (defScope st_law_holds) := ⟨rfl, rfl, rfl, by decide +kernel, rfl, by decide +kernel, by decide +kernel⟩
theorem ok_law_holds : okSs ⟨n_law_holds, (defScope st_law_holds).names, tb.tab, 2, true⟩ b_law_holds (defBody st_law_holds) = true := by decide +kernel
abbrev st_law_ends_well : Stmt := topS 43
theorem sc_law_ends_well : FnScope n_law_ends_well ["_law_world", "_law_sites", "_law_contents", "_law_made"] (defScope st_law_ends_well) := ⟨rfl, rfl, rfl, by decide +kernel, rfl, by decide +kernel, by decide +kernel⟩
theorem ok_law_ends_well : okSs ⟨n_law_ends_well, (defScope st_law_ends_well).names, tb.tab, 4, true⟩ b_law_ends_well (defBody st_law_ends_well) = true := by decide +kernel
abbrev st_law : Stmt := topS 44
theorem sc_law : FnScope n_law ["_law_script"] (defScope st_law) := ⟨rfl, rfl, rfl, by decide +kernel, rfl, by decide +kernel, by decide +kernel⟩
theorem ok_law : okSs ⟨n_law, (defScope st_law).names, tb.tab, 6, true⟩ b_law (defBody st_law) = true := by decide +kernel
set_option maxHeartbeats 0 in
theorem all_mk {l : PySem.W.OpenLaw} {w : World} {K : PySem.W.Frag} {h : Heap} {mg : Str → Option Value} {fa C0 C1 C2 C3 C4 C5 E0 E1 E2 f0 f1 f2 f3 f4 f5 f6 f7 f8 f9 f10 f11 f12 f13 f14 f15 f16 f17 f18 f19 f20 f21 f22 f23 f24 f25 f26 f27 X0  : Addr}  (X : K.In h) (N : h.Ns mainGlobals mg) (hfa : mg "law" = some (.ref fa))
    {od0 an0 : Option Addr} {sl0 : Array (Option Value)} {oc0 kV0 dc0 pm0 cd0 ct0 : Value}
    {od1 an1 : Option Addr} {sl1 : Array (Option Value)} {oc1 kV1 dc1 pm1 cd1 ct1 : Value}
    {od2 an2 : Option Addr} {sl2 : Array (Option Value)} {oc2 kV2 dc2 pm2 cd2 ct2 : Value}
    {od3 an3 : Option Addr} {sl3 : Array (Option Value)} {oc3 kV3 dc3 pm3 cd3 ct3 : Value}
    {od4 an4 : Option Addr} {sl4 : Array (Option Value)} {oc4 kV4 dc4 pm4 cd4 ct4 : Value}
    {od5 an5 : Option Addr} {sl5 : Array (Option Value)} {oc5 kV5 dc5 pm5 cd5 ct5 : Value}
    {od6 an6 : Option Addr} {sl6 : Array (Option Value)} {oc6 kV6 dc6 pm6 cd6 ct6 : Value}
    {od7 an7 : Option Addr} {sl7 : Array (Option Value)} {oc7 kV7 dc7 pm7 cd7 ct7 : Value}
    {od8 an8 : Option Addr} {sl8 : Array (Option Value)} {oc8 kV8 dc8 pm8 cd8 ct8 : Value}
    {od9 an9 : Option Addr} {sl9 : Array (Option Value)} {oc9 kV9 dc9 pm9 cd9 ct9 : Value}
    {od10 an10 : Option Addr} {sl10 : Array (Option Value)} {oc10 kV10 dc10 pm10 cd10 ct10 : Value}
    {od11 an11 : Option Addr} {sl11 : Array (Option Value)} {oc11 kV11 dc11 pm11 cd11 ct11 : Value}
    {od12 an12 : Option Addr} {sl12 : Array (Option Value)} {oc12 dc12 pm12 cd12 ct12 : Value} {kD12 : Addr} {kt12_0 : Tok} {kt12_1 : Tok}
    {od13 an13 : Option Addr} {sl13 : Array (Option Value)} {oc13 kV13 dc13 pm13 cd13 ct13 : Value}
    {od14 an14 : Option Addr} {sl14 : Array (Option Value)} {oc14 kV14 dc14 pm14 cd14 ct14 : Value}
    {od15 an15 : Option Addr} {sl15 : Array (Option Value)} {oc15 kV15 dc15 pm15 cd15 ct15 : Value}
    {od16 an16 : Option Addr} {sl16 : Array (Option Value)} {oc16 kV16 dc16 pm16 cd16 ct16 : Value}
    {od17 an17 : Option Addr} {sl17 : Array (Option Value)} {oc17 kV17 dc17 pm17 cd17 ct17 : Value}
    {od18 an18 : Option Addr} {sl18 : Array (Option Value)} {oc18 kV18 dc18 pm18 cd18 ct18 : Value}
    {od19 an19 : Option Addr} {sl19 : Array (Option Value)} {oc19 kV19 dc19 pm19 cd19 ct19 : Value}
    {od20 an20 : Option Addr} {sl20 : Array (Option Value)} {oc20 kV20 dc20 pm20 cd20 ct20 : Value}
    {od21 an21 : Option Addr} {sl21 : Array (Option Value)} {oc21 kV21 dc21 pm21 cd21 ct21 : Value}
    {od22 an22 : Option Addr} {sl22 : Array (Option Value)} {oc22 kV22 dc22 pm22 cd22 ct22 : Value}
    {od23 an23 : Option Addr} {sl23 : Array (Option Value)} {oc23 kV23 dc23 pm23 cd23 ct23 : Value}
    {od24 an24 : Option Addr} {sl24 : Array (Option Value)} {oc24 kV24 dc24 pm24 cd24 ct24 : Value}
    {od25 an25 : Option Addr} {sl25 : Array (Option Value)} {oc25 kV25 dc25 pm25 cd25 ct25 : Value}
    {od26 an26 : Option Addr} {sl26 : Array (Option Value)} {oc26 kV26 dc26 pm26 cd26 ct26 : Value}
    {od27 an27 : Option Addr} {sl27 : Array (Option Value)} {oc27 kV27 dc27 pm27 cd27 ct27 : Value}
    {vt0 : Tok}
    (aC0 : PySem.W.nsIn K mainGlobals "Outgoing" = some (some (.ref C0)))
    (aC1 : PySem.W.nsIn K mainGlobals "Incoming" = some (some (.ref C1)))
    (aC2 : PySem.W.nsIn K mainGlobals "Network" = some (some (.ref C2)))
    (aC3 : PySem.W.nsIn K mainGlobals "Site" = some (some (.ref C3)))
    (aC4 : PySem.W.nsIn K mainGlobals "Waves" = some (some (.ref C4)))
    (aC5 : PySem.W.nsIn K mainGlobals "World" = some (some (.ref C5)))
    (aE0 : PySem.W.nsIn K mainGlobals "Unknown" = some (some (.ref E0)))
    (aE1 : PySem.W.nsIn K mainGlobals "Empty" = some (some (.ref E1)))
    (aE2 : PySem.W.nsIn K mainGlobals "NotNear" = some (some (.ref E2)))
    (a0 : PySem.W.findIn K (.ref C0) "__init__" = some (some (.ref f0)))
    (i0 : PySem.W.isFn K (.ref f0) = true)
    (l0 : K.lookup f0 = some ⟨oc0, od0, .func (PySem.W.fnOf "__init__" "Outgoing.__init__" (defArgs st_Outgoing_init) (defBody st_Outgoing_init) (defScope st_Outgoing_init) .none kV0 dc0 pm0 an0 cd0 ct0), sl0⟩)
    (c0 : PySem.W.codeIn K cd0 "Outgoing.__init__" = true)
    (k0 : PySem.W.keepIn K (.ref f0) = true)
    (a1 : PySem.W.findIn K (.ref C1) "__init__" = some (some (.ref f1)))
    (i1 : PySem.W.isFn K (.ref f1) = true)
    (l1 : K.lookup f1 = some ⟨oc1, od1, .func (PySem.W.fnOf "__init__" "Incoming.__init__" (defArgs st_Incoming_init) (defBody st_Incoming_init) (defScope st_Incoming_init) .none kV1 dc1 pm1 an1 cd1 ct1), sl1⟩)
    (c1 : PySem.W.codeIn K cd1 "Incoming.__init__" = true)
    (k1 : PySem.W.keepIn K (.ref f1) = true)
    (a2 : PySem.W.findIn K (.ref C2) "__init__" = some (some (.ref f2)))
    (i2 : PySem.W.isFn K (.ref f2) = true)
    (l2 : K.lookup f2 = some ⟨oc2, od2, .func (PySem.W.fnOf "__init__" "Network.__init__" (defArgs st_Network_init) (defBody st_Network_init) (defScope st_Network_init) .none kV2 dc2 pm2 an2 cd2 ct2), sl2⟩)
    (c2 : PySem.W.codeIn K cd2 "Network.__init__" = true)
    (k2 : PySem.W.keepIn K (.ref f2) = true)
    (a3 : PySem.W.findIn K (.ref C3) "__init__" = some (some (.ref f3)))
    (i3 : PySem.W.isFn K (.ref f3) = true)
    (l3 : K.lookup f3 = some ⟨oc3, od3, .func (PySem.W.fnOf "__init__" "Site.__init__" (defArgs st_Site_init) (defBody st_Site_init) (defScope st_Site_init) .none kV3 dc3 pm3 an3 cd3 ct3), sl3⟩)
    (c3 : PySem.W.codeIn K cd3 "Site.__init__" = true)
    (k3 : PySem.W.keepIn K (.ref f3) = true)
    (a4 : PySem.W.findIn K (.ref C3) "is_near" = some (some (.ref f4)))
    (i4 : PySem.W.isFn K (.ref f4) = true)
    (l4 : K.lookup f4 = some ⟨oc4, od4, .func (PySem.W.fnOf "is_near" "Site.is_near" (defArgs st_Site_is_near) (defBody st_Site_is_near) (defScope st_Site_is_near) .none kV4 dc4 pm4 an4 cd4 ct4), sl4⟩)
    (c4 : PySem.W.codeIn K cd4 "Site.is_near" = true)
    (k4 : PySem.W.keepIn K (.ref f4) = true)
    (a5 : PySem.W.findIn K (.ref C3) "create" = some (some (.ref f5)))
    (i5 : PySem.W.isFn K (.ref f5) = true)
    (l5 : K.lookup f5 = some ⟨oc5, od5, .func (PySem.W.fnOf "create" "Site.create" (defArgs st_Site_create) (defBody st_Site_create) (defScope st_Site_create) .none kV5 dc5 pm5 an5 cd5 ct5), sl5⟩)
    (c5 : PySem.W.codeIn K cd5 "Site.create" = true)
    (k5 : PySem.W.keepIn K (.ref f5) = true)
    (a6 : PySem.W.findIn K (.ref C4) "__init__" = some (some (.ref f6)))
    (i6 : PySem.W.isFn K (.ref f6) = true)
    (l6 : K.lookup f6 = some ⟨oc6, od6, .func (PySem.W.fnOf "__init__" "Waves.__init__" (defArgs st_Waves_init) (defBody st_Waves_init) (defScope st_Waves_init) .none kV6 dc6 pm6 an6 cd6 ct6), sl6⟩)
    (c6 : PySem.W.codeIn K cd6 "Waves.__init__" = true)
    (k6 : PySem.W.keepIn K (.ref f6) = true)
    (a7 : PySem.W.nsIn K mainGlobals "check_variable" = some (some (.ref f7)))
    (l7 : K.lookup f7 = some ⟨oc7, od7, .func (PySem.W.fnOf "check_variable" "check_variable" (defArgs st_check_variable) (defBody st_check_variable) (defScope st_check_variable) .none kV7 dc7 pm7 an7 cd7 ct7), sl7⟩)
    (c7 : PySem.W.codeIn K cd7 "check_variable" = true)
    (k7 : PySem.W.keepIn K (.ref f7) = true)
    (a8 : PySem.W.nsIn K mainGlobals "held_reference" = some (some (.ref f8)))
    (l8 : K.lookup f8 = some ⟨oc8, od8, .func (PySem.W.fnOf "held_reference" "held_reference" (defArgs st_held_reference) (defBody st_held_reference) (defScope st_held_reference) .none kV8 dc8 pm8 an8 cd8 ct8), sl8⟩)
    (c8 : PySem.W.codeIn K cd8 "held_reference" = true)
    (k8 : PySem.W.keepIn K (.ref f8) = true)
    (a9 : PySem.W.nsIn K mainGlobals "near_number" = some (some (.ref f9)))
    (l9 : K.lookup f9 = some ⟨oc9, od9, .func (PySem.W.fnOf "near_number" "near_number" (defArgs st_near_number) (defBody st_near_number) (defScope st_near_number) .none kV9 dc9 pm9 an9 cd9 ct9), sl9⟩)
    (c9 : PySem.W.codeIn K cd9 "near_number" = true)
    (k9 : PySem.W.keepIn K (.ref f9) = true)
    (a10 : PySem.W.findIn K (.ref C5) "__init__" = some (some (.ref f10)))
    (i10 : PySem.W.isFn K (.ref f10) = true)
    (l10 : K.lookup f10 = some ⟨oc10, od10, .func (PySem.W.fnOf "__init__" "World.__init__" (defArgs st_World_init) (defBody st_World_init) (defScope st_World_init) .none kV10 dc10 pm10 an10 cd10 ct10), sl10⟩)
    (c10 : PySem.W.codeIn K cd10 "World.__init__" = true)
    (k10 : PySem.W.keepIn K (.ref f10) = true)
    (a11 : PySem.W.findIn K (.ref C5) "_site" = some (some (.ref f11)))
    (i11 : PySem.W.isFn K (.ref f11) = true)
    (l11 : K.lookup f11 = some ⟨oc11, od11, .func (PySem.W.fnOf "_site" "World._site" (defArgs st_World__site) (defBody st_World__site) (defScope st_World__site) .none kV11 dc11 pm11 an11 cd11 ct11), sl11⟩)
    (c11 : PySem.W.codeIn K cd11 "World._site" = true)
    (k11 : PySem.W.keepIn K (.ref f11) = true)
    (a12 : PySem.W.findIn K (.ref C5) "make" = some (some (.ref f12)))
    (i12 : PySem.W.isFn K (.ref f12) = true)
    (l12 : K.lookup f12 = some ⟨oc12, od12, .func (PySem.W.fnOf "make" "World.make" (defArgs st_World_make) (defBody st_World_make) (defScope st_World_make) .none (.ref kD12) dc12 pm12 an12 cd12 ct12), sl12⟩)
    (w12_0 : PySem.W.nsIn K kD12 "size" = some (some (.int (0) kt12_0)))
    (w12_1 : PySem.W.nsIn K kD12 "mark" = some (some (.int (0) kt12_1)))
    (c12 : PySem.W.codeIn K cd12 "World.make" = true)
    (k12 : PySem.W.keepIn K (.ref f12) = true)
    (a13 : PySem.W.findIn K (.ref C5) "assign" = some (some (.ref f13)))
    (i13 : PySem.W.isFn K (.ref f13) = true)
    (l13 : K.lookup f13 = some ⟨oc13, od13, .func (PySem.W.fnOf "assign" "World.assign" (defArgs st_World_assign) (defBody st_World_assign) (defScope st_World_assign) .none kV13 dc13 pm13 an13 cd13 ct13), sl13⟩)
    (c13 : PySem.W.codeIn K cd13 "World.assign" = true)
    (k13 : PySem.W.keepIn K (.ref f13) = true)
    (a14 : PySem.W.findIn K (.ref C5) "reset" = some (some (.ref f14)))
    (i14 : PySem.W.isFn K (.ref f14) = true)
    (l14 : K.lookup f14 = some ⟨oc14, od14, .func (PySem.W.fnOf "reset" "World.reset" (defArgs st_World_reset) (defBody st_World_reset) (defScope st_World_reset) .none kV14 dc14 pm14 an14 cd14 ct14), sl14⟩)
    (c14 : PySem.W.codeIn K cd14 "World.reset" = true)
    (k14 : PySem.W.keepIn K (.ref f14) = true)
    (a15 : PySem.W.findIn K (.ref C5) "look" = some (some (.ref f15)))
    (i15 : PySem.W.isFn K (.ref f15) = true)
    (l15 : K.lookup f15 = some ⟨oc15, od15, .func (PySem.W.fnOf "look" "World.look" (defArgs st_World_look) (defBody st_World_look) (defScope st_World_look) .none kV15 dc15 pm15 an15 cd15 ct15), sl15⟩)
    (c15 : PySem.W.codeIn K cd15 "World.look" = true)
    (k15 : PySem.W.keepIn K (.ref f15) = true)
    (a16 : PySem.W.findIn K (.ref C5) "variables" = some (some (.ref f16)))
    (i16 : PySem.W.isFn K (.ref f16) = true)
    (l16 : K.lookup f16 = some ⟨oc16, od16, .func (PySem.W.fnOf "variables" "World.variables" (defArgs st_World_variables) (defBody st_World_variables) (defScope st_World_variables) .none kV16 dc16 pm16 an16 cd16 ct16), sl16⟩)
    (c16 : PySem.W.codeIn K cd16 "World.variables" = true)
    (k16 : PySem.W.keepIn K (.ref f16) = true)
    (a17 : PySem.W.findIn K (.ref C5) "inbox" = some (some (.ref f17)))
    (i17 : PySem.W.isFn K (.ref f17) = true)
    (l17 : K.lookup f17 = some ⟨oc17, od17, .func (PySem.W.fnOf "inbox" "World.inbox" (defArgs st_World_inbox) (defBody st_World_inbox) (defScope st_World_inbox) .none kV17 dc17 pm17 an17 cd17 ct17), sl17⟩)
    (c17 : PySem.W.codeIn K cd17 "World.inbox" = true)
    (k17 : PySem.W.keepIn K (.ref f17) = true)
    (a18 : PySem.W.findIn K (.ref C5) "objects" = some (some (.ref f18)))
    (i18 : PySem.W.isFn K (.ref f18) = true)
    (l18 : K.lookup f18 = some ⟨oc18, od18, .func (PySem.W.fnOf "objects" "World.objects" (defArgs st_World_objects) (defBody st_World_objects) (defScope st_World_objects) .none kV18 dc18 pm18 an18 cd18 ct18), sl18⟩)
    (c18 : PySem.W.codeIn K cd18 "World.objects" = true)
    (k18 : PySem.W.keepIn K (.ref f18) = true)
    (a19 : PySem.W.findIn K (.ref C5) "fields" = some (some (.ref f19)))
    (i19 : PySem.W.isFn K (.ref f19) = true)
    (l19 : K.lookup f19 = some ⟨oc19, od19, .func (PySem.W.fnOf "fields" "World.fields" (defArgs st_World_fields) (defBody st_World_fields) (defScope st_World_fields) .none kV19 dc19 pm19 an19 cd19 ct19), sl19⟩)
    (c19 : PySem.W.codeIn K cd19 "World.fields" = true)
    (k19 : PySem.W.keepIn K (.ref f19) = true)
    (a20 : PySem.W.nsIn K mainGlobals "_law_is_integer" = some (some (.ref f20)))
    (l20 : K.lookup f20 = some ⟨oc20, od20, .func (PySem.W.fnOf "_law_is_integer" "_law_is_integer" (defArgs st_law_is_integer) (defBody st_law_is_integer) (defScope st_law_is_integer) .none kV20 dc20 pm20 an20 cd20 ct20), sl20⟩)
    (c20 : PySem.W.codeIn K cd20 "_law_is_integer" = true)
    (k20 : PySem.W.keepIn K (.ref f20) = true)
    (a21 : PySem.W.nsIn K mainGlobals "_law_number" = some (some (.ref f21)))
    (l21 : K.lookup f21 = some ⟨oc21, od21, .func (PySem.W.fnOf "_law_number" "_law_number" (defArgs st_law_number) (defBody st_law_number) (defScope st_law_number) .none kV21 dc21 pm21 an21 cd21 ct21), sl21⟩)
    (c21 : PySem.W.codeIn K cd21 "_law_number" = true)
    (k21 : PySem.W.keepIn K (.ref f21) = true)
    (a22 : PySem.W.nsIn K mainGlobals "_law_cell" = some (some (.ref f22)))
    (l22 : K.lookup f22 = some ⟨oc22, od22, .func (PySem.W.fnOf "_law_cell" "_law_cell" (defArgs st_law_cell) (defBody st_law_cell) (defScope st_law_cell) .none kV22 dc22 pm22 an22 cd22 ct22), sl22⟩)
    (c22 : PySem.W.codeIn K cd22 "_law_cell" = true)
    (k22 : PySem.W.keepIn K (.ref f22) = true)
    (a23 : PySem.W.nsIn K mainGlobals "_law_makes" = some (some (.ref f23)))
    (l23 : K.lookup f23 = some ⟨oc23, od23, .func (PySem.W.fnOf "_law_makes" "_law_makes" (defArgs st_law_makes) (defBody st_law_makes) (defScope st_law_makes) .none kV23 dc23 pm23 an23 cd23 ct23), sl23⟩)
    (c23 : PySem.W.codeIn K cd23 "_law_makes" = true)
    (k23 : PySem.W.keepIn K (.ref f23) = true)
    (a24 : PySem.W.nsIn K mainGlobals "_law_looks" = some (some (.ref f24)))
    (l24 : K.lookup f24 = some ⟨oc24, od24, .func (PySem.W.fnOf "_law_looks" "_law_looks" (defArgs st_law_looks) (defBody st_law_looks) (defScope st_law_looks) .none kV24 dc24 pm24 an24 cd24 ct24), sl24⟩)
    (c24 : PySem.W.codeIn K cd24 "_law_looks" = true)
    (k24 : PySem.W.keepIn K (.ref f24) = true)
    (a25 : PySem.W.nsIn K mainGlobals "_law_holds" = some (some (.ref f25)))
    (l25 : K.lookup f25 = some ⟨oc25, od25, .func (PySem.W.fnOf "_law_holds" "_law_holds" (defArgs st_law_holds) (defBody st_law_holds) (defScope st_law_holds) .none kV25 dc25 pm25 an25 cd25 ct25), sl25⟩)
    (c25 : PySem.W.codeIn K cd25 "_law_holds" = true)
    (k25 : PySem.W.keepIn K (.ref f25) = true)
    (a26 : PySem.W.nsIn K mainGlobals "_law_ends_well" = some (some (.ref f26)))
    (l26 : K.lookup f26 = some ⟨oc26, od26, .func (PySem.W.fnOf "_law_ends_well" "_law_ends_well" (defArgs st_law_ends_well) (defBody st_law_ends_well) (defScope st_law_ends_well) .none kV26 dc26 pm26 an26 cd26 ct26), sl26⟩)
    (c26 : PySem.W.codeIn K cd26 "_law_ends_well" = true)
    (k26 : PySem.W.keepIn K (.ref f26) = true)
    (a27 : PySem.W.nsIn K mainGlobals "law" = some (some (.ref f27)))
    (l27 : K.lookup f27 = some ⟨oc27, od27, .func (PySem.W.fnOf "law" "law" (defArgs st_law) (defBody st_law) (defScope st_law) .none kV27 dc27 pm27 an27 cd27 ct27), sl27⟩)
    (c27 : PySem.W.codeIn K cd27 "law" = true)
    (k27 : PySem.W.keepIn K (.ref f27) = true)
    (pgC0 : PySem.W.plainGet K C0 Str.empty = true)
    (hdC0 : PySem.W.hasDictIn K C0 = true)
    (poC0 : PySem.W.plainOver K C0 = true)
    (saC0 : PySem.W.findIn K (.ref C0) "__setattr__" = some (some (.builtin "object.__setattr__")))
    (mkC0 : PySem.W.makesIn K C0 = true)
    (kcC0 : PySem.W.keepIn K (.ref C0) = true)
    (nC0_0 : PySem.W.findIn K (.ref C0) "_acknowledged" = some none)
    (nC0_1 : PySem.W.findIn K (.ref C0) "_waiting" = some none)
    (pgC1 : PySem.W.plainGet K C1 Str.empty = true)
    (hdC1 : PySem.W.hasDictIn K C1 = true)
    (poC1 : PySem.W.plainOver K C1 = true)
    (saC1 : PySem.W.findIn K (.ref C1) "__setattr__" = some (some (.builtin "object.__setattr__")))
    (mkC1 : PySem.W.makesIn K C1 = true)
    (kcC1 : PySem.W.keepIn K (.ref C1) = true)
    (nC1_0 : PySem.W.findIn K (.ref C1) "count" = some none)
    (pgC2 : PySem.W.plainGet K C2 Str.empty = true)
    (hdC2 : PySem.W.hasDictIn K C2 = true)
    (poC2 : PySem.W.plainOver K C2 = true)
    (saC2 : PySem.W.findIn K (.ref C2) "__setattr__" = some (some (.builtin "object.__setattr__")))
    (mkC2 : PySem.W.makesIn K C2 = true)
    (kcC2 : PySem.W.keepIn K (.ref C2) = true)
    (nC2_0 : PySem.W.findIn K (.ref C2) "_packets" = some none)
    (pgC3 : PySem.W.plainGet K C3 Str.empty = true)
    (hdC3 : PySem.W.hasDictIn K C3 = true)
    (poC3 : PySem.W.plainOver K C3 = true)
    (saC3 : PySem.W.findIn K (.ref C3) "__setattr__" = some (some (.builtin "object.__setattr__")))
    (mkC3 : PySem.W.makesIn K C3 = true)
    (kcC3 : PySem.W.keepIn K (.ref C3) = true)
    (nC3_0 : PySem.W.findIn K (.ref C3) "number" = some none)
    (nC3_1 : PySem.W.findIn K (.ref C3) "variables" = some none)
    (nC3_2 : PySem.W.findIn K (.ref C3) "inbox" = some none)
    (nC3_3 : PySem.W.findIn K (.ref C3) "marks" = some none)
    (nC3_4 : PySem.W.findIn K (.ref C3) "contents" = some none)
    (nC3_5 : PySem.W.findIn K (.ref C3) "object_count" = some none)
    (nC3_6 : PySem.W.findIn K (.ref C3) "parcels" = some none)
    (nC3_7 : PySem.W.findIn K (.ref C3) "parcel_count" = some none)
    (nC3_8 : PySem.W.findIn K (.ref C3) "questions" = some none)
    (nC3_9 : PySem.W.findIn K (.ref C3) "question_count" = some none)
    (nC3_10 : PySem.W.findIn K (.ref C3) "arrivals" = some none)
    (nC3_11 : PySem.W.findIn K (.ref C3) "holdings" = some none)
    (nC3_12 : PySem.W.findIn K (.ref C3) "entries" = some none)
    (nC3_13 : PySem.W.findIn K (.ref C3) "clock" = some none)
    (nC3_14 : PySem.W.findIn K (.ref C3) "bound" = some none)
    (nC3_15 : PySem.W.findIn K (.ref C3) "settled" = some none)
    (nC3_16 : PySem.W.findIn K (.ref C3) "low" = some none)
    (nC3_17 : PySem.W.findIn K (.ref C3) "pending" = some none)
    (nC3_18 : PySem.W.findIn K (.ref C3) "needed" = some none)
    (nC3_19 : PySem.W.findIn K (.ref C3) "outgoing" = some none)
    (nC3_20 : PySem.W.findIn K (.ref C3) "incoming" = some none)
    (pgC4 : PySem.W.plainGet K C4 Str.empty = true)
    (hdC4 : PySem.W.hasDictIn K C4 = true)
    (poC4 : PySem.W.plainOver K C4 = true)
    (saC4 : PySem.W.findIn K (.ref C4) "__setattr__" = some (some (.builtin "object.__setattr__")))
    (mkC4 : PySem.W.makesIn K C4 = true)
    (kcC4 : PySem.W.keepIn K (.ref C4) = true)
    (nC4_0 : PySem.W.findIn K (.ref C4) "others" = some none)
    (nC4_1 : PySem.W.findIn K (.ref C4) "number" = some none)
    (nC4_2 : PySem.W.findIn K (.ref C4) "noted" = some none)
    (nC4_3 : PySem.W.findIn K (.ref C4) "is_open" = some none)
    (pgC5 : PySem.W.plainGet K C5 Str.empty = true)
    (hdC5 : PySem.W.hasDictIn K C5 = true)
    (poC5 : PySem.W.plainOver K C5 = true)
    (saC5 : PySem.W.findIn K (.ref C5) "__setattr__" = some (some (.builtin "object.__setattr__")))
    (mkC5 : PySem.W.makesIn K C5 = true)
    (kcC5 : PySem.W.keepIn K (.ref C5) = true)
    (nC5_0 : PySem.W.findIn K (.ref C5) "_sites" = some none)
    (nC5_1 : PySem.W.findIn K (.ref C5) "_network" = some none)
    (nC5_2 : PySem.W.findIn K (.ref C5) "_waves" = some none)
    (exE0 : PySem.W.excIn K E0 PySem.HandSPX.veTail "ValueError.__new__" = true)
    (ekE0 : PySem.W.keepIn K (.ref E0) = true)
    (esE0 : PySem.W.subIn K (.ref E0) (.type "BaseException") = some true)
    (etE0 : PySem.W.typeIn K (.ref E0) = some (.type "type"))
    (exE1 : PySem.W.excIn K E1 PySem.HandSPX.veTail "ValueError.__new__" = true)
    (ekE1 : PySem.W.keepIn K (.ref E1) = true)
    (esE1 : PySem.W.subIn K (.ref E1) (.type "BaseException") = some true)
    (etE1 : PySem.W.typeIn K (.ref E1) = some (.type "type"))
    (exE2 : PySem.W.excIn K E2 PySem.HandSPX.veTail "ValueError.__new__" = true)
    (ekE2 : PySem.W.keepIn K (.ref E2) = true)
    (esE2 : PySem.W.subIn K (.ref E2) (.type "BaseException") = some true)
    (etE2 : PySem.W.typeIn K (.ref E2) = some (.type "type"))
    (aX0 : PySem.W.nsIn K mainGlobals "FarheapError" = some (some (.ref X0)))
    (cgE0 : PySem.W.findIn K (.ref E0) "__getattribute__" = some (some (.builtin "BaseException.__getattribute__")))
    (ckE0 : PySem.W.findIn K (.ref E0) "__getattr__" = some none)
    (cdE0 : PySem.W.hasDictIn K E0 = true)
    (ccE0 : PySem.W.findIn K (.ref E0) "__class__" = some (some (.builtin "object.__class__")))
    (cmE0 : PySem.W.mroIn K E0 (.type "object") = some true)
    (neE0E1 : E0 ≠ E1)
    (xsE0_0 : PySem.W.subIn K (.ref E0) (.ref E1) = some false)
    (xsE0_1 : PySem.W.subIn K (.ref E0) (.ref X0) = some true)
    (xsE0_2 : PySem.W.subIn K (.ref E0) (.ref E0) = some true)
    (cgE1 : PySem.W.findIn K (.ref E1) "__getattribute__" = some (some (.builtin "BaseException.__getattribute__")))
    (ckE1 : PySem.W.findIn K (.ref E1) "__getattr__" = some none)
    (cdE1 : PySem.W.hasDictIn K E1 = true)
    (ccE1 : PySem.W.findIn K (.ref E1) "__class__" = some (some (.builtin "object.__class__")))
    (cmE1 : PySem.W.mroIn K E1 (.type "object") = some true)
    (xsE1_0 : PySem.W.subIn K (.ref E1) (.ref E1) = some true)
    (xsE1_1 : PySem.W.subIn K (.ref E1) (.ref X0) = some true)
    (neE1E0 : E1 ≠ E0)
    (xsE1_2 : PySem.W.subIn K (.ref E1) (.ref E0) = some false)
    (cgE2 : PySem.W.findIn K (.ref E2) "__getattribute__" = some (some (.builtin "BaseException.__getattribute__")))
    (ckE2 : PySem.W.findIn K (.ref E2) "__getattr__" = some none)
    (cdE2 : PySem.W.hasDictIn K E2 = true)
    (ccE2 : PySem.W.findIn K (.ref E2) "__class__" = some (some (.builtin "object.__class__")))
    (cmE2 : PySem.W.mroIn K E2 (.type "object") = some true)
    (neE2E1 : E2 ≠ E1)
    (xsE2_0 : PySem.W.subIn K (.ref E2) (.ref E1) = some false)
    (xsE2_1 : PySem.W.subIn K (.ref E2) (.ref X0) = some true)
    (neE2E0 : E2 ≠ E0)
    (xsE2_2 : PySem.W.subIn K (.ref E2) (.ref E0) = some false)
    (esX0 : PySem.W.subIn K (.ref X0) (.type "BaseException") = some true)
    (etX0 : PySem.W.typeIn K (.ref X0) = some (.type "type"))
    (cdX0 : PySem.W.hasDictIn K X0 = true)
    (cn : PySem.W.specialIn K (.builtin "object.__class__") "__get__" = some (some (.builtin "getset_descriptor.__get__")))
    (ct : PySem.W.takesIn K (.builtin "object.__class__") = some true)
    (z0 : PySem.W.nsIn K mainGlobals "ValueError" = some none)
    (z1 : PySem.W.nsIn K mainGlobals "bool" = some none)
    (z2 : PySem.W.nsIn K mainGlobals "enumerate" = some none)
    (z3 : PySem.W.nsIn K mainGlobals "int" = some none)
    (z4 : PySem.W.nsIn K mainGlobals "isinstance" = some none)
    (z5 : PySem.W.nsIn K mainGlobals "len" = some none)
    (z6 : PySem.W.nsIn K mainGlobals "list" = some none)
    (z7 : PySem.W.nsIn K mainGlobals "max" = some none)
    (z8 : PySem.W.nsIn K mainGlobals "min" = some none)
    (z9 : PySem.W.nsIn K mainGlobals "range" = some none)
    (z10 : PySem.W.nsIn K mainGlobals "sorted" = some none)
    (z11 : PySem.W.nsIn K mainGlobals "tuple" = some none)
    (neC1C0 : C1 ≠ C0)
    (neC2C0 : C2 ≠ C0)
    (neC2C1 : C2 ≠ C1)
    (neC3C0 : C3 ≠ C0)
    (neC3C1 : C3 ≠ C1)
    (neC3C2 : C3 ≠ C2)
    (neC4C0 : C4 ≠ C0)
    (neC4C1 : C4 ≠ C1)
    (neC4C2 : C4 ≠ C2)
    (neC4C3 : C4 ≠ C3)
    (neC5C0 : C5 ≠ C0)
    (neC5C1 : C5 ≠ C1)
    (neC5C2 : C5 ≠ C2)
    (neC5C3 : C5 ≠ C3)
    (neC5C4 : C5 ≠ C4)
    (v0 : PySem.W.nsIn K mainGlobals "VARIABLES" = some (some (.int (8) vt0)))
    : ∃ fd : FuncData, (∀ (s : Shared) (v : Value), BindsTo s fd ⟨[v], []⟩ [("_law_script", v)]) ∧ ∀ base : Heap, K.In base → base.Ns mainGlobals mg → FnOk l.prog w K mg base (L2.CX l.prog w) 7 fa fd ["_law_script"] (liftSp K 1 spLaw) := by
  have e := hfa.symm.trans (PySem.W.mg_of X N a27)
  cases e
  have F0 := fun_mk (st := st_Outgoing_init) l0 c0 k0
  have b0 := F0.binds (ps := ["self"]) fun _ _ _ _ _ _ us hl => match us, hl with | [_], _ => rfl
  have F1 := fun_mk (st := st_Incoming_init) l1 c1 k1
  have b1 := F1.binds (ps := ["self"]) fun _ _ _ _ _ _ us hl => match us, hl with | [_], _ => rfl
  have F2 := fun_mk (st := st_Network_init) l2 c2 k2
  have b2 := F2.binds (ps := ["self"]) fun _ _ _ _ _ _ us hl => match us, hl with | [_], _ => rfl
  have F3 := fun_mk (st := st_Site_init) l3 c3 k3
  have b3 := F3.binds (ps := ["self", "number", "sites"]) fun _ _ _ _ _ _ us hl => match us, hl with | [_, _, _], _ => rfl
  have F4 := fun_mk (st := st_Site_is_near) l4 c4 k4
  have b4 := F4.binds (ps := ["self", "reference"]) fun _ _ _ _ _ _ us hl => match us, hl with | [_, _], _ => rfl
  have F5 := fun_mk (st := st_Site_create) l5 c5 k5
  have b5 := F5.binds (ps := ["self", "size", "mark"]) fun _ _ _ _ _ _ us hl => match us, hl with | [_, _, _], _ => rfl
  have F6 := fun_mk (st := st_Waves_init) l6 c6 k6
  have b6 := F6.binds (ps := ["self", "others"]) fun _ _ _ _ _ _ us hl => match us, hl with | [_, _], _ => rfl
  have F7 := fun_mk (st := st_check_variable) l7 c7 k7
  have b7 := F7.binds (ps := ["variable"]) fun _ _ _ _ _ _ us hl => match us, hl with | [_], _ => rfl
  have F8 := fun_mk (st := st_held_reference) l8 c8 k8
  have b8 := F8.binds (ps := ["site", "variable"]) fun _ _ _ _ _ _ us hl => match us, hl with | [_, _], _ => rfl
  have F9 := fun_mk (st := st_near_number) l9 c9 k9
  have b9 := F9.binds (ps := ["site", "variable"]) fun _ _ _ _ _ _ us hl => match us, hl with | [_, _], _ => rfl
  have F10 := fun_mk (st := st_World_init) l10 c10 k10
  have b10 := F10.binds (ps := ["self", "sites"]) fun _ _ _ _ _ _ us hl => match us, hl with | [_, _], _ => rfl
  have F11 := fun_mk (st := st_World__site) l11 c11 k11
  have b11 := F11.binds (ps := ["self", "number"]) fun _ _ _ _ _ _ us hl => match us, hl with | [_, _], _ => rfl
  have F12 : FunD K "make" "World.make" (defArgs st_World_make) (defBody st_World_make) (defScope st_World_make) [] ([("size", .int (0)), ("mark", .int (0))] : List (Str × V)) f12 _ := ⟨⟨_, _, _, _, _, _, _, _, _, _, rfl, l12, c12, .inl ⟨rfl, rfl⟩, .inr ⟨kD12, rfl, fun q hq => by
    simp only [List.mem_cons, List.not_mem_nil, or_false] at hq
    rcases hq with hq | hq
    · cases hq; exact ⟨_, w12_0, _, rfl⟩
    · cases hq; exact ⟨_, w12_1, _, rfl⟩⟩⟩, k12⟩
  have F13 := fun_mk (st := st_World_assign) l13 c13 k13
  have b13 := F13.binds (ps := ["self", "site", "source", "target"]) fun _ _ _ _ _ _ us hl => match us, hl with | [_, _, _, _], _ => rfl
  have F14 := fun_mk (st := st_World_reset) l14 c14 k14
  have b14 := F14.binds (ps := ["self", "site", "variable"]) fun _ _ _ _ _ _ us hl => match us, hl with | [_, _, _], _ => rfl
  have F15 := fun_mk (st := st_World_look) l15 c15 k15
  have b15 := F15.binds (ps := ["self", "site", "variable"]) fun _ _ _ _ _ _ us hl => match us, hl with | [_, _, _], _ => rfl
  have F16 := fun_mk (st := st_World_variables) l16 c16 k16
  have b16 := F16.binds (ps := ["self", "site"]) fun _ _ _ _ _ _ us hl => match us, hl with | [_, _], _ => rfl
  have F17 := fun_mk (st := st_World_inbox) l17 c17 k17
  have b17 := F17.binds (ps := ["self", "site"]) fun _ _ _ _ _ _ us hl => match us, hl with | [_, _], _ => rfl
  have F18 := fun_mk (st := st_World_objects) l18 c18 k18
  have b18 := F18.binds (ps := ["self", "site"]) fun _ _ _ _ _ _ us hl => match us, hl with | [_, _], _ => rfl
  have F19 := fun_mk (st := st_World_fields) l19 c19 k19
  have b19 := F19.binds (ps := ["self", "site", "number"]) fun _ _ _ _ _ _ us hl => match us, hl with | [_, _, _], _ => rfl
  have F20 := fun_mk (st := st_law_is_integer) l20 c20 k20
  have b20 := F20.binds (ps := ["_law_actual"]) fun _ _ _ _ _ _ us hl => match us, hl with | [_], _ => rfl
  have F21 := fun_mk (st := st_law_number) l21 c21 k21
  have b21 := F21.binds (ps := ["_law_cell_here", "_law_k"]) fun _ _ _ _ _ _ us hl => match us, hl with | [_, _], _ => rfl
  have F22 := fun_mk (st := st_law_cell) l22 c22 k22
  have b22 := F22.binds (ps := ["_law_script", "_law_k"]) fun _ _ _ _ _ _ us hl => match us, hl with | [_, _], _ => rfl
  have F23 := fun_mk (st := st_law_makes) l23 c23 k23
  have b23 := F23.binds (ps := ["_law_world", "_law_site", "_law_variable", "_law_part", "_law_made"]) fun _ _ _ _ _ _ us hl => match us, hl with | [_, _, _, _, _], _ => rfl
  have F24 := fun_mk (st := st_law_looks) l24 c24 k24
  have b24 := F24.binds (ps := ["_law_world", "_law_site", "_law_variable", "_law_contents", "_law_made"]) fun _ _ _ _ _ _ us hl => match us, hl with | [_, _, _, _, _], _ => rfl
  have F25 := fun_mk (st := st_law_holds) l25 c25 k25
  have b25 := F25.binds (ps := ["_law_world", "_law_site", "_law_contents"]) fun _ _ _ _ _ _ us hl => match us, hl with | [_, _, _], _ => rfl
  have F26 := fun_mk (st := st_law_ends_well) l26 c26 k26
  have b26 := F26.binds (ps := ["_law_world", "_law_sites", "_law_contents", "_law_made"]) fun _ _ _ _ _ _ us hl => match us, hl with | [_, _, _, _], _ => rfl
  have F27 := fun_mk (st := st_law) l27 c27 k27
  have b27 := F27.binds (ps := ["_law_script"]) fun _ _ _ _ _ _ us hl => match us, hl with | [_], _ => rfl
  have clC0 : Cls K C0 := ⟨pgC0, hdC0, poC0, saC0⟩
  have clC1 : Cls K C1 := ⟨pgC1, hdC1, poC1, saC1⟩
  have clC2 : Cls K C2 := ⟨pgC2, hdC2, poC2, saC2⟩
  have clC3 : Cls K C3 := ⟨pgC3, hdC3, poC3, saC3⟩
  have clC4 : Cls K C4 := ⟨pgC4, hdC4, poC4, saC4⟩
  have clC5 : Cls K C5 := ⟨pgC5, hdC5, poC5, saC5⟩
  have hp : ∀ C f sp, (gl C0 C1 C2 C3 C4 C5 E0 E1 E2).prop C f = some sp → (tb.tab.prop f).isSome = true := by
    intro C f sp e
    have e1 := pick_mem e
    simp only [List.mem_cons, List.not_mem_nil, or_false] at e1
    try exact e1.elim
  refine ⟨PySem.W.fnOf "law" "law" (defArgs st_law) (defBody st_law) (defScope st_law) .none kV27 dc27 pm27 an27 cd27 ct27, fun s v => .of_eq rfl, fun base B1 B2 => ?_⟩
  have g : ∀ k, GOk (gl C0 C1 C2 C3 C4 C5 E0 E1 E2) tb.tab k l.prog w K mg base := by
    refine gok_of ?_ ?_ ?_ ?_ ?_ ?_ ?_ ?_ ?_ ?_ ?_ ?_ ?_
    · intro x lv n e
      have e1 := lookup_all e
      simp only [tb] at e1
      simp only [List.mem_cons, List.not_mem_nil, or_false] at e1
      rcases e1 with e1 | e1 | e1 | e1 | e1 | e1 | e1 | e1 | e1 | e1 | e1
      · cases e1; exact ⟨_, _, rfl, PySem.W.mg_of X N a7, k7, by decide, fun g => fn_at (ps := ["variable"]) F7 sc_check_variable b7 g hp ok_check_variable (by apply (k_check (x := ⟨E0, E1, E2, E0⟩)) <;> walk_at "side")⟩
      · cases e1; exact ⟨_, _, rfl, PySem.W.mg_of X N a8, k8, by decide, fun g => fn_at (ps := ["site", "variable"]) F8 sc_held_reference b8 g hp ok_held_reference (by apply (k_held (c := ⟨C0, C1, C2, C3, C4, C5⟩) (x := ⟨E0, E1, E2, E0⟩)) <;> walk_at "side")⟩
      · cases e1; exact ⟨_, _, rfl, PySem.W.mg_of X N a9, k9, by decide, fun g => fn_at (ps := ["site", "variable"]) F9 sc_near_number b9 g hp ok_near_number (by apply (k_nearnum (c := ⟨C0, C1, C2, C3, C4, C5⟩) (x := ⟨E0, E1, E2, E0⟩)) <;> walk_at "side")⟩
      · cases e1; exact ⟨_, _, rfl, PySem.W.mg_of X N a20, k20, by decide, fun g => fn_at (ps := ["_law_actual"]) F20 sc_law_is_integer b20 g hp ok_law_is_integer (by apply k_int <;> walk_at "side")⟩
      · cases e1; exact ⟨_, _, rfl, PySem.W.mg_of X N a21, k21, by decide, fun g => fn_at (ps := ["_law_cell_here", "_law_k"]) F21 sc_law_number b21 g hp ok_law_number (by apply k_num <;> walk_at "side")⟩
      · cases e1; exact ⟨_, _, rfl, PySem.W.mg_of X N a22, k22, by decide, fun g => fn_at (ps := ["_law_script", "_law_k"]) F22 sc_law_cell b22 g hp ok_law_cell (by apply k_cell <;> walk_at "side")⟩
      · cases e1; exact ⟨_, _, rfl, PySem.W.mg_of X N a23, k23, by decide, fun g => fn_at (ps := ["_law_world", "_law_site", "_law_variable", "_law_part", "_law_made"]) F23 sc_law_makes b23 g hp ok_law_makes (by apply (k_makes (c := ⟨C0, C1, C2, C3, C4, C5⟩)) <;> walk_at "side")⟩
      · cases e1; exact ⟨_, _, rfl, PySem.W.mg_of X N a24, k24, by decide, fun g => fn_at (ps := ["_law_world", "_law_site", "_law_variable", "_law_contents", "_law_made"]) F24 sc_law_looks b24 g hp ok_law_looks (by apply (k_looks (c := ⟨C0, C1, C2, C3, C4, C5⟩) (x := ⟨E0, E1, E2, E0⟩)) <;> walk_at "side")⟩
      · cases e1; exact ⟨_, _, rfl, PySem.W.mg_of X N a25, k25, by decide, fun g => fn_at (ps := ["_law_world", "_law_site", "_law_contents"]) F25 sc_law_holds b25 g hp ok_law_holds (by apply (k_holds (c := ⟨C0, C1, C2, C3, C4, C5⟩)) <;> walk_at "side")⟩
      · cases e1; exact ⟨_, _, rfl, PySem.W.mg_of X N a26, k26, by decide, fun g => fn_at (ps := ["_law_world", "_law_sites", "_law_contents", "_law_made"]) F26 sc_law_ends_well b26 g hp ok_law_ends_well (by apply (k_ends (c := ⟨C0, C1, C2, C3, C4, C5⟩) (x := ⟨E0, E1, E2, E0⟩)) <;> walk_at "side")⟩
      · cases e1; exact ⟨_, _, rfl, PySem.W.mg_of X N a27, k27, by decide, fun g => fn_at (ps := ["_law_script"]) F27 sc_law b27 g hp ok_law (by apply (k_law (c := ⟨C0, C1, C2, C3, C4, C5⟩)) <;> walk_at "side")⟩
    · intro x lv n e
      have e1 := lookup_all e
      simp only [tb] at e1
      simp only [List.mem_cons, List.not_mem_nil, or_false] at e1
      rcases e1 with e1 | e1 | e1 | e1 | e1 | e1
      · cases e1; exact ⟨_, _, _, rfl, PySem.W.mg_of X N aC0, ⟨mkC0, a0, i0, kcC0⟩, by decide, fun g => fn_at (ps := ["self"]) F0 sc_Outgoing_init b0 g hp ok_Outgoing_init (by apply (k_outi (c := ⟨C0, C1, C2, C3, C4, C5⟩)) <;> walk_at "side")⟩
      · cases e1; exact ⟨_, _, _, rfl, PySem.W.mg_of X N aC1, ⟨mkC1, a1, i1, kcC1⟩, by decide, fun g => fn_at (ps := ["self"]) F1 sc_Incoming_init b1 g hp ok_Incoming_init (by apply (k_inci (c := ⟨C0, C1, C2, C3, C4, C5⟩)) <;> walk_at "side")⟩
      · cases e1; exact ⟨_, _, _, rfl, PySem.W.mg_of X N aC2, ⟨mkC2, a2, i2, kcC2⟩, by decide, fun g => fn_at (ps := ["self"]) F2 sc_Network_init b2 g hp ok_Network_init (by apply (k_neti (c := ⟨C0, C1, C2, C3, C4, C5⟩)) <;> walk_at "side")⟩
      · cases e1; exact ⟨_, _, _, rfl, PySem.W.mg_of X N aC3, ⟨mkC3, a3, i3, kcC3⟩, by decide, fun g => fn_at (ps := ["self", "number", "sites"]) F3 sc_Site_init b3 g hp ok_Site_init (by apply (k_sitei (c := ⟨C0, C1, C2, C3, C4, C5⟩) ⟨fun f hf => by simp only [List.mem_cons, List.not_mem_nil, or_false] at hf; rcases hf with rfl | rfl | rfl | rfl | rfl | rfl | rfl | rfl | rfl | rfl | rfl | rfl | rfl | rfl | rfl | rfl | rfl | rfl | rfl | rfl | rfl <;> walk_at "side"⟩) <;> walk_at "side")⟩
      · cases e1; exact ⟨_, _, _, rfl, PySem.W.mg_of X N aC4, ⟨mkC4, a6, i6, kcC4⟩, by decide, fun g => fn_at (ps := ["self", "others"]) F6 sc_Waves_init b6 g hp ok_Waves_init (by apply (k_wavi (c := ⟨C0, C1, C2, C3, C4, C5⟩)) <;> walk_at "side")⟩
      · cases e1; exact ⟨_, _, _, rfl, PySem.W.mg_of X N aC5, ⟨mkC5, a10, i10, kcC5⟩, by decide, fun g => fn_at (ps := ["self", "sites"]) F10 sc_World_init b10 g hp ok_World_init (by apply (k_worldi (c := ⟨C0, C1, C2, C3, C4, C5⟩)) <;> walk_at "side")⟩
    · intro C m sp lv n e e2
      have e1 := pick_mem e
      simp only [List.mem_cons, List.not_mem_nil, or_false] at e1
      rcases e1 with e1 | e1 | e1 | e1 | e1 | e1 | e1 | e1 | e1 | e1 | e1
      · cases e1; cases (show some _ = some _ from e2); exact ⟨_, 1, by decide, clC3, ⟨a4, i4, k4⟩, by decide, fun g => fn_at (ps := ["self", "reference"]) F4 sc_Site_is_near b4 g hp ok_Site_is_near (by apply (k_near (c := ⟨C0, C1, C2, C3, C4, C5⟩)) <;> walk_at "side")⟩
      · cases e1; cases (show some _ = some _ from e2); exact ⟨_, 1, by decide, clC3, ⟨a5, i5, k5⟩, by decide, fun g => fn_at (ps := ["self", "size", "mark"]) F5 sc_Site_create b5 g hp ok_Site_create (by apply (k_create (c := ⟨C0, C1, C2, C3, C4, C5⟩)) <;> walk_at "side")⟩
      · cases e1; cases (show some _ = some _ from e2); exact ⟨_, 1, by decide, clC5, ⟨a11, i11, k11⟩, by decide, fun g => fn_at (ps := ["self", "number"]) F11 sc_World__site b11 g hp ok_World__site (by apply (k_site (c := ⟨C0, C1, C2, C3, C4, C5⟩) (x := ⟨E0, E1, E2, E0⟩)) <;> walk_at "side")⟩
      · cases e1; cases (show none = some _ from e2)
      · cases e1; cases (show some _ = some _ from e2); exact ⟨_, 2, by decide, clC5, ⟨a13, i13, k13⟩, by decide, fun g => fn_at (ps := ["self", "site", "source", "target"]) F13 sc_World_assign b13 g hp ok_World_assign (by apply (k_assign (c := ⟨C0, C1, C2, C3, C4, C5⟩) (x := ⟨E0, E1, E2, E0⟩) ⟨by walk_at "side", by walk_at "side", by walk_at "side", by walk_at "side"⟩) <;> walk_at "side")⟩
      · cases e1; cases (show some _ = some _ from e2); exact ⟨_, 2, by decide, clC5, ⟨a14, i14, k14⟩, by decide, fun g => fn_at (ps := ["self", "site", "variable"]) F14 sc_World_reset b14 g hp ok_World_reset (by apply (k_reset (c := ⟨C0, C1, C2, C3, C4, C5⟩) (x := ⟨E0, E1, E2, E0⟩) ⟨by walk_at "side", by walk_at "side", by walk_at "side", by walk_at "side"⟩) <;> walk_at "side")⟩
      · cases e1; cases (show some _ = some _ from e2); exact ⟨_, 3, by decide, clC5, ⟨a15, i15, k15⟩, by decide, fun g => fn_at (ps := ["self", "site", "variable"]) F15 sc_World_look b15 g hp ok_World_look (by apply (k_look (c := ⟨C0, C1, C2, C3, C4, C5⟩) (x := ⟨E0, E1, E2, E0⟩) ⟨by walk_at "side", by walk_at "side", by walk_at "side", by walk_at "side"⟩) <;> walk_at "side")⟩
      · cases e1; cases (show some _ = some _ from e2); exact ⟨_, 2, by decide, clC5, ⟨a16, i16, k16⟩, by decide, fun g => fn_at (ps := ["self", "site"]) F16 sc_World_variables b16 g hp ok_World_variables (by apply (k_vars (c := ⟨C0, C1, C2, C3, C4, C5⟩) (x := ⟨E0, E1, E2, E0⟩) ⟨by walk_at "side", by walk_at "side", by walk_at "side", by walk_at "side"⟩) <;> walk_at "side")⟩
      · cases e1; cases (show some _ = some _ from e2); exact ⟨_, 2, by decide, clC5, ⟨a17, i17, k17⟩, by decide, fun g => fn_at (ps := ["self", "site"]) F17 sc_World_inbox b17 g hp ok_World_inbox (by apply (k_inbox (c := ⟨C0, C1, C2, C3, C4, C5⟩) (x := ⟨E0, E1, E2, E0⟩) ⟨by walk_at "side", by walk_at "side", by walk_at "side", by walk_at "side"⟩) <;> walk_at "side")⟩
      · cases e1; cases (show some _ = some _ from e2); exact ⟨_, 2, by decide, clC5, ⟨a18, i18, k18⟩, by decide, fun g => fn_at (ps := ["self", "site"]) F18 sc_World_objects b18 g hp ok_World_objects (by apply (k_objects (c := ⟨C0, C1, C2, C3, C4, C5⟩) (x := ⟨E0, E1, E2, E0⟩) ⟨by walk_at "side", by walk_at "side", by walk_at "side", by walk_at "side"⟩) <;> walk_at "side")⟩
      · cases e1; cases (show some _ = some _ from e2); exact ⟨_, 2, by decide, clC5, ⟨a19, i19, k19⟩, by decide, fun g => fn_at (ps := ["self", "site", "number"]) F19 sc_World_fields b19 g hp ok_World_fields (by apply (k_fields (c := ⟨C0, C1, C2, C3, C4, C5⟩) (x := ⟨E0, E1, E2, E0⟩) ⟨by walk_at "side", by walk_at "side", by walk_at "side", by walk_at "side"⟩) <;> walk_at "side")⟩
    · intro C m sp lv e e2
      have e1 := pick_mem e
      simp only [List.mem_cons, List.not_mem_nil, or_false] at e1
      try exact e1.elim
    · intro C m e
      obtain ⟨u, e⟩ := Option.isSome_iff_exists.mp e
      have e1 := pick_mem e
      simp only [List.mem_cons, List.not_mem_nil, or_false] at e1
      rcases e1 with e1 | e1 | e1 | e1 | e1 | e1 | e1 | e1 | e1 | e1 | e1 | e1 | e1 | e1 | e1 | e1 | e1 | e1 | e1 | e1 | e1 | e1 | e1 | e1 | e1 | e1 | e1 | e1 | e1 | e1 | e1 | e1
      · cases e1; exact ⟨clC0, nC0_0⟩
      · cases e1; exact ⟨clC0, nC0_1⟩
      · cases e1; exact ⟨clC1, nC1_0⟩
      · cases e1; exact ⟨clC2, nC2_0⟩
      · cases e1; exact ⟨clC3, nC3_0⟩
      · cases e1; exact ⟨clC3, nC3_1⟩
      · cases e1; exact ⟨clC3, nC3_2⟩
      · cases e1; exact ⟨clC3, nC3_3⟩
      · cases e1; exact ⟨clC3, nC3_4⟩
      · cases e1; exact ⟨clC3, nC3_5⟩
      · cases e1; exact ⟨clC3, nC3_6⟩
      · cases e1; exact ⟨clC3, nC3_7⟩
      · cases e1; exact ⟨clC3, nC3_8⟩
      · cases e1; exact ⟨clC3, nC3_9⟩
      · cases e1; exact ⟨clC3, nC3_10⟩
      · cases e1; exact ⟨clC3, nC3_11⟩
      · cases e1; exact ⟨clC3, nC3_12⟩
      · cases e1; exact ⟨clC3, nC3_13⟩
      · cases e1; exact ⟨clC3, nC3_14⟩
      · cases e1; exact ⟨clC3, nC3_15⟩
      · cases e1; exact ⟨clC3, nC3_16⟩
      · cases e1; exact ⟨clC3, nC3_17⟩
      · cases e1; exact ⟨clC3, nC3_18⟩
      · cases e1; exact ⟨clC3, nC3_19⟩
      · cases e1; exact ⟨clC3, nC3_20⟩
      · cases e1; exact ⟨clC4, nC4_0⟩
      · cases e1; exact ⟨clC4, nC4_1⟩
      · cases e1; exact ⟨clC4, nC4_2⟩
      · cases e1; exact ⟨clC4, nC4_3⟩
      · cases e1; exact ⟨clC5, nC5_0⟩
      · cases e1; exact ⟨clC5, nC5_1⟩
      · cases e1; exact ⟨clC5, nC5_2⟩
    · intro x v e
      have e1 := lookup_all e
      simp only [List.mem_cons, List.not_mem_nil, or_false] at e1
      rcases e1 with e1
      · cases e1; exact ⟨_, .int (8), PySem.W.mg_of X N v0, ⟨_, rfl⟩, fun _ => rfl⟩
    · intro x e
      have e1 : x ∈ (["ValueError", "bool", "enumerate", "int", "isinstance", "len", "list", "max", "min", "range", "sorted", "tuple"] : List Str) := by
        obtain ⟨y, h1, h2⟩ := List.any_eq_true.mp e
        rw [← of_decide_eq_true h2]
        exact h1
      simp only [List.mem_cons, List.not_mem_nil, or_false] at e1
      rcases e1 with e1 | e1 | e1 | e1 | e1 | e1 | e1 | e1 | e1 | e1 | e1 | e1
      · cases e1; exact PySem.W.mg_none_of X N z0
      · cases e1; exact PySem.W.mg_none_of X N z1
      · cases e1; exact PySem.W.mg_none_of X N z2
      · cases e1; exact PySem.W.mg_none_of X N z3
      · cases e1; exact PySem.W.mg_none_of X N z4
      · cases e1; exact PySem.W.mg_none_of X N z5
      · cases e1; exact PySem.W.mg_none_of X N z6
      · cases e1; exact PySem.W.mg_none_of X N z7
      · cases e1; exact PySem.W.mg_none_of X N z8
      · cases e1; exact PySem.W.mg_none_of X N z9
      · cases e1; exact PySem.W.mg_none_of X N z10
      · cases e1; exact PySem.W.mg_none_of X N z11
    · intro x C e
      have e1 := lookup_all e
      simp only [List.mem_cons, List.not_mem_nil, or_false] at e1
      rcases e1 with e1 | e1 | e1
      · cases e1; exact ⟨PySem.W.mg_of X N aE0, exE0, ekE0, esE0, etE0, etE0⟩
      · cases e1; exact ⟨PySem.W.mg_of X N aE1, exE1, ekE1, esE1, etE1, etE1⟩
      · cases e1; exact ⟨PySem.W.mg_of X N aE2, exE2, ekE2, esE2, etE2, etE2⟩
    · intro C x b e
      have e1 := pick_mem e
      simp only [List.mem_cons, List.not_mem_nil, or_false] at e1
      rcases e1 with e1 | e1 | e1 | e1 | e1 | e1 | e1 | e1 | e1
      · cases e1; exact ⟨⟨.ref E1, .ref E1, .inl (PySem.W.mg_of X N aE1), PySem.W.exm_ref esE1 cdE1 etE1 xsE0_0, kit_ownF neE0E1 cdE1 etE1 xsE0_0, rfl, fun u h => h⟩, ⟨cgE0, ckE0, esE0, cdE0, ccE0, cn, ct, cmE0⟩⟩
      · cases e1; exact ⟨⟨.ref X0, .ref X0, .inl (PySem.W.mg_of X N aX0), PySem.W.exm_ref esX0 cdX0 etX0 xsE0_1, kit_ownT cdX0 etX0 xsE0_1, rfl, fun u h => h⟩, ⟨cgE0, ckE0, esE0, cdE0, ccE0, cn, ct, cmE0⟩⟩
      · cases e1; exact ⟨⟨.ref E0, .ref E0, .inl (PySem.W.mg_of X N aE0), PySem.W.exm_ref esE0 cdE0 etE0 xsE0_2, kit_ownT cdE0 etE0 xsE0_2, rfl, fun u h => h⟩, ⟨cgE0, ckE0, esE0, cdE0, ccE0, cn, ct, cmE0⟩⟩
      · cases e1; exact ⟨⟨.ref E1, .ref E1, .inl (PySem.W.mg_of X N aE1), PySem.W.exm_ref esE1 cdE1 etE1 xsE1_0, kit_ownT cdE1 etE1 xsE1_0, rfl, fun u h => h⟩, ⟨cgE1, ckE1, esE1, cdE1, ccE1, cn, ct, cmE1⟩⟩
      · cases e1; exact ⟨⟨.ref X0, .ref X0, .inl (PySem.W.mg_of X N aX0), PySem.W.exm_ref esX0 cdX0 etX0 xsE1_1, kit_ownT cdX0 etX0 xsE1_1, rfl, fun u h => h⟩, ⟨cgE1, ckE1, esE1, cdE1, ccE1, cn, ct, cmE1⟩⟩
      · cases e1; exact ⟨⟨.ref E0, .ref E0, .inl (PySem.W.mg_of X N aE0), PySem.W.exm_ref esE0 cdE0 etE0 xsE1_2, kit_ownF neE1E0 cdE0 etE0 xsE1_2, rfl, fun u h => h⟩, ⟨cgE1, ckE1, esE1, cdE1, ccE1, cn, ct, cmE1⟩⟩
      · cases e1; exact ⟨⟨.ref E1, .ref E1, .inl (PySem.W.mg_of X N aE1), PySem.W.exm_ref esE1 cdE1 etE1 xsE2_0, kit_ownF neE2E1 cdE1 etE1 xsE2_0, rfl, fun u h => h⟩, ⟨cgE2, ckE2, esE2, cdE2, ccE2, cn, ct, cmE2⟩⟩
      · cases e1; exact ⟨⟨.ref X0, .ref X0, .inl (PySem.W.mg_of X N aX0), PySem.W.exm_ref esX0 cdX0 etX0 xsE2_1, kit_ownT cdX0 etX0 xsE2_1, rfl, fun u h => h⟩, ⟨cgE2, ckE2, esE2, cdE2, ccE2, cn, ct, cmE2⟩⟩
      · cases e1; exact ⟨⟨.ref E0, .ref E0, .inl (PySem.W.mg_of X N aE0), PySem.W.exm_ref esE0 cdE0 etE0 xsE2_2, kit_ownF neE2E0 cdE0 etE0 xsE2_2, rfl, fun u h => h⟩, ⟨cgE2, ckE2, esE2, cdE2, ccE2, cn, ct, cmE2⟩⟩
    · intro x e
      have e1 : x ∈ (["Empty"] : List Str) := by
        obtain ⟨y, h1, h2⟩ := List.any_eq_true.mp e
        rw [← of_decide_eq_true h2]
        exact h1
      simp only [List.mem_cons, List.not_mem_nil, or_false] at e1
      rcases e1 with e1
      · cases e1; exact ⟨_, PySem.W.mg_of X N aE1⟩
    · intro C m sp lv n kd kss e e2
      have e3 := lookup_all e2
      simp only [tb] at e3
      simp only [List.mem_cons, List.not_mem_nil, or_false] at e3
      cases e3
      have e1 := pick_mem e
      simp only [List.mem_cons, List.not_mem_nil, or_false] at e1
      rcases e1 with e1 | e1 | e1 | e1 | e1 | e1 | e1 | e1 | e1 | e1 | e1
      · exact absurd (cast (ofS_eq _ _) (congrArg (fun t => t.2.1) e1)) (by decide)
      · exact absurd (cast (ofS_eq _ _) (congrArg (fun t => t.2.1) e1)) (by decide)
      · exact absurd (cast (ofS_eq _ _) (congrArg (fun t => t.2.1) e1)) (by decide)
      · cases e1; refine ⟨_, clC5, ⟨a12, i12, k12⟩, by decide, fun g => ⟨_, ["self", "site", "variable", "size", "mark"], fn_okD F12 sc_World_make g hp ok_World_make (by apply (k_make (c := ⟨C0, C1, C2, C3, C4, C5⟩) (x := ⟨E0, E1, E2, E0⟩) ⟨by walk_at "side", by walk_at "side", by walk_at "side", by walk_at "side"⟩) <;> walk_at "side"), fun ks hks => ?_⟩⟩
        simp only [List.mem_cons, List.not_mem_nil, or_false] at hks
        rcases hks with hks | hks | hks | hks
        · cases hks
          obtain ⟨mv, B⟩ := FunD.kbinds0 (ps := ["self", "site", "variable", "size", "mark"]) F12 3 ([] : List Str) ([("size", .int (0)), ("mark", .int (0))] : List (Str × V)) (fun us mv ws => us ++ mv) (by decide) (by decide) (fun r1 r2 r3 => r1.append r2) (fun D doc pm an cdv ct us mv ws h1 h2 h3 => match us, h1, mv, h2, ws, h3 with | [u0, u1, u2], _, [m0, m1], _, [], _ => ⟨_, _, _, _, _, _, rfl, rfl, ⟨_, _, _, _, _, _, rfl, rfl, rfl⟩⟩)
          exact ⟨_, _, B, fun vs zs hl => match zs, hl with | [], _ => by first | rfl | simp [fillV, List.lookup, ofS_beq]⟩
        · cases hks
          obtain ⟨mv, B⟩ := FunD.kbinds0 (ps := ["self", "site", "variable", "size", "mark"]) F12 3 (["size"] : List Str) ([("mark", .int (0))] : List (Str × V)) (fun us mv ws => us ++ (ws ++ mv)) (by decide) (by decide) (fun r1 r2 r3 => r1.append (r3.append r2)) (fun D doc pm an cdv ct us mv ws h1 h2 h3 => match us, h1, mv, h2, ws, h3 with | [u0, u1, u2], _, [m0], _, [w0], _ => ⟨_, _, _, _, _, _, rfl, rfl, rfl⟩)
          exact ⟨_, _, B, fun vs zs hl => match zs, hl with | [z0], _ => by first | rfl | simp [fillV, List.lookup, ofS_beq]⟩
        · cases hks
          obtain ⟨mv, B⟩ := FunD.kbinds0 (ps := ["self", "site", "variable", "size", "mark"]) F12 3 (["mark"] : List Str) ([("size", .int (0))] : List (Str × V)) (fun us mv ws => us ++ (mv ++ ws)) (by decide) (by decide) (fun r1 r2 r3 => r1.append (r2.append r3)) (fun D doc pm an cdv ct us mv ws h1 h2 h3 => match us, h1, mv, h2, ws, h3 with | [u0, u1, u2], _, [m0], _, [w0], _ => ⟨_, _, _, _, _, _, rfl, rfl, rfl⟩)
          exact ⟨_, _, B, fun vs zs hl => match zs, hl with | [z0], _ => by first | rfl | simp [fillV, List.lookup, ofS_beq]⟩
        · cases hks
          obtain ⟨mv, B⟩ := FunD.kbinds0 (ps := ["self", "site", "variable", "size", "mark"]) F12 3 (["size", "mark"] : List Str) ([] : List (Str × V)) (fun us mv ws => us ++ ws) (by decide) (by decide) (fun r1 r2 r3 => r1.append r3) (fun D doc pm an cdv ct us mv ws h1 h2 h3 => match us, h1, mv, h2, ws, h3 with | [u0, u1, u2], _, [], _, [w0, w1], _ => rfl)
          exact ⟨_, _, B, fun vs zs hl => match zs, hl with | [z0, z1], _ => by first | rfl | simp [fillV, List.lookup, ofS_beq]⟩
      · exact absurd (cast (ofS_eq _ _) (congrArg (fun t => t.2.1) e1)) (by decide)
      · exact absurd (cast (ofS_eq _ _) (congrArg (fun t => t.2.1) e1)) (by decide)
      · exact absurd (cast (ofS_eq _ _) (congrArg (fun t => t.2.1) e1)) (by decide)
      · exact absurd (cast (ofS_eq _ _) (congrArg (fun t => t.2.1) e1)) (by decide)
      · exact absurd (cast (ofS_eq _ _) (congrArg (fun t => t.2.1) e1)) (by decide)
      · exact absurd (cast (ofS_eq _ _) (congrArg (fun t => t.2.1) e1)) (by decide)
      · exact absurd (cast (ofS_eq _ _) (congrArg (fun t => t.2.1) e1)) (by decide)
    · intro f sp lv n e e2
      exact nomatch e2
    · intro x t e
      exact nomatch e
  exact fn_ok (ps := ["_law_script"]) F27 sc_law (g 6) hp ok_law (by apply (k_law (c := ⟨C0, C1, C2, C3, C4, C5⟩)) <;> walk_at "side")
end K08
theorem PySem.W.Fast.tw1573506212875078089 : True := trivial
theorem PySem.W.Fast.tw10033935694827525685 : True := trivial
theorem PySem.W.Fast.tw10523003223204143016 : True := trivial
theorem PySem.W.Fast.tw17566326407323951140 : True := trivial
theorem PySem.W.Fast.tw14297513000801577192 : True := trivial
theorem PySem.W.Fast.tw13971900215657292477 : True := trivial
theorem PySem.W.Fast.tw2978319382396841866 : True := trivial
theorem PySem.W.Fast.tw2708430500956792998 : True := trivial
theorem PySem.W.Fast.tw16111052947939730844 : True := trivial
theorem PySem.W.Fast.tw7357127886906937881 : True := trivial
theorem PySem.W.Fast.tw2079530770966930318 : True := trivial
theorem PySem.W.Fast.tw16987997005863444735 : True := trivial
theorem PySem.W.Fast.tw17223095840530105853 : True := trivial
theorem PySem.W.Fast.tw2548254371280966638 : True := trivial
theorem PySem.W.Fast.tw12633580610258249020 : True := trivial
theorem PySem.W.Fast.tw16031251826006876533 : True := trivial
theorem PySem.W.Fast.tw10396989644319470097 : True := trivial
theorem PySem.W.Fast.tw10345827553014966051 : True := trivial
theorem PySem.W.Fast.tw5899536290041276223 : True := trivial
theorem PySem.W.Fast.tw11881501916090080580 : True := trivial
theorem PySem.W.Fast.tw9695746085163957558 : True := trivial
theorem PySem.W.Fast.tw4295414182614106029 : True := trivial
theorem PySem.W.Fast.tw14662252192299600568 : True := trivial
theorem PySem.W.Fast.tw6389040123495577840 : True := trivial
theorem PySem.W.Fast.tw6138537747756202899 : True := trivial
theorem PySem.W.Fast.tw8631464256288151188 : True := trivial
theorem PySem.W.Fast.tw13906221895669856655 : True := trivial
theorem PySem.W.Fast.tw15015549065558926994 : True := trivial
theorem PySem.W.Fast.tw213755082169097537 : True := trivial
theorem PySem.W.Fast.tw3661174362481256265 : True := trivial
theorem PySem.W.Fast.tw4006109980219707281 : True := trivial
theorem PySem.W.Fast.tw3867025425351494024 : True := trivial
theorem PySem.W.Fast.tw11629953327673701781 : True := trivial
theorem PySem.W.Fast.tw15759306542617176480 : True := trivial
theorem PySem.W.Fast.tw2079133512863503086 : True := trivial
theorem PySem.W.Fast.tw14990432185617257721 : True := trivial
theorem PySem.W.Fast.tw8463073983143963716 : True := trivial
theorem PySem.W.Fast.tw15263245065572264072 : True := trivial
theorem PySem.W.Fast.tw3674938183994080697 : True := trivial
theorem PySem.W.Fast.tw6581111999001612444 : True := trivial
theorem PySem.W.Fast.tw8886708410512183829 : True := trivial
theorem PySem.W.Fast.tw9202016366506027512 : True := trivial
theorem PySem.W.Fast.tw16929533979329819482 : True := trivial
theorem PySem.W.Fast.tw6299228116509111087 : True := trivial
theorem PySem.W.Fast.tw9404565787329482894 : True := trivial
theorem PySem.W.Fast.tw15134518411528927990 : True := trivial
theorem PySem.W.Fast.tw7964192013833592166 : True := trivial
theorem PySem.W.Fast.tw4641441818292891500 : True := trivial
theorem PySem.W.Fast.tw18239421203560493264 : True := trivial
theorem PySem.W.Fast.tw12414052173877211589 : True := trivial
theorem PySem.W.Fast.tw10129230318377887584 : True := trivial
theorem PySem.W.Fast.tw1964782541698062550 : True := trivial
theorem PySem.W.Fast.tw2540189080650924255 : True := trivial
theorem PySem.W.Fast.tw8601183814166748281 : True := trivial
theorem PySem.W.Fast.tw17997005826945116119 : True := trivial
theorem PySem.W.Fast.tw8497337078187725065 : True := trivial
theorem PySem.W.Fast.tw15916867699811884654 : True := trivial
theorem PySem.W.Fast.tw17369073504674638542 : True := trivial
theorem PySem.W.Fast.tw17731372993661325597 : True := trivial
theorem PySem.W.Fast.tw3692268054715841848 : True := trivial
theorem PySem.W.Fast.tw10608092792981052870 : True := trivial
theorem PySem.W.Fast.tw12185954208403006144 : True := trivial
theorem PySem.W.Fast.tw2654232763049901467 : True := trivial
theorem PySem.W.Fast.tw18232838305257377606 : True := trivial
theorem PySem.W.Fast.tw15757809201808245447 : True := trivial
theorem PySem.W.Fast.tw18036957119548305515 : True := trivial
theorem PySem.W.Fast.tw14488451726945896388 : True := trivial
theorem PySem.W.Fast.tw13249100941188401026 : True := trivial
theorem PySem.W.Fast.tw17470455780677719756 : True := trivial
theorem PySem.W.Fast.tw2026487758490064424 : True := trivial
theorem PySem.W.Fast.tw3258762469162855094 : True := trivial
theorem PySem.W.Fast.tw11838448539997102427 : True := trivial
theorem PySem.W.Fast.tw2487122654307280283 : True := trivial
theorem PySem.W.Fast.tw4891668781076145602 : True := trivial
theorem PySem.W.Fast.tw17620462847515414291 : True := trivial
theorem PySem.W.Fast.tw837536134211977162 : True := trivial
theorem PySem.W.Fast.tw15228718312477379234 : True := trivial
theorem PySem.W.Fast.tw12059657774537955485 : True := trivial
theorem PySem.W.Fast.tw13848696549754328104 : True := trivial
theorem PySem.W.Fast.tw1961368315450061 : True := trivial
theorem PySem.W.Fast.tw13836084686894209153 : True := trivial
theorem PySem.W.Fast.tw4338701909796193771 : True := trivial
theorem PySem.W.Fast.tw3592353678925255940 : True := trivial
theorem PySem.W.Fast.tw17412667983217508462 : True := trivial
theorem PySem.W.Fast.tw1393128090247261597 : True := trivial
theorem PySem.W.Fast.tw18263823165138688644 : True := trivial
theorem PySem.W.Fast.tw16723356524732809221 : True := trivial
theorem PySem.W.Fast.tw10376965044306322032 : True := trivial
theorem PySem.W.Fast.tw12322943217862754903 : True := trivial
theorem PySem.W.Fast.tw16863159310295537024 : True := trivial
theorem PySem.W.Fast.tw7778495216012756404 : True := trivial
theorem PySem.W.Fast.tw6235975207201784382 : True := trivial
theorem PySem.W.Fast.tw12665564648668019895 : True := trivial
theorem PySem.W.Fast.tw7860025000139308581 : True := trivial
theorem PySem.W.Fast.tw2955517767555735580 : True := trivial
theorem PySem.W.Fast.tw893022333399135968 : True := trivial
theorem PySem.W.Fast.tw16506465240369079403 : True := trivial
theorem PySem.W.Fast.tw15482209454654436510 : True := trivial
theorem PySem.W.Fast.tw8214722029737001520 : True := trivial
theorem PySem.W.Fast.tw14282480365603330518 : True := trivial
theorem PySem.W.Fast.tw14420485285455175761 : True := trivial
theorem PySem.W.Fast.tw14310149705416539683 : True := trivial
theorem PySem.W.Fast.tw989563069594229864 : True := trivial
theorem PySem.W.Fast.tw15139482980174115822 : True := trivial
theorem PySem.W.Fast.tw10782899549623719640 : True := trivial
theorem PySem.W.Fast.tw2807277614930599374 : True := trivial
theorem PySem.W.Fast.tw13097251039189066083 : True := trivial
theorem PySem.W.Fast.tw9335988542793428548 : True := trivial
theorem PySem.W.Fast.tw9756504326682382029 : True := trivial
theorem PySem.W.Fast.tw7671551203622298186 : True := trivial
theorem PySem.W.Fast.tw6260043660868662074 : True := trivial
theorem PySem.W.Fast.tw601080179723072354 : True := trivial
theorem PySem.W.Fast.tw5384302067674876443 : True := trivial
theorem PySem.W.Fast.tw8118522626115057181 : True := trivial
theorem PySem.W.Fast.tw4718642249384384197 : True := trivial
theorem PySem.W.Fast.tw13341966508436171158 : True := trivial
theorem PySem.W.Fast.tw10719004782117739178 : True := trivial
theorem PySem.W.Fast.tw788612431004018528 : True := trivial
theorem PySem.W.Fast.tw4422736079339325138 : True := trivial
theorem PySem.W.Fast.tw3777756314255697644 : True := trivial
theorem PySem.W.Fast.tw5775331798658063813 : True := trivial
theorem PySem.W.Fast.tw16830800001188916777 : True := trivial
theorem PySem.W.Fast.tw14290819605815190096 : True := trivial
theorem PySem.W.Fast.tw12437427301334446683 : True := trivial
theorem PySem.W.Fast.tw18041357720379656570 : True := trivial
theorem PySem.W.Fast.tw16682029445997051614 : True := trivial
theorem PySem.W.Fast.tw857292205478409947 : True := trivial
theorem PySem.W.Fast.tw4518842780581574518 : True := trivial
theorem PySem.W.Fast.tw3088860826627714087 : True := trivial
theorem PySem.W.Fast.tw14340123657003724716 : True := trivial
theorem PySem.W.Fast.tw8462654822268401693 : True := trivial
theorem PySem.W.Fast.tw14276554395655647844 : True := trivial
theorem PySem.W.Fast.tw13800067815687532917 : True := trivial
theorem PySem.W.Fast.tw6627175381491811009 : True := trivial
theorem PySem.W.Fast.tw3226900817883634469 : True := trivial
theorem PySem.W.Fast.tw1616331711981853269 : True := trivial
theorem PySem.W.Fast.tw9627820409693602812 : True := trivial
theorem PySem.W.Fast.tw3961327990040688098 : True := trivial
theorem PySem.W.Fast.tw11054470459925330711 : True := trivial
theorem PySem.W.Fast.tw14416129162798729728 : True := trivial
theorem PySem.W.Fast.tw2984093679150838816 : True := trivial
theorem PySem.W.Fast.tw17262374020898521662 : True := trivial
theorem PySem.W.Fast.tw12258379042884543030 : True := trivial
theorem PySem.W.Fast.tw12974914763965153743 : True := trivial
theorem PySem.W.Fast.tw14520232510418580209 : True := trivial
theorem PySem.W.Fast.tw8443737829310311048 : True := trivial
theorem PySem.W.Fast.tw9936602520398114231 : True := trivial
theorem PySem.W.Fast.tw14525723419438078171 : True := trivial
theorem PySem.W.Fast.tw5571387639395548786 : True := trivial
theorem PySem.W.Fast.tw15681258682822171164 : True := trivial
theorem PySem.W.Fast.tw887234618508886243 : True := trivial
theorem PySem.W.Fast.tw391270737298689513 : True := trivial
theorem PySem.W.Fast.tw16769994877213032338 : True := trivial
theorem PySem.W.Fast.tw1293313755638554431 : True := trivial
theorem PySem.W.Fast.tw1388617640764055116 : True := trivial
theorem PySem.W.Fast.tw15773830014583161881 : True := trivial
theorem PySem.W.Fast.tw13333722576009005226 : True := trivial
theorem PySem.W.Fast.tw6340818372231825344 : True := trivial
theorem PySem.W.Fast.tw9670254138934218868 : True := trivial
theorem PySem.W.Fast.tw17569107263902825133 : True := trivial
theorem PySem.W.Fast.tw13466488528149164869 : True := trivial
theorem PySem.W.Fast.tw11959069436380015581 : True := trivial
theorem PySem.W.Fast.tw12516793929104017523 : True := trivial
theorem PySem.W.Fast.tw2530949146326157391 : True := trivial
theorem PySem.W.Fast.tw13873946314203108762 : True := trivial
theorem PySem.W.Fast.tw17451134560384211796 : True := trivial
theorem PySem.W.Fast.tw8358095892731419902 : True := trivial
theorem PySem.W.Fast.tw18159181133093118406 : True := trivial
theorem PySem.W.Fast.tw12766031088544117907 : True := trivial
theorem PySem.W.Fast.tw2659924244325661492 : True := trivial
theorem PySem.W.Fast.tw17563699842602117867 : True := trivial
theorem PySem.W.Fast.tw5066459725150003067 : True := trivial
theorem PySem.W.Fast.tw480092472353260701 : True := trivial
theorem PySem.W.Fast.tw16431896942696024514 : True := trivial
theorem PySem.W.Fast.tw6910971249809229930 : True := trivial
theorem PySem.W.Fast.tw16556915571620149091 : True := trivial
theorem PySem.W.Fast.tw12543338225676246960 : True := trivial
theorem PySem.W.Fast.tw11677181590956589271 : True := trivial
theorem PySem.W.Fast.tw12601409375297083497 : True := trivial
theorem PySem.W.Fast.tw9827971564620836490 : True := trivial
theorem PySem.W.Fast.tw14748206337448754310 : True := trivial
theorem PySem.W.Fast.tw9570901904338871729 : True := trivial
theorem PySem.W.Fast.tw2814417435866896319 : True := trivial
theorem PySem.W.Fast.tw17106877612603361355 : True := trivial
theorem PySem.W.Fast.tw15389730423880315376 : True := trivial
theorem PySem.W.Fast.tw7172789838062332707 : True := trivial
theorem PySem.W.Fast.tw6613387036551192800 : True := trivial
theorem PySem.W.Fast.tw9736633941835549590 : True := trivial
theorem PySem.W.Fast.tw833117517964628191 : True := trivial
theorem PySem.W.Fast.tw13251648936683357040 : True := trivial
theorem PySem.W.Fast.tw7641791973249753889 : True := trivial
theorem PySem.W.Fast.tw861229254045931050 : True := trivial
theorem PySem.W.Fast.tw8278166778008449634 : True := trivial
theorem PySem.W.Fast.tw272445213304113054 : True := trivial
theorem PySem.W.Fast.tw5796534480013599011 : True := trivial
theorem PySem.W.Fast.tw7555266877973385452 : True := trivial
theorem PySem.W.Fast.tw10906454358089198920 : True := trivial
theorem PySem.W.Fast.tw8753868306005797270 : True := trivial
theorem PySem.W.Fast.tw5813553265499144850 : True := trivial
theorem PySem.W.Fast.tw16121475360246558510 : True := trivial
theorem PySem.W.Fast.tw2935101686295150750 : True := trivial
theorem PySem.W.Fast.tw7888127073705000186 : True := trivial
theorem PySem.W.Fast.tw16109271802239270029 : True := trivial
theorem PySem.W.Fast.tw10073618312512845369 : True := trivial
theorem PySem.W.Fast.tw16247504517638141016 : True := trivial
theorem PySem.W.Fast.tw6952742669694050795 : True := trivial
theorem PySem.W.Fast.tw17523753369873743514 : True := trivial
theorem PySem.W.Fast.tw13440461662623117830 : True := trivial
theorem PySem.W.Fast.tw10048060240886914335 : True := trivial
theorem PySem.W.Fast.tw10467766171308778584 : True := trivial
theorem PySem.W.Fast.tw10128835933503249539 : True := trivial
theorem PySem.W.Fast.tw15673611133307874706 : True := trivial
theorem PySem.W.Fast.tw14035651816255976748 : True := trivial
theorem PySem.W.Fast.tw1440404284569051607 : True := trivial
theorem PySem.W.Fast.tw16027923381767480022 : True := trivial
theorem PySem.W.Fast.tw1692579461243848026 : True := trivial
theorem PySem.W.Fast.tw5369436259947854347 : True := trivial
theorem PySem.W.Fast.tw9846447579325033713 : True := trivial
theorem PySem.W.Fast.tw8107613722770509374 : True := trivial
theorem PySem.W.Fast.tw18049775012432678620 : True := trivial
theorem PySem.W.Fast.tw1120061003461264164 : True := trivial
theorem PySem.W.Fast.tw17380003752244892220 : True := trivial
theorem PySem.W.Fast.tw12366835088418939612 : True := trivial
theorem PySem.W.Fast.tw8794549540695665647 : True := trivial
theorem PySem.W.Fast.tw14953410137821719453 : True := trivial
theorem PySem.W.Fast.tw6471850737414975603 : True := trivial
theorem PySem.W.Fast.tw1443534597603918708 : True := trivial
theorem PySem.W.Fast.tw10408553283080712286 : True := trivial
theorem PySem.W.Fast.tw9572227861875038245 : True := trivial
theorem PySem.W.Fast.tw9397329452996488343 : True := trivial
theorem PySem.W.Fast.tw4462651232212975487 : True := trivial
theorem PySem.W.Fast.tw6350535453693399198 : True := trivial
theorem PySem.W.Fast.tw18147232909964272885 : True := trivial
theorem PySem.W.Fast.tw13608909736248180349 : True := trivial
theorem PySem.W.Fast.tw1903794162531541965 : True := trivial
theorem PySem.W.Fast.tw12591276259532845866 : True := trivial
theorem PySem.W.Fast.tw3728968504765122967 : True := trivial
theorem PySem.W.Fast.tw16238655204705151871 : True := trivial
theorem PySem.W.Fast.tw10131259165775280925 : True := trivial
theorem PySem.W.Fast.tw4842383314936067633 : True := trivial
theorem PySem.W.Fast.tw17736162455480988587 : True := trivial
theorem PySem.W.Fast.tw11916570356233541020 : True := trivial
theorem PySem.W.Fast.tw8597582693703533307 : True := trivial
theorem PySem.W.Fast.tw8270137694510843456 : True := trivial
theorem PySem.W.Fast.tw11259516614341543872 : True := trivial
theorem PySem.W.Fast.tw14995664690327872188 : True := trivial
theorem PySem.W.Fast.tw4850961062014793723 : True := trivial
theorem PySem.W.Fast.tw17229850531254376341 : True := trivial
theorem PySem.W.Fast.tw6408696415694755233 : True := trivial
theorem PySem.W.Fast.tw15379978897688449423 : True := trivial
theorem PySem.W.Fast.tw214249253259305571 : True := trivial
theorem PySem.W.Fast.tw16797815735223814052 : True := trivial
theorem PySem.W.Fast.tw3872478313319191918 : True := trivial
theorem PySem.W.Fast.tw13378680864819205966 : True := trivial
theorem PySem.W.Fast.tw662278891936259880 : True := trivial
theorem PySem.W.Fast.tw11282803331039504838 : True := trivial
theorem PySem.W.Fast.tw16442520713894378082 : True := trivial
theorem PySem.W.Fast.tw10552590631398070953 : True := trivial
theorem PySem.W.Fast.tw617772641756506726 : True := trivial
theorem PySem.W.Fast.tw8006216046040779503 : True := trivial
theorem PySem.W.Fast.tw8181948952776779191 : True := trivial
theorem PySem.W.Fast.tw371128606372324003 : True := trivial
theorem PySem.W.Fast.tw8517740863569386982 : True := trivial
theorem PySem.W.Fast.tw9711362516030148815 : True := trivial
theorem PySem.W.Fast.tw11481159204425591951 : True := trivial
theorem PySem.W.Fast.tw18307628220962944499 : True := trivial
theorem PySem.W.Fast.tw13945978973583872199 : True := trivial
theorem PySem.W.Fast.tw9388053059723998033 : True := trivial
theorem PySem.W.Fast.tw15646693651317900383 : True := trivial
theorem PySem.W.Fast.tw2534659120378193357 : True := trivial
theorem PySem.W.Fast.tw17261937458606523858 : True := trivial
theorem PySem.W.Fast.tw14091822090650777632 : True := trivial
theorem PySem.W.Fast.tw11604434945407624884 : True := trivial
theorem PySem.W.Fast.tw18189982428704266031 : True := trivial
theorem PySem.W.Fast.tw12495554072180479483 : True := trivial
theorem PySem.W.Fast.tw1245405871214607363 : True := trivial
theorem PySem.W.Fast.tw8203168938025519234 : True := trivial
theorem PySem.W.Fast.tw13240274612891418961 : True := trivial
theorem PySem.W.Fast.tw17808788921528058479 : True := trivial
theorem PySem.W.Fast.tw9874391583616106071 : True := trivial
theorem PySem.W.Fast.tw3173989847709021070 : True := trivial
theorem PySem.W.Fast.tw11942806600326283077 : True := trivial
theorem PySem.W.Fast.tw15251015033073422997 : True := trivial
theorem PySem.W.Fast.tw13681906893622057854 : True := trivial
theorem PySem.W.Fast.tw9943526857722078439 : True := trivial
theorem PySem.W.Fast.tw5701546640046702037 : True := trivial
theorem PySem.W.Fast.tw7084375022364896318 : True := trivial
theorem PySem.W.Fast.tw1879953780898897737 : True := trivial
theorem PySem.W.Fast.tw2291776000987349965 : True := trivial
theorem PySem.W.Fast.tw8580019237657722618 : True := trivial
theorem PySem.W.Fast.tw11640907490997430996 : True := trivial
theorem PySem.W.Fast.tw13908939013756952438 : True := trivial
theorem PySem.W.Fast.tw1355281610727980494 : True := trivial
theorem PySem.W.Fast.tw7650621800094845195 : True := trivial
theorem PySem.W.Fast.tw11912312541008820217 : True := trivial
theorem PySem.W.Fast.tw14257578287509762427 : True := trivial
theorem PySem.W.Fast.tw8588290558193312 : True := trivial
theorem PySem.W.Fast.tw2028236595048949232 : True := trivial
theorem PySem.W.Fast.tw7422773029842032406 : True := trivial
theorem PySem.W.Fast.tw3095927059027794096 : True := trivial
theorem PySem.W.Fast.tw14926977756499565849 : True := trivial
theorem PySem.W.Fast.tw4733745176274856885 : True := trivial
theorem PySem.W.Fast.tw2789850432105997635 : True := trivial
theorem PySem.W.Fast.tw13514902747873905320 : True := trivial
theorem PySem.W.Fast.tw13036660396340463120 : True := trivial
theorem PySem.W.Fast.tw3549981999055216545 : True := trivial
theorem PySem.W.Fast.tw3318200241752264382 : True := trivial
theorem PySem.W.Fast.tw15068372381183044498 : True := trivial
theorem PySem.W.Fast.tw13130134033747545332 : True := trivial
theorem PySem.W.Fast.tw15339775121659024736 : True := trivial
theorem PySem.W.Fast.tw6860811453802952255 : True := trivial
theorem PySem.W.Fast.tw13758593316077680391 : True := trivial
theorem PySem.W.Fast.tw224948346142815282 : True := trivial
theorem PySem.W.Fast.tw14187945646323126455 : True := trivial
theorem PySem.W.Fast.tw14327249477085104933 : True := trivial
theorem PySem.W.Fast.tw8972132241592540624 : True := trivial
theorem PySem.W.Fast.tw9047158080832590364 : True := trivial
theorem PySem.W.Fast.tw4118200365690203581 : True := trivial
theorem PySem.W.Fast.tw4330550262724065573 : True := trivial
theorem PySem.W.Fast.tw975166415110879272 : True := trivial
theorem PySem.W.Fast.tw621569368463668777 : True := trivial
theorem PySem.W.Fast.tw10891924113505205518 : True := trivial
theorem PySem.W.Fast.tw8751142844309285828 : True := trivial
theorem PySem.W.Fast.tw15781965031233556157 : True := trivial
theorem PySem.W.Fast.tw3123525190270345995 : True := trivial
theorem PySem.W.Fast.tw10979192880576110592 : True := trivial
theorem PySem.W.Fast.tw680003467116458676 : True := trivial
theorem PySem.W.Fast.tw11115935370243575635 : True := trivial
theorem PySem.W.Fast.tw14841091764438477893 : True := trivial
theorem PySem.W.Fast.tw17076194246086652598 : True := trivial
theorem PySem.W.Fast.tw10530580945711828694 : True := trivial
theorem PySem.W.Fast.tw12039979608645949200 : True := trivial
theorem PySem.W.Fast.tw1324068036968438779 : True := trivial
theorem PySem.W.Fast.tw14371407172924148286 : True := trivial
theorem PySem.W.Fast.tw951806259821853626 : True := trivial
theorem PySem.W.Fast.tw14766207929422039520 : True := trivial
theorem PySem.W.Fast.tw13808830466513326718 : True := trivial
theorem PySem.W.Fast.tw16333733831344761045 : True := trivial
theorem PySem.W.Fast.tw1558806867785137447 : True := trivial
theorem PySem.W.Fast.tw8736258372072533831 : True := trivial
theorem PySem.W.Fast.tw13066569298500700120 : True := trivial
theorem PySem.W.Fast.tw17285788812909529461 : True := trivial
theorem PySem.W.Fast.tw8914057061614510001 : True := trivial
theorem PySem.W.Fast.tw10026342348733228960 : True := trivial
theorem PySem.W.Fast.tw765337686481074182 : True := trivial
theorem PySem.W.Fast.tw3785208835292381926 : True := trivial
theorem PySem.W.Fast.tw399762313733924772 : True := trivial
theorem PySem.W.Fast.tw7935091525184321398 : True := trivial
theorem PySem.W.Fast.tw13121713914310645059 : True := trivial
theorem PySem.W.Fast.tw11720061772628798644 : True := trivial
theorem PySem.W.Fast.tw4435888639350063721 : True := trivial
theorem PySem.W.Fast.tw13975141867814023765 : True := trivial
theorem PySem.W.Fast.tw16748367140505000225 : True := trivial
theorem PySem.W.Fast.tw1723823055660761915 : True := trivial
theorem PySem.W.Fast.tw16328365509193749632 : True := trivial
theorem PySem.W.Fast.tw9581758946930941167 : True := trivial
theorem PySem.W.Fast.tw13564139966485498471 : True := trivial
theorem PySem.W.Fast.tw13650273179395498650 : True := trivial
theorem PySem.W.Fast.tw6740983785281395924 : True := trivial
theorem PySem.W.Fast.tw15173443740267394284 : True := trivial
theorem PySem.W.Fast.tw13879942808317822251 : True := trivial
theorem PySem.W.Fast.tw12775628290680243225 : True := trivial
theorem PySem.W.Fast.tw16283632593001234168 : True := trivial
theorem PySem.W.Fast.tw17932101970314302131 : True := trivial
theorem PySem.W.Fast.tw12417126417401518899 : True := trivial
theorem PySem.W.Fast.tw13042918910204617732 : True := trivial
theorem PySem.W.Fast.tw6453714392939708451 : True := trivial
theorem PySem.W.Fast.tw1647967091629302089 : True := trivial
theorem PySem.W.Fast.tw8829442719624714928 : True := trivial
theorem PySem.W.Fast.tw3127267715764278751 : True := trivial
theorem PySem.W.Fast.tw6886813458238760180 : True := trivial
theorem PySem.W.Fast.tw2699209106421718412 : True := trivial
theorem PySem.W.Fast.tw2923618015602922476 : True := trivial
theorem PySem.W.Fast.tw7629853812072100216 : True := trivial
theorem PySem.W.Fast.tw8276086546008463623 : True := trivial
theorem PySem.W.Fast.tw10184341887689804049 : True := trivial
theorem PySem.W.Fast.tw18297352624611741917 : True := trivial
theorem PySem.W.Fast.tw9259058896870752432 : True := trivial
theorem PySem.W.Fast.tw10786845212878302732 : True := trivial
theorem PySem.W.Fast.tw14458426952674702104 : True := trivial
theorem PySem.W.Fast.tw2451315188875654840 : True := trivial
theorem PySem.W.Fast.tw5562643337754825089 : True := trivial
theorem PySem.W.Fast.tw12280094818981314237 : True := trivial
theorem PySem.W.Fast.tw11473141612121261681 : True := trivial
theorem PySem.W.Fast.tw13606671599097530227 : True := trivial
theorem PySem.W.Fast.tw5595839040444977173 : True := trivial
theorem PySem.W.Fast.tw9045317854188057448 : True := trivial
theorem PySem.W.Fast.tw8000698237472046143 : True := trivial
theorem PySem.W.Fast.tw6604489737126168074 : True := trivial
theorem PySem.W.Fast.tw10311319793615033023 : True := trivial
theorem PySem.W.Fast.tw6701467650637468918 : True := trivial
theorem PySem.W.Fast.tw1763137089185161297 : True := trivial
theorem PySem.W.Fast.tw3874899288890687493 : True := trivial
theorem PySem.W.Fast.tw480773945816662891 : True := trivial
theorem PySem.W.Fast.tw16437690898996380672 : True := trivial
theorem PySem.W.Fast.tw9747302310359193269 : True := trivial
theorem PySem.W.Fast.tw15292079453764478472 : True := trivial
theorem PySem.W.Fast.tw3168635590436072243 : True := trivial
theorem PySem.W.Fast.tw12171350842411464472 : True := trivial
theorem PySem.W.Fast.tw13178431945391564617 : True := trivial
theorem PySem.W.Fast.tw15573654416410504760 : True := trivial
theorem PySem.W.Fast.tw6730064074250161475 : True := trivial
theorem PySem.W.Fast.tw17414024730912502402 : True := trivial
theorem PySem.W.Fast.tw2910732581685455357 : True := trivial
theorem PySem.W.Fast.tw14246008817083991184 : True := trivial
theorem PySem.W.Fast.tw1435518227233733207 : True := trivial
theorem PySem.W.Fast.tw10166389589268026881 : True := trivial
theorem PySem.W.Fast.tw9578591839868613757 : True := trivial
theorem PySem.W.Fast.tw15960595409935841009 : True := trivial
theorem PySem.W.Fast.tw14847763839229620177 : True := trivial
theorem PySem.W.Fast.tw16709555439992730120 : True := trivial
theorem PySem.W.Fast.tw17977171548578512314 : True := trivial
theorem PySem.W.Fast.tw1961336414269237207 : True := trivial
theorem PySem.W.Fast.tw8928256358047202920 : True := trivial
theorem PySem.W.Fast.tw15830453144103777219 : True := trivial
theorem PySem.W.Fast.tw10146570937835982098 : True := trivial
theorem PySem.W.Fast.tw894979211932971167 : True := trivial
theorem PySem.W.Fast.tw17408748853127982785 : True := trivial
theorem PySem.W.Fast.tw1555834043238076073 : True := trivial
theorem PySem.W.Fast.tw962421261314709279 : True := trivial
theorem PySem.W.Fast.tw5744814191955663441 : True := trivial
theorem PySem.W.Fast.tw17566790920084853888 : True := trivial
theorem PySem.W.Fast.tw5706584939745921168 : True := trivial
theorem PySem.W.Fast.tw13997574200263462317 : True := trivial
theorem PySem.W.Fast.tw11163914590588372882 : True := trivial
theorem PySem.W.Fast.tw9895271200417328923 : True := trivial
theorem PySem.W.Fast.tw14761891067881511096 : True := trivial
theorem PySem.W.Fast.tw16833315048583276597 : True := trivial
theorem PySem.W.Fast.tw12461944080448827895 : True := trivial
theorem PySem.W.Fast.tw11992555469569403616 : True := trivial
theorem PySem.W.Fast.tw3625283895374863506 : True := trivial
theorem PySem.W.Fast.tw4506991365827867862 : True := trivial
theorem PySem.W.Fast.tw3395409085702737006 : True := trivial
theorem PySem.W.Fast.tw4775179409033968763 : True := trivial
theorem PySem.W.Fast.tw8855356533870196331 : True := trivial
theorem PySem.W.Fast.tw12622523261744113636 : True := trivial
theorem PySem.W.Fast.tw9121103199182175282 : True := trivial
theorem PySem.W.Fast.tw16047581058655726832 : True := trivial
theorem PySem.W.Fast.tw11190503624274797706 : True := trivial
theorem PySem.W.Fast.tw13699824652961224186 : True := trivial
theorem PySem.W.Fast.tw7378490805267197715 : True := trivial
theorem PySem.W.Fast.tw10471013094274989222 : True := trivial
theorem PySem.W.Fast.tw390561349180524265 : True := trivial
theorem PySem.W.Fast.tw7377218052479918967 : True := trivial
theorem PySem.W.Fast.tw16415649168388904558 : True := trivial
theorem PySem.W.Fast.tw2862824161733121756 : True := trivial
theorem PySem.W.Fast.tw12588975469701128797 : True := trivial
theorem PySem.W.Fast.tw1256901625377012999 : True := trivial
theorem PySem.W.Fast.tw11159647550298523408 : True := trivial
theorem PySem.W.Fast.tw15809738317540466934 : True := trivial
theorem PySem.W.Fast.tw10169003498427437661 : True := trivial
theorem PySem.W.Fast.tw14517395175402343546 : True := trivial
theorem PySem.W.Fast.tw919950275804926385 : True := trivial
theorem PySem.W.Fast.tw8345043887999552965 : True := trivial
theorem PySem.W.Fast.tw7759634262104587163 : True := trivial
theorem PySem.W.Fast.tw1028353766367721078 : True := trivial
theorem PySem.W.Fast.tw12952399100920660289 : True := trivial
theorem PySem.W.Fast.tw10584971108455598824 : True := trivial
theorem PySem.W.Fast.tw13229580945053996120 : True := trivial
theorem PySem.W.Fast.tw11970109728606336050 : True := trivial
theorem PySem.W.Fast.tw12147728736037647368 : True := trivial
theorem PySem.W.Fast.tw15955882552877636706 : True := trivial
theorem PySem.W.Fast.tw6572404396710078002 : True := trivial
theorem PySem.W.Fast.tw4436983305666657949 : True := trivial
theorem PySem.W.Fast.tw1815427367385751280 : True := trivial
theorem PySem.W.Fast.tw17553776552110493688 : True := trivial
theorem PySem.W.Fast.tw7061350662527311742 : True := trivial
theorem PySem.W.Fast.tw3530735978349360727 : True := trivial
theorem PySem.W.Fast.tw3764506535043496363 : True := trivial
theorem PySem.W.Fast.tw11678863655279098794 : True := trivial
theorem PySem.W.Fast.tw8236067817901160779 : True := trivial
theorem PySem.W.Fast.tw16753597373526205739 : True := trivial
theorem PySem.W.Fast.tw3721162581196678193 : True := trivial
theorem PySem.W.Fast.tw9121927778960303979 : True := trivial
theorem PySem.W.Fast.tw13719192121691377637 : True := trivial
theorem PySem.W.Fast.tw6959461232719445813 : True := trivial
theorem PySem.W.Fast.tw1902307696435668356 : True := trivial
theorem PySem.W.Fast.tw6207077158904896854 : True := trivial
theorem PySem.W.Fast.tw11489511337174591625 : True := trivial
theorem PySem.W.Fast.tw17774979655826033479 : True := trivial
theorem PySem.W.Fast.tw12872391527763213826 : True := trivial
theorem PySem.W.Fast.tw10416788850621000 : True := trivial
theorem PySem.W.Fast.tw654739536986584382 : True := trivial
theorem PySem.W.Fast.tw1264887820023556473 : True := trivial
theorem PySem.W.Fast.tw11407564902212088298 : True := trivial
theorem PySem.W.Fast.tw11159015865562853564 : True := trivial
theorem PySem.W.Fast.tw13637834724833677981 : True := trivial
theorem PySem.W.Fast.tw8010608549218456365 : True := trivial
theorem PySem.W.Fast.tw402043313919446929 : True := trivial
theorem PySem.W.Fast.tw16266311686328010000 : True := trivial
theorem PySem.W.Fast.tw2712568291850425465 : True := trivial
theorem PySem.W.Fast.tw5861346907986402564 : True := trivial
theorem PySem.W.Fast.tw12514284851111631428 : True := trivial
theorem PySem.W.Fast.tw5834910322421820358 : True := trivial
theorem PySem.W.Fast.tw16215976802671099013 : True := trivial
theorem PySem.W.Fast.tw17152102189378152699 : True := trivial
theorem PySem.W.Fast.tw17122255885562690571 : True := trivial
theorem PySem.W.Fast.tw3236887869904803164 : True := trivial
theorem PySem.W.Fast.tw6726972852746547266 : True := trivial
theorem PySem.W.Fast.tw1053734257605696500 : True := trivial
theorem PySem.W.Fast.tw1613191834104315547 : True := trivial
theorem PySem.W.Fast.tw825742164871890470 : True := trivial
theorem PySem.W.Fast.tw8655003205440421351 : True := trivial
theorem PySem.W.Fast.tw4192127571035568980 : True := trivial
theorem PySem.W.Fast.tw313486665765248736 : True := trivial
theorem PySem.W.Fast.tw1941955074992871010 : True := trivial
theorem PySem.W.Fast.tw9776719156157024173 : True := trivial
theorem PySem.W.Fast.tw2724144907313046412 : True := trivial
theorem PySem.W.Fast.tw18084444912580987858 : True := trivial
theorem PySem.W.Fast.tw4372981623950625425 : True := trivial
theorem PySem.W.Fast.tw281460805408803352 : True := trivial
theorem PySem.W.Fast.tw17415447361939391924 : True := trivial
theorem PySem.W.Fast.tw1683902359452046400 : True := trivial
theorem PySem.W.Fast.tw6815166926945658777 : True := trivial
theorem PySem.W.Fast.tw18085474912574096081 : True := trivial
theorem PySem.W.Fast.tw6285039459404440962 : True := trivial
theorem PySem.W.Fast.tw5132204679458501575 : True := trivial
theorem PySem.W.Fast.tw18238094548130957065 : True := trivial
theorem PySem.W.Fast.tw9356068264061415704 : True := trivial
theorem PySem.W.Fast.tw14169009172521997062 : True := trivial
theorem PySem.W.Fast.tw11372057307953150960 : True := trivial
theorem PySem.W.Fast.tw14361716121508604444 : True := trivial
theorem PySem.W.Fast.tw14101201539068578205 : True := trivial
theorem PySem.W.Fast.tw11575312367148951364 : True := trivial
theorem PySem.W.Fast.tw1708375690339269637 : True := trivial
theorem PySem.W.Fast.tw4592841013438514107 : True := trivial
theorem PySem.W.Fast.tw1890244792797290842 : True := trivial
theorem PySem.W.Fast.tw9858827205799415073 : True := trivial
theorem PySem.W.Fast.tw7507473400609535272 : True := trivial
theorem PySem.W.Fast.tw7569983463225524587 : True := trivial
theorem PySem.W.Fast.tw909959405023757954 : True := trivial
theorem PySem.W.Fast.tw9567317866674416277 : True := trivial
theorem PySem.W.Fast.tw15210158600020367922 : True := trivial
theorem PySem.W.Fast.tw16207547182701952061 : True := trivial
theorem PySem.W.Fast.tw12266687070019418149 : True := trivial
theorem PySem.W.Fast.tw1927938855967954789 : True := trivial
theorem PySem.W.Fast.tw16382615614126843047 : True := trivial
theorem PySem.W.Fast.tw10613590218715181513 : True := trivial
theorem PySem.W.Fast.tw17756284907365021650 : True := trivial
theorem PySem.W.Fast.tw9386464867969637777 : True := trivial
theorem PySem.W.Fast.tw10884291281780590994 : True := trivial
theorem PySem.W.Fast.tw6882114457910137529 : True := trivial
theorem PySem.W.Fast.tw4353170680660274991 : True := trivial
theorem PySem.W.Fast.tw10860077494340823170 : True := trivial
theorem PySem.W.Fast.tw8499969925871895632 : True := trivial
theorem PySem.W.Fast.tw1814944977493378490 : True := trivial
theorem PySem.W.Fast.tw7173760794811237352 : True := trivial
theorem PySem.W.Fast.tw14546482908653578059 : True := trivial
theorem PySem.W.Fast.tw8814688325240988704 : True := trivial
theorem PySem.W.Fast.tw13157989044710333526 : True := trivial
theorem PySem.W.Fast.tw13342517372908797185 : True := trivial
theorem PySem.W.Fast.tw11479131820976253359 : True := trivial
theorem PySem.W.Fast.tw3460598611431648592 : True := trivial
theorem PySem.W.Fast.tw9329416738431127279 : True := trivial
theorem PySem.W.Fast.tw731394429721649434 : True := trivial
theorem PySem.W.Fast.tw17247878438892928681 : True := trivial
theorem PySem.W.Fast.tw3811341778008414035 : True := trivial
theorem PySem.W.Fast.tw13983170208524046962 : True := trivial
theorem PySem.W.Fast.tw2402413659804258997 : True := trivial
theorem PySem.W.Fast.tw12785436521272494803 : True := trivial
theorem PySem.W.Fast.tw16204418250502594064 : True := trivial
theorem PySem.W.Fast.tw17125073071754016400 : True := trivial
theorem PySem.W.Fast.tw7158125512001251310 : True := trivial
theorem PySem.W.Fast.tw16358262255951134037 : True := trivial
theorem PySem.W.Fast.tw5669613241325239353 : True := trivial
theorem PySem.W.Fast.tw8268226640885685721 : True := trivial
theorem PySem.W.Fast.tw11865679951601845640 : True := trivial
theorem PySem.W.Fast.tw13245300463160097905 : True := trivial
theorem PySem.W.Fast.tw3481502259156420265 : True := trivial
theorem PySem.W.Fast.tw6859792898657052984 : True := trivial
theorem PySem.W.Fast.tw5688290347447824332 : True := trivial
theorem PySem.W.Fast.tw13987705332322270303 : True := trivial
theorem PySem.W.Fast.tw8239670371784894779 : True := trivial
theorem PySem.W.Fast.tw16181022314880075274 : True := trivial
theorem PySem.W.Fast.tw17332831626931484864 : True := trivial
theorem PySem.W.Fast.tw18218207907177103419 : True := trivial
theorem PySem.W.Fast.tw17424456074688011068 : True := trivial
theorem PySem.W.Fast.tw10575092571036757503 : True := trivial
theorem PySem.W.Fast.tw12703622574027182183 : True := trivial
theorem PySem.W.Fast.tw10664019503504649697 : True := trivial
theorem PySem.W.Fast.tw9219072476768938110 : True := trivial
theorem PySem.W.Fast.tw9858805055575723560 : True := trivial
theorem PySem.W.Fast.tw17246889220079488343 : True := trivial
theorem PySem.W.Fast.tw1346661289562698139 : True := trivial
theorem PySem.W.Fast.tw12130889851831952482 : True := trivial
theorem PySem.W.Fast.tw3710008008118031924 : True := trivial
theorem PySem.W.Fast.tw17067980693546816833 : True := trivial
theorem PySem.W.Fast.tw7702341163104811511 : True := trivial
theorem PySem.W.Fast.tw14382546855715250627 : True := trivial
theorem PySem.W.Fast.tw12966970278809991378 : True := trivial
theorem PySem.W.Fast.tw5530031942286157498 : True := trivial
theorem PySem.W.Fast.tw1350690913492740723 : True := trivial
theorem PySem.W.Fast.tw17065817455896684493 : True := trivial
theorem PySem.W.Fast.tw13011526629313339162 : True := trivial
theorem PySem.W.Fast.tw10936862838134564036 : True := trivial
theorem PySem.W.Fast.tw7500852587037931807 : True := trivial
theorem PySem.W.Fast.tw5294455290209377774 : True := trivial
theorem PySem.W.Fast.tw17820607634746334719 : True := trivial
theorem PySem.W.Fast.tw6797661588719832674 : True := trivial
theorem PySem.W.Fast.tw18307452648143828051 : True := trivial
theorem PySem.W.Fast.tw10956224878043596475 : True := trivial
theorem PySem.W.Fast.tw842652683615628286 : True := trivial
theorem PySem.W.Fast.tw14728004045310599975 : True := trivial
theorem PySem.W.Fast.tw16012201228433021312 : True := trivial
theorem PySem.W.Fast.tw14774890626927548387 : True := trivial
theorem PySem.W.Fast.tw1655972196226697591 : True := trivial
theorem PySem.W.Fast.tw6649564547078684638 : True := trivial
theorem PySem.W.Fast.tw17418425803884876680 : True := trivial
theorem PySem.W.Fast.tw5623457208729928920 : True := trivial
theorem PySem.W.Fast.tw10441707879315249430 : True := trivial
theorem PySem.W.Fast.tw10541712256258891827 : True := trivial
theorem PySem.W.Fast.tw2427022716796017351 : True := trivial
theorem PySem.W.Fast.tw8966557580092013132 : True := trivial
theorem PySem.W.Fast.tw8761462395199347384 : True := trivial
theorem PySem.W.Fast.tw6321206736896417434 : True := trivial
theorem PySem.W.Fast.tw12100219372092193601 : True := trivial
theorem PySem.W.Fast.tw5301758027326949405 : True := trivial
theorem PySem.W.Fast.tw8945132339260437237 : True := trivial
theorem PySem.W.Fast.tw4229411961539011231 : True := trivial
theorem PySem.W.Fast.tw7435024731683710782 : True := trivial
theorem PySem.W.Fast.tw5551145642109030790 : True := trivial
theorem PySem.W.Fast.tw381005811174435432 : True := trivial
theorem PySem.W.Fast.tw10322001380893738566 : True := trivial
theorem PySem.W.Fast.tw9040139432219768834 : True := trivial
theorem PySem.W.Fast.tw11988233994519235420 : True := trivial
theorem PySem.W.Fast.tw8819538871842738157 : True := trivial
theorem PySem.W.Fast.tw7706892206185456650 : True := trivial
theorem PySem.W.Fast.tw4826650271150753664 : True := trivial
theorem PySem.W.Fast.tw1836169659795448843 : True := trivial
theorem PySem.W.Fast.tw10022007212690691544 : True := trivial
theorem PySem.W.Fast.tw7171127259032909645 : True := trivial
theorem PySem.W.Fast.tw5886537632470577823 : True := trivial
theorem PySem.W.Fast.tw12270039700650028409 : True := trivial
theorem PySem.W.Fast.tw394669531265358741 : True := trivial
theorem PySem.W.Fast.tw8229067363284458708 : True := trivial
theorem PySem.W.Fast.tw16443192484645257341 : True := trivial
theorem PySem.W.Fast.tw1528523224252388131 : True := trivial
theorem PySem.W.Fast.tw12437072054398259470 : True := trivial
theorem PySem.W.Fast.tw9516920030384441839 : True := trivial
theorem PySem.W.Fast.tw17313439435666118659 : True := trivial
theorem PySem.W.Fast.tw5153262370502975164 : True := trivial
theorem PySem.W.Fast.tw2755137300932205362 : True := trivial
theorem PySem.W.Fast.tw474539997404281489 : True := trivial
theorem PySem.W.Fast.tw2133638155151465361 : True := trivial
theorem PySem.W.Fast.tw5024134397008424351 : True := trivial
theorem PySem.W.Fast.tw12669690364553549830 : True := trivial
theorem PySem.W.Fast.tw15958569322458700751 : True := trivial
theorem PySem.W.Fast.tw7985301757243924835 : True := trivial
theorem PySem.W.Fast.tw6003239393610445290 : True := trivial
theorem PySem.W.Fast.tw4903462282886664736 : True := trivial
theorem PySem.W.Fast.tw8158640988883856615 : True := trivial
theorem PySem.W.Fast.tw11154762200434797903 : True := trivial
theorem PySem.W.Fast.tw8557887788763347085 : True := trivial
theorem PySem.W.Fast.tw1432933180465844877 : True := trivial
theorem PySem.W.Fast.tw11270034748405654303 : True := trivial
theorem PySem.W.Fast.tw7057557589940926301 : True := trivial
theorem PySem.W.Fast.tw15854762476100071564 : True := trivial
theorem PySem.W.Fast.tw5031982628550659771 : True := trivial
theorem PySem.W.Fast.tw12113989735328387048 : True := trivial
theorem PySem.W.Fast.tw3081803666872881540 : True := trivial
theorem PySem.W.Fast.tw4140059510378182920 : True := trivial
theorem PySem.W.Fast.tw16575309376130902123 : True := trivial
theorem PySem.W.Fast.tw14573298895713517364 : True := trivial
theorem PySem.W.Fast.tw8686300391027057159 : True := trivial
theorem PySem.W.Fast.tw4629967667275575516 : True := trivial
theorem PySem.W.Fast.tw13213228003403190098 : True := trivial
theorem PySem.W.Fast.tw12701680897953619547 : True := trivial
theorem PySem.W.Fast.tw5098613986847195217 : True := trivial
theorem PySem.W.Fast.tw8583746095692274370 : True := trivial
theorem PySem.W.Fast.tw4178240438195797199 : True := trivial
theorem PySem.W.Fast.tw10845766474643887115 : True := trivial
theorem PySem.W.Fast.tw13053548336829078911 : True := trivial
theorem PySem.W.Fast.tw3383565874751859524 : True := trivial
theorem PySem.W.Fast.tw9788044765056713246 : True := trivial
theorem PySem.W.Fast.tw3559075231528072267 : True := trivial
theorem PySem.W.Fast.tw16440464296280355354 : True := trivial
theorem PySem.W.Fast.tw6074275457733171792 : True := trivial
theorem PySem.W.Fast.tw14755919214653081174 : True := trivial
theorem PySem.W.Fast.tw12263576211619491391 : True := trivial
theorem PySem.W.Fast.tw2771988845941124727 : True := trivial
theorem PySem.W.Fast.tw8022621406422031289 : True := trivial
theorem PySem.W.Fast.tw16674899942959656802 : True := trivial
theorem PySem.W.Fast.tw3941853443256936571 : True := trivial
theorem PySem.W.Fast.tw15767806233179026700 : True := trivial
theorem PySem.W.Fast.tw17663547726048940575 : True := trivial
theorem PySem.W.Fast.tw2854452879345265324 : True := trivial
theorem PySem.W.Fast.tw17968955651276837939 : True := trivial
theorem PySem.W.Fast.tw382339147778020714 : True := trivial
theorem PySem.W.Fast.tw4969535331175317180 : True := trivial
theorem PySem.W.Fast.tw3620155379612124481 : True := trivial
theorem PySem.W.Fast.tw8862422388634015556 : True := trivial
theorem PySem.W.Fast.tw13508216928070705969 : True := trivial
theorem PySem.W.Fast.tw16086592351591213221 : True := trivial
theorem PySem.W.Fast.tw13361069130356358169 : True := trivial
theorem PySem.W.Fast.tw15539064692893713936 : True := trivial
theorem PySem.W.Fast.tw17790819959737381415 : True := trivial
theorem PySem.W.Fast.tw8002259871775124357 : True := trivial
theorem PySem.W.Fast.tw5999410538724264668 : True := trivial
theorem PySem.W.Fast.tw15428361666971062921 : True := trivial
theorem PySem.W.Fast.tw10958587041405566839 : True := trivial
theorem PySem.W.Fast.tw6277028805729118572 : True := trivial
theorem PySem.W.Fast.tw16594450530536074790 : True := trivial
theorem PySem.W.Fast.tw10091214672622262993 : True := trivial
theorem PySem.W.Fast.tw18176260244595920820 : True := trivial
theorem PySem.W.Fast.tw2480425298613288746 : True := trivial
theorem PySem.W.Fast.tw15198794680240938419 : True := trivial
theorem PySem.W.Fast.tw6113531776805197895 : True := trivial
theorem PySem.W.Fast.tw17263508823948594190 : True := trivial
theorem PySem.W.Fast.tw5007175945193457431 : True := trivial
theorem PySem.W.Fast.tw14056162278453621189 : True := trivial
theorem PySem.W.Fast.tw8759766882137663064 : True := trivial
theorem PySem.W.Fast.tw10804609566785037283 : True := trivial
theorem PySem.W.Fast.tw3171328992888766686 : True := trivial
theorem PySem.W.Fast.tw2592607164207042680 : True := trivial
theorem PySem.W.Fast.tw16929840501855662115 : True := trivial
theorem PySem.W.Fast.tw4969019270125364585 : True := trivial
theorem PySem.W.Fast.tw5735054341254142169 : True := trivial
theorem PySem.W.Fast.tw12849200680840445103 : True := trivial
theorem PySem.W.Fast.tw1763721243190790124 : True := trivial
theorem PySem.W.Fast.tw12026067999482563984 : True := trivial
theorem PySem.W.Fast.tw10070336427743556845 : True := trivial
theorem PySem.W.Fast.tw6105332193635135036 : True := trivial
theorem PySem.W.Fast.tw9268939506230711964 : True := trivial
theorem PySem.W.Fast.tw6434611379865368616 : True := trivial
theorem PySem.W.Fast.tw4978361888941645922 : True := trivial
theorem PySem.W.Fast.tw11855273157365923496 : True := trivial
theorem PySem.W.Fast.tw11211101561151340834 : True := trivial
theorem PySem.W.Fast.tw5888948158925979960 : True := trivial
theorem PySem.W.Fast.tw9637346590417929053 : True := trivial
theorem PySem.W.Fast.tw13413217073518165464 : True := trivial
theorem PySem.W.Fast.tw17860521376774226331 : True := trivial
theorem PySem.W.Fast.tw3046466774449983680 : True := trivial
theorem PySem.W.Fast.tw8714512429313171609 : True := trivial
theorem PySem.W.Fast.tw17893859040050179470 : True := trivial
theorem PySem.W.Fast.tw7029257803435562599 : True := trivial
theorem PySem.W.Fast.tw2125191485983178368 : True := trivial
theorem PySem.W.Fast.tw18215081243790700344 : True := trivial
theorem PySem.W.Fast.tw14278678709695127941 : True := trivial
theorem PySem.W.Fast.tw15021544101578184390 : True := trivial
theorem PySem.W.Fast.tw15357173953581519423 : True := trivial
theorem PySem.W.Fast.tw18077219730541463447 : True := trivial
theorem PySem.W.Fast.tw17157035506635217352 : True := trivial
theorem PySem.W.Fast.tw9752597624819292881 : True := trivial
theorem PySem.W.Fast.tw10379355448623382791 : True := trivial
theorem PySem.W.Fast.tw8194152582599732702 : True := trivial
theorem PySem.W.Fast.tw13690067523065541516 : True := trivial
theorem PySem.W.Fast.tw15341649977552004696 : True := trivial
theorem PySem.W.Fast.tw2827968955282259026 : True := trivial
theorem PySem.W.Fast.tw1316259941444006833 : True := trivial
theorem PySem.W.Fast.tw5778882343784248470 : True := trivial
theorem PySem.W.Fast.tw10009421072434412076 : True := trivial
theorem PySem.W.Fast.tw17949937071056251555 : True := trivial
theorem PySem.W.Fast.tw9294501645801275950 : True := trivial
theorem PySem.W.Fast.tw17264417411402716412 : True := trivial
theorem PySem.W.Fast.tw2395545637889044521 : True := trivial
theorem PySem.W.Fast.tw16509848451535249383 : True := trivial
theorem PySem.W.Fast.tw1734294411316442401 : True := trivial
theorem PySem.W.Fast.tw3027545873037446380 : True := trivial
theorem PySem.W.Fast.tw1212947714246628559 : True := trivial
theorem PySem.W.Fast.tw3322730388020130107 : True := trivial
theorem PySem.W.Fast.tw6495345604778616259 : True := trivial
theorem PySem.W.Fast.tw3934620300924933039 : True := trivial
theorem PySem.W.Fast.tw11206934192090685986 : True := trivial
theorem PySem.W.Fast.tw8002531725974158310 : True := trivial
theorem PySem.W.Fast.tw565627796863521170 : True := trivial
theorem PySem.W.Fast.tw3509556634432879474 : True := trivial
theorem PySem.W.Fast.tw15032817721393949005 : True := trivial
theorem PySem.W.Fast.tw17106095951076201724 : True := trivial
theorem PySem.W.Fast.tw8745071967489902379 : True := trivial
theorem PySem.W.Fast.tw9690084016518285463 : True := trivial
theorem PySem.W.Fast.tw10319503133283653867 : True := trivial
theorem PySem.W.Fast.tw5497625132885517457 : True := trivial
theorem PySem.W.Fast.tw1041455034116781715 : True := trivial
theorem PySem.W.Fast.tw4683047312776909618 : True := trivial
theorem PySem.W.Fast.tw6352518513627072938 : True := trivial
theorem PySem.W.Fast.tw11551239700229877069 : True := trivial
theorem PySem.W.Fast.tw11284174148785537224 : True := trivial
theorem PySem.W.Fast.tw12598571110677838094 : True := trivial
theorem PySem.W.Fast.tw2871010656099871195 : True := trivial
theorem PySem.W.Fast.tw11128269136862695538 : True := trivial
theorem PySem.W.Fast.tw9034064697794872549 : True := trivial
theorem PySem.W.Fast.tw17380937690103502952 : True := trivial
theorem PySem.W.Fast.tw13914931593239145796 : True := trivial
theorem PySem.W.Fast.tw16388017157973280070 : True := trivial
theorem PySem.W.Fast.tw7126451996619008446 : True := trivial
theorem PySem.W.Fast.tw2154486624629185762 : True := trivial
theorem PySem.W.Fast.tw9372304696435377724 : True := trivial
theorem PySem.W.Fast.tw8012517247241943184 : True := trivial
theorem PySem.W.Fast.tw426617344984001154 : True := trivial
theorem PySem.W.Fast.tw4394924080732664841 : True := trivial
theorem PySem.W.Fast.tw14218121703484827513 : True := trivial
theorem PySem.W.Fast.tw14340745258760185571 : True := trivial
theorem PySem.W.Fast.tw8311568958606607117 : True := trivial
theorem PySem.W.Fast.tw7537886005056754388 : True := trivial
theorem PySem.W.Fast.tw120725685670458991 : True := trivial
theorem PySem.W.Fast.tw17802224428233716366 : True := trivial
theorem PySem.W.Fast.tw15053276084289558187 : True := trivial
theorem PySem.W.Fast.tw2854200980789865436 : True := trivial
theorem PySem.W.Fast.tw12356572828779876956 : True := trivial
theorem PySem.W.Fast.tw13668779371957137296 : True := trivial
theorem PySem.W.Fast.tw12141027028038116017 : True := trivial
theorem PySem.W.Fast.tw15563973776344557632 : True := trivial
theorem PySem.W.Fast.tw14537552531191168299 : True := trivial
theorem PySem.W.Fast.tw7399917809694712783 : True := trivial
theorem PySem.W.Fast.tw181313535126775245 : True := trivial
theorem PySem.W.Fast.tw9594452708184527908 : True := trivial
theorem PySem.W.Fast.tw15266537941808140004 : True := trivial
theorem PySem.W.Fast.tw2555987373213908238 : True := trivial
theorem PySem.W.Fast.tw3155955980191743341 : True := trivial
theorem PySem.W.Fast.tw7427553683741286791 : True := trivial
theorem PySem.W.Fast.tw13899631048197989339 : True := trivial
theorem PySem.W.Fast.tw4502230333904933385 : True := trivial
theorem PySem.W.Fast.tw18220641050113502004 : True := trivial
theorem PySem.W.Fast.tw17969506713993445524 : True := trivial
theorem PySem.W.Fast.tw18400284015514795054 : True := trivial
theorem PySem.W.Fast.tw8048961462334398069 : True := trivial
theorem PySem.W.Fast.tw13906757091599006708 : True := trivial
theorem PySem.W.Fast.tw1203154886105768418 : True := trivial
theorem PySem.W.Fast.tw7846418171221524736 : True := trivial
theorem PySem.W.Fast.tw12855517815572190713 : True := trivial
theorem PySem.W.Fast.tw2434124526479202614 : True := trivial
theorem PySem.W.Fast.tw14982900874848108152 : True := trivial
theorem PySem.W.Fast.tw5565516971502516494 : True := trivial
theorem PySem.W.Fast.tw6212683749484859920 : True := trivial
theorem PySem.W.Fast.tw17461712004805530039 : True := trivial
theorem PySem.W.Fast.tw1385843617063955157 : True := trivial
theorem PySem.W.Fast.tw3330035883225071735 : True := trivial
theorem PySem.W.Fast.tw6095016758503568852 : True := trivial
theorem PySem.W.Fast.tw16357458121507940170 : True := trivial
theorem PySem.W.Fast.tw3611411398815752071 : True := trivial
theorem PySem.W.Fast.tw11177837771532838741 : True := trivial
theorem PySem.W.Fast.tw8686372406834896256 : True := trivial
theorem PySem.W.Fast.tw4589980438965847464 : True := trivial
theorem PySem.W.Fast.tw7776405917829919809 : True := trivial
theorem PySem.W.Fast.tw5581003246682746055 : True := trivial
theorem PySem.W.Fast.tw9092404218477396976 : True := trivial
theorem PySem.W.Fast.tw17523979940049303040 : True := trivial
theorem PySem.W.Fast.tw15670067433282731743 : True := trivial
theorem PySem.W.Fast.tw6264619433198030829 : True := trivial
theorem PySem.W.Fast.tw13512954108537777487 : True := trivial
theorem PySem.W.Fast.tw4190646046731196903 : True := trivial
theorem PySem.W.Fast.tw10294613683472202485 : True := trivial
theorem PySem.W.Fast.tw15286172828468182060 : True := trivial
theorem PySem.W.Fast.tw3683333839929462768 : True := trivial
theorem PySem.W.Fast.tw5577241509920715207 : True := trivial
theorem PySem.W.Fast.tw11486755390215674812 : True := trivial
theorem PySem.W.Fast.tw16928165087144781012 : True := trivial
theorem PySem.W.Fast.tw15835586968779115059 : True := trivial
theorem PySem.W.Fast.tw17338767772036422813 : True := trivial
theorem PySem.W.Fast.tw15025938225676659181 : True := trivial
theorem PySem.W.Fast.tw6749343818152083805 : True := trivial
theorem PySem.W.Fast.tw12426416257708494095 : True := trivial
theorem PySem.W.Fast.tw4756440264109677224 : True := trivial
theorem PySem.W.Fast.tw1433021941959292285 : True := trivial
theorem PySem.W.Fast.tw17207187338831125859 : True := trivial
theorem PySem.W.Fast.tw10587686184305287279 : True := trivial
theorem PySem.W.Fast.tw15572008983642350708 : True := trivial
theorem PySem.W.Fast.tw11593899395975032429 : True := trivial
theorem PySem.W.Fast.tw7991210996680116011 : True := trivial
theorem PySem.W.Fast.tw13324333879739123142 : True := trivial
theorem PySem.W.Fast.tw17308689234018997076 : True := trivial
theorem PySem.W.Fast.tw6299952327444427701 : True := trivial
theorem PySem.W.Fast.tw17306388400865857628 : True := trivial
theorem PySem.W.Fast.tw4497374792221913535 : True := trivial
theorem PySem.W.Fast.tw1381249673901003564 : True := trivial
theorem PySem.W.Fast.tw7223705941741347631 : True := trivial
theorem PySem.W.Fast.tw17473424915009874424 : True := trivial
theorem PySem.W.Fast.tw6285338398462313237 : True := trivial
theorem PySem.W.Fast.tw11893819660037107366 : True := trivial
theorem PySem.W.Fast.tw13056441040092007172 : True := trivial
theorem PySem.W.Fast.tw1029373430973705340 : True := trivial
theorem PySem.W.Fast.tw6995217238111860593 : True := trivial
theorem PySem.W.Fast.tw2905867465261723725 : True := trivial
theorem PySem.W.Fast.tw3034040408479033827 : True := trivial
theorem PySem.W.Fast.tw17268343469557972327 : True := trivial
theorem PySem.W.Fast.tw1962987338051087767 : True := trivial
theorem PySem.W.Fast.tw16669216677970877910 : True := trivial
theorem PySem.W.Fast.tw763573421843522312 : True := trivial
theorem PySem.W.Fast.tw9266073571801736565 : True := trivial
theorem PySem.W.Fast.tw4423698104370004943 : True := trivial
theorem PySem.W.Fast.tw11898756574723045823 : True := trivial
theorem PySem.W.Fast.tw670151931294713776 : True := trivial
theorem PySem.W.Fast.tw2242644479796232573 : True := trivial
theorem PySem.W.Fast.tw4336450536621808551 : True := trivial
theorem PySem.W.Fast.tw2710268469328223475 : True := trivial
theorem PySem.W.Fast.tw17362690212112741991 : True := trivial
theorem PySem.W.Fast.tw17100565066794455017 : True := trivial
theorem PySem.W.Fast.tw14945591074958797646 : True := trivial
theorem PySem.W.Fast.tw12244100307459387105 : True := trivial
theorem PySem.W.Fast.tw16004367105691572203 : True := trivial
theorem PySem.W.Fast.tw2438241863600464018 : True := trivial
theorem PySem.W.Fast.tw5322532033816763321 : True := trivial
theorem PySem.W.Fast.tw9672228738936066383 : True := trivial
theorem PySem.W.Fast.tw12771754927762272965 : True := trivial
theorem PySem.W.Fast.tw12645947779830543391 : True := trivial
theorem PySem.W.Fast.tw16344780780843352873 : True := trivial
theorem PySem.W.Fast.tw5728259339955040038 : True := trivial
theorem PySem.W.Fast.tw3977545768836661257 : True := trivial
theorem PySem.W.Fast.tw9809562126986087302 : True := trivial
theorem PySem.W.Fast.tw9332266453520074395 : True := trivial
theorem PySem.W.Fast.tw4782079124687001654 : True := trivial
theorem PySem.W.Fast.tw8960446461736725689 : True := trivial
theorem PySem.W.Fast.tw8026560868849113634 : True := trivial
theorem PySem.W.Fast.tw8810638453918981576 : True := trivial
theorem PySem.W.Fast.tw4632443552977178790 : True := trivial
theorem PySem.W.Fast.tw10559867898460975342 : True := trivial
theorem PySem.W.Fast.tw5573927757325170982 : True := trivial
theorem PySem.W.Fast.tw7087336179430923773 : True := trivial
theorem PySem.W.Fast.tw9919188358767690847 : True := trivial
theorem PySem.W.Fast.tw3930399079322635317 : True := trivial
theorem PySem.W.Fast.tw11553688020222779388 : True := trivial
theorem PySem.W.Fast.tw9704273547909179879 : True := trivial
theorem PySem.W.Fast.tw16917851734213414002 : True := trivial
theorem PySem.W.Fast.tw9734274688108948106 : True := trivial
theorem PySem.W.Fast.tw6590326125184556604 : True := trivial
theorem PySem.W.Fast.tw8954951625867246723 : True := trivial
theorem PySem.W.Fast.tw14812482779209562832 : True := trivial
theorem PySem.W.Fast.tw8315807646060927899 : True := trivial
theorem PySem.W.Fast.tw10194055743320451976 : True := trivial
theorem PySem.W.Fast.tw2376233871694943466 : True := trivial
theorem PySem.W.Fast.tw11259688368889428799 : True := trivial
theorem PySem.W.Fast.tw13678865320098541583 : True := trivial
theorem PySem.W.Fast.tw4058480827744350948 : True := trivial
theorem PySem.W.Fast.tw10049309224525098865 : True := trivial
theorem PySem.W.Fast.tw2604173469284927575 : True := trivial
theorem PySem.W.Fast.tw3664640146475029507 : True := trivial
theorem PySem.W.Fast.tw12475161973657937216 : True := trivial
theorem PySem.W.Fast.tw15911804492197231115 : True := trivial
theorem PySem.W.Fast.tw3828158650993287874 : True := trivial
theorem PySem.W.Fast.tw10467060302095119877 : True := trivial
theorem PySem.W.Fast.tw210131870776171150 : True := trivial
theorem PySem.W.Fast.tw3916568221320989049 : True := trivial
theorem PySem.W.Fast.tw6197928303383652078 : True := trivial
theorem PySem.W.Fast.tw8752443349242969334 : True := trivial
theorem PySem.W.Fast.tw1345727732316588134 : True := trivial
theorem PySem.W.Fast.tw17243203489870345189 : True := trivial
theorem PySem.W.Fast.tw15090661659467033823 : True := trivial
theorem PySem.W.Fast.tw14475959542903265449 : True := trivial
theorem PySem.W.Fast.tw13801212461132755434 : True := trivial
theorem PySem.W.Fast.tw4890123029347349276 : True := trivial
theorem PySem.W.Fast.tw3447932142838661017 : True := trivial
theorem PySem.W.Fast.tw4823293841472990836 : True := trivial
theorem PySem.W.Fast.tw3049189197812680013 : True := trivial
theorem PySem.W.Fast.tw17782071913956325630 : True := trivial
theorem PySem.W.Fast.tw7727827620481136898 : True := trivial
theorem PySem.W.Fast.tw10911539626091779295 : True := trivial
theorem PySem.W.Fast.tw17754993525560538043 : True := trivial
theorem PySem.W.Fast.tw13993474129029625668 : True := trivial
theorem PySem.W.Fast.tw8460628966443396401 : True := trivial
theorem PySem.W.Fast.tw13522121168515567683 : True := trivial
theorem PySem.W.Fast.tw14996797909048876698 : True := trivial
theorem PySem.W.Fast.tw9357096108350950892 : True := trivial
theorem PySem.W.Fast.tw17017463791865893361 : True := trivial
theorem PySem.W.Fast.tw14827428659076364364 : True := trivial
theorem PySem.W.Fast.tw12914352172407394161 : True := trivial
theorem PySem.W.Fast.tw468125672735482370 : True := trivial
theorem PySem.W.Fast.tw13368619384512377121 : True := trivial
theorem PySem.W.Fast.tw1128332538404055738 : True := trivial
theorem PySem.W.Fast.tw11211560715373245113 : True := trivial
theorem PySem.W.Fast.tw14701386829795555959 : True := trivial
theorem PySem.W.Fast.tw8617508340042321110 : True := trivial
theorem PySem.W.Fast.tw14169852468504432071 : True := trivial
theorem PySem.W.Fast.tw5330502704186453212 : True := trivial
theorem PySem.W.Fast.tw18196758312319401611 : True := trivial
theorem PySem.W.Fast.tw7702208723463510136 : True := trivial
theorem PySem.W.Fast.tw254122537041335141 : True := trivial
theorem PySem.W.Fast.tw12574553717835846036 : True := trivial
theorem PySem.W.Fast.tw15403071452634793942 : True := trivial
theorem PySem.W.Fast.tw2351108439757785161 : True := trivial
theorem PySem.W.Fast.tw16540310514679173149 : True := trivial
theorem PySem.W.Fast.tw14911276394497666438 : True := trivial
theorem PySem.W.Fast.tw4188597744373778961 : True := trivial
theorem PySem.W.Fast.tw6929444987885468275 : True := trivial
theorem PySem.W.Fast.tw16847842226355557497 : True := trivial
theorem PySem.W.Fast.tw2263280027001675774 : True := trivial
theorem PySem.W.Fast.tw3286346861013053538 : True := trivial
theorem PySem.W.Fast.tw16881926016549536345 : True := trivial
theorem PySem.W.Fast.tw6234376294274032234 : True := trivial
theorem PySem.W.Fast.tw10493209262916323708 : True := trivial
theorem PySem.W.Fast.tw6533619035188392350 : True := trivial
theorem PySem.W.Fast.tw5732809490026515925 : True := trivial
theorem PySem.W.Fast.tw9090867527823164451 : True := trivial
theorem PySem.W.Fast.tw5449853785423333603 : True := trivial
theorem PySem.W.Fast.tw4585542505277563829 : True := trivial
theorem PySem.W.Fast.tw12090300398940201922 : True := trivial
theorem PySem.W.Fast.tw2314737564288885715 : True := trivial
theorem PySem.W.Fast.tw3232189267324928055 : True := trivial
theorem PySem.W.Fast.tw4386408616853910376 : True := trivial
theorem PySem.W.Fast.tw12684496817644512026 : True := trivial
theorem PySem.W.Fast.tw13483025176770673496 : True := trivial
theorem PySem.W.Fast.tw3525051669875727226 : True := trivial
theorem PySem.W.Fast.tw15573466284632357481 : True := trivial
theorem PySem.W.Fast.tw1987454769786430386 : True := trivial
theorem PySem.W.Fast.tw185281876945581293 : True := trivial
theorem PySem.W.Fast.tw8472345340633608826 : True := trivial
theorem PySem.W.Fast.tw16375345826085531254 : True := trivial
theorem PySem.W.Fast.tw13399885297702664063 : True := trivial
theorem PySem.W.Fast.tw10468203400730014430 : True := trivial
theorem PySem.W.Fast.tw2071772045795405445 : True := trivial
theorem PySem.W.Fast.tw12629666056362750469 : True := trivial
theorem PySem.W.Fast.tw15345619847848905718 : True := trivial
theorem PySem.W.Fast.tw12275306253451426353 : True := trivial
theorem PySem.W.Fast.tw4843867656313037604 : True := trivial
theorem PySem.W.Fast.tw9811480517324714526 : True := trivial
theorem PySem.W.Fast.tw2727979393050296190 : True := trivial
theorem PySem.W.Fast.tw11061228902353395469 : True := trivial
theorem PySem.W.Fast.tw4191547363141931359 : True := trivial
theorem PySem.W.Fast.tw8279912827735909798 : True := trivial
theorem PySem.W.Fast.tw9374641786011093362 : True := trivial
theorem PySem.W.Fast.tw11371491671313849667 : True := trivial
theorem PySem.W.Fast.tw17481998273225761403 : True := trivial
theorem PySem.W.Fast.tw16164712025143961684 : True := trivial
theorem PySem.W.Fast.tw9946120085479501612 : True := trivial
theorem PySem.W.Fast.tw14416409907108161867 : True := trivial
theorem PySem.W.Fast.tw6446289003829989518 : True := trivial
theorem PySem.W.Fast.tw3494076979552563613 : True := trivial
theorem PySem.W.Fast.tw2653258846903101408 : True := trivial
theorem PySem.W.Fast.tw11685326989251983863 : True := trivial
theorem PySem.W.Fast.tw11624310469527614363 : True := trivial
theorem PySem.W.Fast.tw15234422656884266667 : True := trivial
theorem PySem.W.Fast.tw7842554603201139333 : True := trivial
theorem PySem.W.Fast.tw15525708999743257685 : True := trivial
theorem PySem.W.Fast.tw232066006533942462 : True := trivial
theorem PySem.W.Fast.tw6455510285686517273 : True := trivial
theorem PySem.W.Fast.tw10777141764041136345 : True := trivial
theorem PySem.W.Fast.tw9063957727048580293 : True := trivial
theorem PySem.W.Fast.tw12996779578428224020 : True := trivial
theorem PySem.W.Fast.tw11837228287976349384 : True := trivial
theorem PySem.W.Fast.tw16070056523735437778 : True := trivial
theorem PySem.W.Fast.tw2052767909364899807 : True := trivial
theorem PySem.W.Fast.tw5502892927573542445 : True := trivial
theorem PySem.W.Fast.tw14175504446244920863 : True := trivial
theorem PySem.W.Fast.tw5866543850973888515 : True := trivial
theorem PySem.W.Fast.tw1190089963585327410 : True := trivial
theorem PySem.W.Fast.tw1098359174742802173 : True := trivial
theorem PySem.W.Fast.tw6751603887182903588 : True := trivial
theorem PySem.W.Fast.tw2071228349358862376 : True := trivial
theorem PySem.W.Fast.tw9659438516299303905 : True := trivial
theorem PySem.W.Fast.tw17338786773906040209 : True := trivial
theorem PySem.W.Fast.tw548796584524101571 : True := trivial
theorem PySem.W.Fast.tw17285651223723844584 : True := trivial
theorem PySem.W.Fast.tw13722519667470323700 : True := trivial
theorem PySem.W.Fast.tw12895624705861039387 : True := trivial
theorem PySem.W.Fast.tw2877811256827637432 : True := trivial
theorem PySem.W.Fast.tw4872333779016554725 : True := trivial
theorem PySem.W.Fast.tw8951425903545937794 : True := trivial
theorem PySem.W.Fast.tw10892463342383757380 : True := trivial
theorem PySem.W.Fast.tw11784120506277240490 : True := trivial
theorem PySem.W.Fast.tw18271004724195661129 : True := trivial
theorem PySem.W.Fast.tw8179190828427636449 : True := trivial
theorem PySem.W.Fast.tw8608065694053921444 : True := trivial
theorem PySem.W.Fast.tw10754767253635913319 : True := trivial
theorem PySem.W.Fast.tw3594181137394177496 : True := trivial
theorem PySem.W.Fast.tw11808179705905399411 : True := trivial
theorem PySem.W.Fast.tw11313488062733142254 : True := trivial
theorem PySem.W.Fast.tw3945123618047836386 : True := trivial
theorem PySem.W.Fast.tw17288853403159080019 : True := trivial
theorem PySem.W.Fast.tw3538841282177382048 : True := trivial
theorem PySem.W.Fast.tw13112292282327297465 : True := trivial
theorem PySem.W.Fast.tw6719343423865518856 : True := trivial
theorem PySem.W.Fast.tw10138296736858914867 : True := trivial
theorem PySem.W.Fast.tw4676548424064401491 : True := trivial
theorem PySem.W.Fast.tw18213418262890670633 : True := trivial
theorem PySem.W.Fast.tw14487907196264107383 : True := trivial
theorem PySem.W.Fast.tw12269469653111881041 : True := trivial
theorem PySem.W.Fast.tw5925256558292973224 : True := trivial
theorem PySem.W.Fast.tw137477280975494174 : True := trivial
theorem PySem.W.Fast.tw13238590583221042243 : True := trivial
theorem PySem.W.Fast.tw11486567388414822863 : True := trivial
theorem PySem.W.Fast.tw11239301239707716803 : True := trivial
theorem PySem.W.Fast.tw14453424088825881245 : True := trivial
theorem PySem.W.Fast.tw1964948492893633915 : True := trivial
theorem PySem.W.Fast.tw6632159903236211427 : True := trivial
theorem PySem.W.Fast.tw4577795402874908359 : True := trivial
theorem PySem.W.Fast.tw3667671993728171525 : True := trivial
theorem PySem.W.Fast.tw8174207129708377333 : True := trivial
theorem PySem.W.Fast.tw4726398307053685151 : True := trivial
theorem PySem.W.Fast.tw3914720885640905287 : True := trivial
theorem PySem.W.Fast.tw8857795510169416545 : True := trivial
theorem PySem.W.Fast.tw6482079605782382756 : True := trivial
theorem PySem.W.Fast.tw14454843578108792401 : True := trivial
theorem PySem.W.Fast.tw17255590909845387918 : True := trivial
theorem PySem.W.Fast.tw286695656584561160 : True := trivial
theorem PySem.W.Fast.tw17503707855090556521 : True := trivial
theorem PySem.W.Fast.tw6521546994009523232 : True := trivial
theorem PySem.W.Fast.tw12470387517720465916 : True := trivial
theorem PySem.W.Fast.tw12106123647667299962 : True := trivial
theorem PySem.W.Fast.tw11909329113415528782 : True := trivial
theorem PySem.W.Fast.tw7349275744096226190 : True := trivial
theorem PySem.W.Fast.tw4908412036643153497 : True := trivial
theorem PySem.W.Fast.tw15239643145174539521 : True := trivial
theorem PySem.W.Fast.tw3622548393071697137 : True := trivial
theorem PySem.W.Fast.tw1608417975894576606 : True := trivial
theorem PySem.W.Fast.tw12431957225062239951 : True := trivial
theorem PySem.W.Fast.tw14574279889593288280 : True := trivial
theorem PySem.W.Fast.tw10055170428980370158 : True := trivial
theorem PySem.W.Fast.tw8876921117455094046 : True := trivial
theorem PySem.W.Fast.tw9319207739522608079 : True := trivial
theorem PySem.W.Fast.tw16908587293604639503 : True := trivial
theorem PySem.W.Fast.tw17973706578038622434 : True := trivial
theorem PySem.W.Fast.tw11099804218899636536 : True := trivial
theorem PySem.W.Fast.tw6885489656658010542 : True := trivial
theorem PySem.W.Fast.tw10527762441866382010 : True := trivial
theorem PySem.W.Fast.tw13133575845556837627 : True := trivial
theorem PySem.W.Fast.tw5091657909522534735 : True := trivial
theorem PySem.W.Fast.tw583331965866093987 : True := trivial
theorem PySem.W.Fast.tw14689947859856101336 : True := trivial
theorem PySem.W.Fast.tw1763757489371352862 : True := trivial
theorem PySem.W.Fast.tw10082247393954578160 : True := trivial
theorem PySem.W.Fast.tw7658288973394870541 : True := trivial
theorem PySem.W.Fast.tw10656522784993657642 : True := trivial
theorem PySem.W.Fast.tw16203378856462231458 : True := trivial
theorem PySem.W.Fast.tw16357907937122053446 : True := trivial
theorem PySem.W.Fast.tw14831668972148406609 : True := trivial
theorem PySem.W.Fast.tw2354865370256021814 : True := trivial
theorem PySem.W.Fast.tw5347834332706500345 : True := trivial
theorem PySem.W.Fast.tw8671605835821201788 : True := trivial
theorem PySem.W.Fast.tw15849587002520513084 : True := trivial
theorem PySem.W.Fast.tw9769407167609099163 : True := trivial
theorem PySem.W.Fast.tw13323746540366641020 : True := trivial
theorem PySem.W.Fast.tw13962955911347624344 : True := trivial
theorem PySem.W.Fast.tw3416012756046993998 : True := trivial
theorem PySem.W.Fast.tw7985758817426210958 : True := trivial
theorem PySem.W.Fast.tw169531195259045145 : True := trivial
theorem PySem.W.Fast.tw8454261417578731497 : True := trivial
theorem PySem.W.Fast.tw481247772673985169 : True := trivial
theorem PySem.W.Fast.tw4448739391165249425 : True := trivial
theorem PySem.W.Fast.tw11552012632805419710 : True := trivial
theorem PySem.W.Fast.tw17798004453020284956 : True := trivial
theorem PySem.W.Fast.tw9220241199374866502 : True := trivial
theorem PySem.W.Fast.tw6581922385041237412 : True := trivial
theorem PySem.W.Fast.tw9121772162409855441 : True := trivial
theorem PySem.W.Fast.tw9234312563234224185 : True := trivial
theorem PySem.W.Fast.tw12706367815651931806 : True := trivial
theorem PySem.W.Fast.tw6815126568250846270 : True := trivial
theorem PySem.W.Fast.tw1638947905630928772 : True := trivial
theorem PySem.W.Fast.tw4867000916476878617 : True := trivial
theorem PySem.W.Fast.tw16733381196145313179 : True := trivial
theorem PySem.W.Fast.tw849695514939166543 : True := trivial
theorem PySem.W.Fast.tw15728252907634346117 : True := trivial
theorem PySem.W.Fast.tw10293596692648502155 : True := trivial
theorem PySem.W.Fast.tw11644826539896043898 : True := trivial
theorem PySem.W.Fast.tw8034394459603078518 : True := trivial
theorem PySem.W.Fast.tw10989820292249098548 : True := trivial
theorem PySem.W.Fast.tw15126694171191145303 : True := trivial
theorem PySem.W.Fast.tw6845418259058938922 : True := trivial
theorem PySem.W.Fast.tw6268144361765415699 : True := trivial
theorem PySem.W.Fast.tw16999953455957697917 : True := trivial
theorem PySem.W.Fast.tw1971718805085801817 : True := trivial
theorem PySem.W.Fast.tw2386356639113939240 : True := trivial
theorem PySem.W.Fast.tw3483670300782241505 : True := trivial
theorem PySem.W.Fast.tw10753872396036312865 : True := trivial
theorem PySem.W.Fast.tw171801501151743042 : True := trivial
theorem PySem.W.Fast.tw15318496953832179385 : True := trivial
theorem PySem.W.Fast.tw6789671306102526920 : True := trivial
theorem PySem.W.Fast.tw8969174658460854691 : True := trivial
theorem PySem.W.Fast.tw14872166891741694224 : True := trivial
theorem PySem.W.Fast.tw15766622841715738003 : True := trivial
theorem PySem.W.Fast.tw1879896985662756936 : True := trivial
theorem PySem.W.Fast.tw11742430261839178295 : True := trivial
theorem PySem.W.Fast.tw9382779989053582144 : True := trivial
theorem PySem.W.Fast.tw18308966814221493682 : True := trivial
theorem PySem.W.Fast.tw13577057996967095743 : True := trivial
theorem PySem.W.Fast.tw5156108618913270780 : True := trivial
theorem PySem.W.Fast.tw3392379715425914227 : True := trivial
theorem PySem.W.Fast.tw16291029333025599210 : True := trivial
theorem PySem.W.Fast.tw10976603017616045541 : True := trivial
theorem PySem.W.Fast.tw3432609665857558133 : True := trivial
theorem PySem.W.Fast.tw825688577991108050 : True := trivial
theorem PySem.W.Fast.tw13236917552604302753 : True := trivial
theorem PySem.W.Fast.tw16967173388084631919 : True := trivial
theorem PySem.W.Fast.tw1786415559077865557 : True := trivial
theorem PySem.W.Fast.tw5012211551019858393 : True := trivial
theorem PySem.W.Fast.tw18066516121436257825 : True := trivial
theorem PySem.W.Fast.tw816115073134820809 : True := trivial
theorem PySem.W.Fast.tw16143321192983697179 : True := trivial
theorem PySem.W.Fast.tw11215282596703694418 : True := trivial
theorem PySem.W.Fast.tw4471668205376289421 : True := trivial
theorem PySem.W.Fast.tw8454583136097275989 : True := trivial
theorem PySem.W.Fast.tw9291181162963329752 : True := trivial
theorem PySem.W.Fast.tw13549758658454576718 : True := trivial
theorem PySem.W.Fast.tw8812390920412067169 : True := trivial
theorem PySem.W.Fast.tw5342719092176348201 : True := trivial
theorem PySem.W.Fast.tw4919170238513776724 : True := trivial
theorem PySem.W.Fast.tw8806434227912836684 : True := trivial
theorem PySem.W.Fast.tw18151692244090263278 : True := trivial
theorem PySem.W.Fast.tw2171537970644359097 : True := trivial
theorem PySem.W.Fast.tw15210089640398580255 : True := trivial
theorem PySem.W.Fast.tw4287063384145226450 : True := trivial
theorem PySem.W.Fast.tw10801894033784965921 : True := trivial
theorem PySem.W.Fast.tw17493195656464225717 : True := trivial
theorem PySem.W.Fast.tw2454208207807087904 : True := trivial
theorem PySem.W.Fast.tw8575034325208812016 : True := trivial
theorem PySem.W.Fast.tw10498277447642467724 : True := trivial
theorem PySem.W.Fast.tw5758418792129233226 : True := trivial
theorem PySem.W.Fast.tw7934428721905398836 : True := trivial
theorem PySem.W.Fast.tw2154597614141831585 : True := trivial
theorem PySem.W.Fast.tw13806774452564218886 : True := trivial
theorem PySem.W.Fast.tw1764523906622089993 : True := trivial
theorem PySem.W.Fast.tw6053133991215174648 : True := trivial
theorem PySem.W.Fast.tw69304643783785724 : True := trivial
theorem PySem.W.Fast.tw16332378459853408285 : True := trivial
theorem PySem.W.Fast.tw7169241299612724964 : True := trivial
theorem PySem.W.Fast.tw5300092641095191961 : True := trivial
theorem PySem.W.Fast.tw13302848398037330203 : True := trivial
theorem PySem.W.Fast.tw5020705322256544475 : True := trivial
theorem PySem.W.Fast.tw16780958974659772056 : True := trivial
theorem PySem.W.Fast.tw13549101914413446549 : True := trivial
theorem PySem.W.Fast.tw16690125072251678610 : True := trivial
theorem PySem.W.Fast.tw11636196565241184378 : True := trivial
theorem PySem.W.Fast.tw12645369046506282350 : True := trivial
theorem PySem.W.Fast.tw703762755778288116 : True := trivial
theorem PySem.W.Fast.tw9292798927327120994 : True := trivial
theorem PySem.W.Fast.tw5432151319008245553 : True := trivial
theorem PySem.W.Fast.tw16683436266092459248 : True := trivial
theorem PySem.W.Fast.tw12519150249931596911 : True := trivial
theorem PySem.W.Fast.tw9413829492070704770 : True := trivial
theorem PySem.W.Fast.tw7998703499915513791 : True := trivial
theorem PySem.W.Fast.tw678394742880396805 : True := trivial
theorem PySem.W.Fast.tw6306357680343209407 : True := trivial
theorem PySem.W.Fast.tw3570311804026954238 : True := trivial
theorem PySem.W.Fast.tw14093640524936833806 : True := trivial
theorem PySem.W.Fast.tw541794646640242953 : True := trivial
theorem PySem.W.Fast.tw12458779520807179974 : True := trivial
theorem PySem.W.Fast.tw650843097900972456 : True := trivial
theorem PySem.W.Fast.tw6384398263432066073 : True := trivial
theorem PySem.W.Fast.tw16124359936804412960 : True := trivial
theorem PySem.W.Fast.tw14101169097212789156 : True := trivial
theorem PySem.W.Fast.tw6727582852926427006 : True := trivial
theorem PySem.W.Fast.tw13043321229596524260 : True := trivial
theorem PySem.W.Fast.tw5929625365827532763 : True := trivial
theorem PySem.W.Fast.tw9911711428179556649 : True := trivial
theorem PySem.W.Fast.tw8757575969399758856 : True := trivial
theorem PySem.W.Fast.tw11475281355199467949 : True := trivial
theorem PySem.W.Fast.tw3329765648462163538 : True := trivial
theorem PySem.W.Fast.tw1110041590545973139 : True := trivial
theorem PySem.W.Fast.tw7000830896051115107 : True := trivial
theorem PySem.W.Fast.tw2974816338002150425 : True := trivial
theorem PySem.W.Fast.tw16429136643411406077 : True := trivial
theorem PySem.W.Fast.tw5998423099642044289 : True := trivial
theorem PySem.W.Fast.tw1324567996885391438 : True := trivial
theorem PySem.W.Fast.tw6331600705693788712 : True := trivial
theorem PySem.W.Fast.tw15747625146202291233 : True := trivial
theorem PySem.W.Fast.tw2068075989626932919 : True := trivial
theorem PySem.W.Fast.tw12174513608285304193 : True := trivial
theorem PySem.W.Fast.tw100685640732048344 : True := trivial
theorem PySem.W.Fast.tw13226523854881913369 : True := trivial
theorem PySem.W.Fast.tw13360793973370777277 : True := trivial
theorem PySem.W.Fast.tw11507773115036846427 : True := trivial
theorem PySem.W.Fast.tw14963759260286404875 : True := trivial
theorem PySem.W.Fast.tw286103433744855290 : True := trivial
theorem PySem.W.Fast.tw11797725111085372392 : True := trivial
theorem PySem.W.Fast.tw18444819449821735001 : True := trivial
theorem PySem.W.Fast.tw16741024332494851751 : True := trivial
theorem PySem.W.Fast.tw1839423892752208002 : True := trivial
theorem PySem.W.Fast.tw17129465928559969578 : True := trivial
theorem PySem.W.Fast.tw2547916370120662274 : True := trivial
theorem PySem.W.Fast.tw2169830753046411100 : True := trivial
theorem PySem.W.Fast.tw11347277669885187843 : True := trivial
theorem PySem.W.Fast.tw5308737448628286038 : True := trivial
theorem PySem.W.Fast.tw18218892609923468540 : True := trivial
theorem PySem.W.Fast.tw1989172324627589815 : True := trivial
theorem PySem.W.Fast.tw14728935650829459573 : True := trivial
theorem PySem.W.Fast.tw9624864073289999940 : True := trivial
theorem PySem.W.Fast.tw17254072708140704571 : True := trivial
theorem PySem.W.Fast.tw5624280030042967092 : True := trivial
theorem PySem.W.Fast.tw8267083041079230986 : True := trivial
theorem PySem.W.Fast.tw13708933776184119313 : True := trivial
theorem PySem.W.Fast.tw3119218262527644852 : True := trivial
theorem PySem.W.Fast.tw13606842337727342832 : True := trivial
theorem PySem.W.Fast.tw6534104974115808605 : True := trivial
theorem PySem.W.Fast.tw10832604679320586398 : True := trivial
theorem PySem.W.Fast.tw6026087243745041898 : True := trivial
theorem PySem.W.Fast.tw3442817923863280991 : True := trivial
theorem PySem.W.Fast.tw1621776947635008015 : True := trivial
theorem PySem.W.Fast.tw15860146034901985168 : True := trivial
theorem PySem.W.Fast.tw599532019917012986 : True := trivial
theorem PySem.W.Fast.tw14495591384462420967 : True := trivial
theorem PySem.W.Fast.tw6695852034243071468 : True := trivial
theorem PySem.W.Fast.tw3005469957543225198 : True := trivial
theorem PySem.W.Fast.tw7348444446894262854 : True := trivial
theorem PySem.W.Fast.tw16307707343177043297 : True := trivial
theorem PySem.W.Fast.tw17255795709235072226 : True := trivial
theorem PySem.W.Fast.tw12798568703032916032 : True := trivial
theorem PySem.W.Fast.tw8523101130168918678 : True := trivial
theorem PySem.W.Fast.tw13839669678859682047 : True := trivial
theorem PySem.W.Fast.tw764953984112731376 : True := trivial
theorem PySem.W.Fast.tw12239802559141441583 : True := trivial
theorem PySem.W.Fast.tw6375157597227991443 : True := trivial
theorem PySem.W.Fast.tw12026448805584444327 : True := trivial
theorem PySem.W.Fast.tw7791806914580493436 : True := trivial
theorem PySem.W.Fast.tw9681085214938952471 : True := trivial
theorem PySem.W.Fast.tw13100090828657129046 : True := trivial
theorem PySem.W.Fast.tw7224097332022621054 : True := trivial
theorem PySem.W.Fast.tw15178308626844372285 : True := trivial
theorem PySem.W.Fast.tw815785147418855408 : True := trivial
theorem PySem.W.Fast.tw14593376235359276316 : True := trivial
theorem PySem.W.Fast.tw11652238291903012264 : True := trivial
theorem PySem.W.Fast.tw15090276886676024662 : True := trivial
theorem PySem.W.Fast.tw1571491221686610644 : True := trivial
theorem PySem.W.Fast.tw17039530553652385332 : True := trivial
theorem PySem.W.Fast.tw14070569745267534361 : True := trivial
theorem PySem.W.Fast.tw9143177234265009149 : True := trivial
theorem PySem.W.Fast.tw9143479047142094044 : True := trivial
theorem PySem.W.Fast.tw2889809174503239106 : True := trivial
theorem PySem.W.Fast.tw6067376793289888429 : True := trivial
theorem PySem.W.Fast.tw6203856497335415556 : True := trivial
theorem PySem.W.Fast.tw1341377541689923390 : True := trivial
theorem PySem.W.Fast.tw11429374667773724423 : True := trivial
theorem PySem.W.Fast.tw18349805524003238112 : True := trivial
theorem PySem.W.Fast.tw17568578642354552086 : True := trivial
theorem PySem.W.Fast.tw12130411635836868354 : True := trivial
theorem PySem.W.Fast.tw6185781400279658391 : True := trivial
theorem PySem.W.Fast.tw4774311784704896846 : True := trivial
theorem PySem.W.Fast.tw14321264524873510729 : True := trivial
theorem PySem.W.Fast.tw14877725997544951192 : True := trivial
theorem PySem.W.Fast.tw10148493082627962949 : True := trivial
theorem PySem.W.Fast.tw7055208161338608737 : True := trivial
theorem PySem.W.Fast.tw13788073710728370594 : True := trivial
theorem PySem.W.Fast.tw5830359328219797589 : True := trivial
theorem PySem.W.Fast.tw13120053002418381833 : True := trivial
theorem PySem.W.Fast.tw7519853642760016549 : True := trivial
theorem PySem.W.Fast.tw2644156211732647404 : True := trivial
theorem PySem.W.Fast.tw3947575121969984478 : True := trivial
theorem PySem.W.Fast.tw9645357069026284539 : True := trivial
theorem PySem.W.Fast.tw10943198980620519647 : True := trivial
theorem PySem.W.Fast.tw4491194906667149708 : True := trivial
theorem PySem.W.Fast.tw2723440749528126045 : True := trivial
theorem PySem.W.Fast.tw13137439055960855039 : True := trivial
theorem PySem.W.Fast.tw10481267656398260392 : True := trivial
theorem PySem.W.Fast.tw11530328470942094359 : True := trivial
theorem PySem.W.Fast.tw9505760190399061835 : True := trivial
theorem PySem.W.Fast.tw16956155977236318245 : True := trivial
theorem PySem.W.Fast.tw4908471344067762220 : True := trivial
theorem PySem.W.Fast.tw4278717405513650179 : True := trivial
theorem PySem.W.Fast.tw11505094432091939151 : True := trivial
theorem PySem.W.Fast.tw9292115782957044514 : True := trivial
theorem PySem.W.Fast.tw16787057766279695673 : True := trivial
theorem PySem.W.Fast.tw1604304919071952265 : True := trivial
theorem PySem.W.Fast.tw2477317527635577744 : True := trivial
theorem PySem.W.Fast.tw3150795233440256225 : True := trivial
theorem PySem.W.Fast.tw11506742704319592243 : True := trivial
theorem PySem.W.Fast.tw7014631820203229482 : True := trivial
theorem PySem.W.Fast.tw13656529762617090588 : True := trivial
theorem PySem.W.Fast.tw17317525442124506395 : True := trivial
theorem PySem.W.Fast.tw6624596584993095828 : True := trivial
theorem PySem.W.Fast.tw7256134706855670673 : True := trivial
theorem PySem.W.Fast.tw4320326968897814168 : True := trivial
theorem PySem.W.Fast.tw13998100877754866744 : True := trivial
theorem PySem.W.Fast.tw622176559695135058 : True := trivial
theorem PySem.W.Fast.tw6077950190832719320 : True := trivial
theorem PySem.W.Fast.tw16368643684740436652 : True := trivial
theorem PySem.W.Fast.tw16817495630757434638 : True := trivial
theorem PySem.W.Fast.tw8289805606748774972 : True := trivial
theorem PySem.W.Fast.tw2664156165569475311 : True := trivial
theorem PySem.W.Fast.tw14225969224769812253 : True := trivial
theorem PySem.W.Fast.tw9335774617975051417 : True := trivial
theorem PySem.W.Fast.tw17295611849916535351 : True := trivial
theorem PySem.W.Fast.tw8641207137990660000 : True := trivial
theorem PySem.W.Fast.tw15593937442478183059 : True := trivial
theorem PySem.W.Fast.tw10366697992650264974 : True := trivial
theorem PySem.W.Fast.tw6131947666173272705 : True := trivial
theorem PySem.W.Fast.tw33984139576168918 : True := trivial
theorem PySem.W.Fast.tw14784496952440677097 : True := trivial
theorem PySem.W.Fast.tw13814617193589326261 : True := trivial
theorem PySem.W.Fast.tw1920147440581468529 : True := trivial
theorem PySem.W.Fast.tw17933324443347772776 : True := trivial
theorem PySem.W.Fast.tw15770624672894575842 : True := trivial
theorem PySem.W.Fast.tw9510536148526755484 : True := trivial
theorem PySem.W.Fast.tw7995207511266012461 : True := trivial
theorem PySem.W.Fast.tw4452853726540291471 : True := trivial
theorem PySem.W.Fast.tw10639360926831110789 : True := trivial
theorem PySem.W.Fast.tw10903948119468238311 : True := trivial
theorem PySem.W.Fast.tw18442126499253109996 : True := trivial
theorem PySem.W.Fast.tw16008463345557302066 : True := trivial
theorem PySem.W.Fast.tw7938077217682089468 : True := trivial
theorem PySem.W.Fast.tw8413563760265028700 : True := trivial
theorem PySem.W.Fast.tw10119590188956307467 : True := trivial
theorem PySem.W.Fast.tw4096751756251308392 : True := trivial
theorem PySem.W.Fast.tw7539172601607920315 : True := trivial
theorem PySem.W.Fast.tw13360175665719549114 : True := trivial
theorem PySem.W.Fast.tw15121747296482264425 : True := trivial
theorem PySem.W.Fast.tw9255434377146103889 : True := trivial
theorem PySem.W.Fast.tw13725661034207748421 : True := trivial
theorem PySem.W.Fast.tw11435907983970334375 : True := trivial
theorem PySem.W.Fast.tw5251012136653003643 : True := trivial
theorem PySem.W.Fast.tw14753670132960315075 : True := trivial
theorem PySem.W.Fast.tw11619341375943563032 : True := trivial
theorem PySem.W.Fast.tw16436749805580929557 : True := trivial
theorem PySem.W.Fast.tw12081708982909077925 : True := trivial
theorem PySem.W.Fast.tw12388102926122006343 : True := trivial
theorem PySem.W.Fast.tw7220104601459504983 : True := trivial
theorem PySem.W.Fast.tw17209580647868476471 : True := trivial
theorem PySem.W.Fast.tw678093066299234786 : True := trivial
theorem PySem.W.Fast.tw4298635268925991012 : True := trivial
theorem PySem.W.Fast.tw7389526584239031927 : True := trivial
theorem PySem.W.Fast.tw3792548571609477347 : True := trivial
theorem PySem.W.Fast.tw10442149515265811900 : True := trivial
theorem PySem.W.Fast.tw3373041774372502480 : True := trivial
theorem PySem.W.Fast.tw5654546261351443461 : True := trivial
theorem PySem.W.Fast.tw7054775010047718737 : True := trivial
theorem PySem.W.Fast.tw17102601997267784405 : True := trivial
theorem PySem.W.Fast.tw2458201752660853551 : True := trivial
theorem PySem.W.Fast.tw620809982076378334 : True := trivial
theorem PySem.W.Fast.tw7842184035257724317 : True := trivial
theorem PySem.W.Fast.tw4470044585748711267 : True := trivial
theorem PySem.W.Fast.tw13028610866314356366 : True := trivial
theorem PySem.W.Fast.tw7563935857637348262 : True := trivial
theorem PySem.W.Fast.tw9474585040978993953 : True := trivial
theorem PySem.W.Fast.tw15527774510985446687 : True := trivial
theorem PySem.W.Fast.tw6864819761146353296 : True := trivial
theorem PySem.W.Fast.tw15471273377172349370 : True := trivial
theorem PySem.W.Fast.tw1468569470185233960 : True := trivial
theorem PySem.W.Fast.tw10805119801124796801 : True := trivial
theorem PySem.W.Fast.tw6961073696730812891 : True := trivial
theorem PySem.W.Fast.tw9413118394250864196 : True := trivial
theorem PySem.W.Fast.tw10042373912374436600 : True := trivial
theorem PySem.W.Fast.tw17462528965785219174 : True := trivial
theorem PySem.W.Fast.tw14913533846232922042 : True := trivial
theorem PySem.W.Fast.tw16042898688318913935 : True := trivial
theorem PySem.W.Fast.tw10776683369248724245 : True := trivial
theorem PySem.W.Fast.tw12869482316050793854 : True := trivial
theorem PySem.W.Fast.tw18069707408064509241 : True := trivial
theorem PySem.W.Fast.tw7908919923029373312 : True := trivial
theorem PySem.W.Fast.tw7713745570164525943 : True := trivial
theorem PySem.W.Fast.tw7657063383142342036 : True := trivial
theorem PySem.W.Fast.tw3453453416164266318 : True := trivial
theorem PySem.W.Fast.tw14926819172487552330 : True := trivial
theorem PySem.W.Fast.tw5577136032679831215 : True := trivial
theorem PySem.W.Fast.tw3554608162462119749 : True := trivial
theorem PySem.W.Fast.tw4433582140836996532 : True := trivial
theorem PySem.W.Fast.tw13411769675236896997 : True := trivial
theorem PySem.W.Fast.tw12048543904987463580 : True := trivial
theorem PySem.W.Fast.tw13015166582362853876 : True := trivial
theorem PySem.W.Fast.tw18326056091674092358 : True := trivial
theorem PySem.W.Fast.tw2338274308650547812 : True := trivial
theorem PySem.W.Fast.tw4845053354160914751 : True := trivial
theorem PySem.W.Fast.tw12326488838108833308 : True := trivial
theorem PySem.W.Fast.tw13889793897635911782 : True := trivial
theorem PySem.W.Fast.tw17502515057164589413 : True := trivial
theorem PySem.W.Fast.tw6980288680249764111 : True := trivial
theorem PySem.W.Fast.tw2196630857012444393 : True := trivial
theorem PySem.W.Fast.tw10004593726054922843 : True := trivial
theorem PySem.W.Fast.tw8022780971506132772 : True := trivial
theorem PySem.W.Fast.tw3130906842188034564 : True := trivial
theorem PySem.W.Fast.tw1835698675736923087 : True := trivial
theorem PySem.W.Fast.tw6607429962169215364 : True := trivial
theorem PySem.W.Fast.tw5811580753550587490 : True := trivial
theorem PySem.W.Fast.tw14821382949601727697 : True := trivial
theorem PySem.W.Fast.tw15144539460839866203 : True := trivial
theorem PySem.W.Fast.tw5822724675490652633 : True := trivial
theorem PySem.W.Fast.tw4490091572185965863 : True := trivial
theorem PySem.W.Fast.tw16531784436722711931 : True := trivial
theorem PySem.W.Fast.tw2477331534878182827 : True := trivial
theorem PySem.W.Fast.tw10819664897767698990 : True := trivial
theorem PySem.W.Fast.tw138543253085758698 : True := trivial
theorem PySem.W.Fast.tw2906072566898241501 : True := trivial
theorem PySem.W.Fast.tw1666266048057355879 : True := trivial
theorem PySem.W.Fast.tw7610910318923404699 : True := trivial
theorem PySem.W.Fast.tw6093316917044207739 : True := trivial
theorem PySem.W.Fast.tw3716870247693776284 : True := trivial
theorem PySem.W.Fast.tw5872046205564063479 : True := trivial
theorem PySem.W.Fast.tw6446829642115998585 : True := trivial
theorem PySem.W.Fast.tw14729070063894352951 : True := trivial
theorem PySem.W.Fast.tw721578987208673989 : True := trivial
theorem PySem.W.Fast.tw11530299029919211958 : True := trivial
theorem PySem.W.Fast.tw4207250184544267036 : True := trivial
theorem PySem.W.Fast.tw15705875158052359693 : True := trivial
theorem PySem.W.Fast.tw2375252862610609157 : True := trivial
theorem PySem.W.Fast.tw3516128533189003527 : True := trivial
theorem PySem.W.Fast.tw11393745925053971783 : True := trivial
theorem PySem.W.Fast.tw7964684848924460269 : True := trivial
theorem PySem.W.Fast.tw8086895458427268344 : True := trivial
theorem PySem.W.Fast.tw16539018313649026164 : True := trivial
theorem PySem.W.Fast.tw8076653831983152280 : True := trivial
theorem PySem.W.Fast.tw8598592472906415301 : True := trivial
theorem PySem.W.Fast.tw2339163021027602495 : True := trivial
theorem PySem.W.Fast.tw882710872639004187 : True := trivial
theorem PySem.W.Fast.tw14926179887705132957 : True := trivial
theorem PySem.W.Fast.tw10625146589924686915 : True := trivial
theorem PySem.W.Fast.tw5709706213344832892 : True := trivial
theorem PySem.W.Fast.tw5480880920941877426 : True := trivial
theorem PySem.W.Fast.tw16850867424335988529 : True := trivial
theorem PySem.W.Fast.tw10794463882862655946 : True := trivial
theorem PySem.W.Fast.tw14385110994813806932 : True := trivial
theorem PySem.W.Fast.tw171673688919831015 : True := trivial
theorem PySem.W.Fast.tw15932971985474301821 : True := trivial
theorem PySem.W.Fast.tw4356687813715220701 : True := trivial
theorem PySem.W.Fast.tw107837447390089720 : True := trivial
theorem PySem.W.Fast.tw4009177884368884661 : True := trivial
theorem PySem.W.Fast.tw13743716431182680514 : True := trivial
theorem PySem.W.Fast.tw10804481990322360809 : True := trivial
theorem PySem.W.Fast.tw11478545892903089116 : True := trivial
theorem PySem.W.Fast.tw13235216506665164654 : True := trivial
theorem PySem.W.Fast.tw15464242559724524542 : True := trivial
theorem PySem.W.Fast.tw7295715481536702477 : True := trivial
theorem PySem.W.Fast.tw15937097269009470551 : True := trivial
theorem PySem.W.Fast.tw3045991965236245697 : True := trivial
theorem PySem.W.Fast.tw14742699699192414007 : True := trivial
theorem PySem.W.Fast.tw7882444506886062515 : True := trivial
theorem PySem.W.Fast.tw4212971769630684213 : True := trivial
theorem PySem.W.Fast.tw9490488653453139839 : True := trivial
theorem PySem.W.Fast.tw7130242926333479915 : True := trivial
theorem PySem.W.Fast.tw15452857947883527223 : True := trivial
theorem PySem.W.Fast.tw14015212262458893022 : True := trivial
theorem PySem.W.Fast.tw6083024430153732298 : True := trivial
theorem PySem.W.Fast.tw9375666594527967622 : True := trivial
theorem PySem.W.Fast.tw7757687238773732342 : True := trivial
theorem PySem.W.Fast.tw17133365715651191847 : True := trivial
theorem PySem.W.Fast.tw2008698694299110546 : True := trivial
theorem PySem.W.Fast.tw8818411704668124134 : True := trivial
theorem PySem.W.Fast.tw9539023134775421414 : True := trivial
theorem PySem.W.Fast.tw2936817774707412473 : True := trivial
theorem PySem.W.Fast.tw16418643285668016367 : True := trivial
theorem PySem.W.Fast.tw9209222279349099630 : True := trivial
theorem PySem.W.Fast.tw7132856712136519806 : True := trivial
theorem PySem.W.Fast.tw8772803594223806700 : True := trivial
theorem PySem.W.Fast.tw533107582977247946 : True := trivial
theorem PySem.W.Fast.tw10055991222700695781 : True := trivial
theorem PySem.W.Fast.tw14317949371166234157 : True := trivial
theorem PySem.W.Fast.tw6454147048936502230 : True := trivial
theorem PySem.W.Fast.tw6421308833369071953 : True := trivial
theorem PySem.W.Fast.tw2409481002518874183 : True := trivial
theorem PySem.W.Fast.tw10003253928903626683 : True := trivial
theorem PySem.W.Fast.tw17654475628287096611 : True := trivial
theorem PySem.W.Fast.tw3564909809229218229 : True := trivial
theorem PySem.W.Fast.tw13619174125445087669 : True := trivial
theorem PySem.W.Fast.tw2568613514581281322 : True := trivial
theorem PySem.W.Fast.tw15770432714734266944 : True := trivial
theorem PySem.W.Fast.tw17935118574120342212 : True := trivial
theorem PySem.W.Fast.tw16270988154295582593 : True := trivial
theorem PySem.W.Fast.tw2995793821567660880 : True := trivial
theorem PySem.W.Fast.tw16069923355270427469 : True := trivial
theorem PySem.W.Fast.tw54948161685188554 : True := trivial
theorem PySem.W.Fast.tw88412740563163709 : True := trivial
theorem PySem.W.Fast.tw13380857618578872377 : True := trivial
theorem PySem.W.Fast.tw4104022954166592438 : True := trivial
theorem PySem.W.Fast.tw18168600509395227648 : True := trivial
theorem PySem.W.Fast.tw5074552854159142975 : True := trivial
theorem PySem.W.Fast.tw7083777785580960131 : True := trivial
theorem PySem.W.Fast.tw10077248288151329871 : True := trivial
theorem PySem.W.Fast.tw4179134169580100413 : True := trivial
theorem PySem.W.Fast.tw12140173320194958349 : True := trivial
theorem PySem.W.Fast.tw13670752039381642805 : True := trivial
theorem PySem.W.Fast.tw1980816876358498629 : True := trivial
theorem PySem.W.Fast.tw8442951608071190704 : True := trivial
theorem PySem.W.Fast.tw11988275415494518653 : True := trivial
theorem PySem.W.Fast.tw17000829242904484026 : True := trivial
theorem PySem.W.Fast.tw16252212917498753135 : True := trivial
theorem PySem.W.Fast.tw310287974909487822 : True := trivial
theorem PySem.W.Fast.tw15327268970861771824 : True := trivial
theorem PySem.W.Fast.tw9368884372754338227 : True := trivial
theorem PySem.W.Fast.tw10694938931503859576 : True := trivial
theorem PySem.W.Fast.tw2842612758322365593 : True := trivial
theorem PySem.W.Fast.tw12385736995770634111 : True := trivial
theorem PySem.W.Fast.tw7846370827951311700 : True := trivial
theorem PySem.W.Fast.tw1466742256317181238 : True := trivial
theorem PySem.W.Fast.tw1927864089244545258 : True := trivial
theorem PySem.W.Fast.tw2288785573402774577 : True := trivial
theorem PySem.W.Fast.tw14814995341337088950 : True := trivial
theorem PySem.W.Fast.tw11638842868093820227 : True := trivial
theorem PySem.W.Fast.tw5608196053583745518 : True := trivial
theorem PySem.W.Fast.tw496535860578084289 : True := trivial
theorem PySem.W.Fast.tw1281020645964950720 : True := trivial
theorem PySem.W.Fast.tw1708759572725853492 : True := trivial
theorem PySem.W.Fast.tw3340060325454296380 : True := trivial
theorem PySem.W.Fast.tw494897380587649867 : True := trivial
theorem PySem.W.Fast.tw464706168087719578 : True := trivial
theorem PySem.W.Fast.tw9258787522702489552 : True := trivial
theorem PySem.W.Fast.tw6322591670226821515 : True := trivial
theorem PySem.W.Fast.tw425525900675251323 : True := trivial
theorem PySem.W.Fast.tw14439930023753627735 : True := trivial
theorem PySem.W.Fast.tw6221468461073110179 : True := trivial
theorem PySem.W.Fast.tw16813611723774935753 : True := trivial
theorem PySem.W.Fast.tw7261491962808707806 : True := trivial
theorem PySem.W.Fast.tw3680015458634093346 : True := trivial
theorem PySem.W.Fast.tw17651511161755723467 : True := trivial
theorem PySem.W.Fast.tw2552325127364179726 : True := trivial
theorem PySem.W.Fast.tw14088115190938690247 : True := trivial
theorem PySem.W.Fast.tw16414452525968413056 : True := trivial
theorem PySem.W.Fast.tw2707779966182253863 : True := trivial
theorem PySem.W.Fast.tw15493210803032175175 : True := trivial
theorem PySem.W.Fast.tw6965513645076448361 : True := trivial
theorem PySem.W.Fast.tw1995061466657727346 : True := trivial
theorem PySem.W.Fast.tw10105494564698707386 : True := trivial
theorem PySem.W.Fast.tw5714752354322199479 : True := trivial
theorem PySem.W.Fast.tw11313777518591857585 : True := trivial
theorem PySem.W.Fast.tw8336749188869153932 : True := trivial
theorem PySem.W.Fast.tw11798653968932072850 : True := trivial
theorem PySem.W.Fast.tw11530129639955631088 : True := trivial
theorem PySem.W.Fast.tw3002822455209953135 : True := trivial
theorem PySem.W.Fast.tw5953476743892599390 : True := trivial
theorem PySem.W.Fast.tw9955209521249044042 : True := trivial
theorem PySem.W.Fast.tw9051540279947656545 : True := trivial
theorem PySem.W.Fast.tw6708732918971789760 : True := trivial
theorem PySem.W.Fast.tw8394338529786655369 : True := trivial
theorem PySem.W.Fast.tw16221216135021414577 : True := trivial
theorem PySem.W.Fast.tw10115783662512919729 : True := trivial
theorem PySem.W.Fast.tw8954725103484539148 : True := trivial
theorem PySem.W.Fast.tw7463061333023750340 : True := trivial
theorem PySem.W.Fast.tw4921621087843900712 : True := trivial
theorem PySem.W.Fast.tw6155202106603539815 : True := trivial
theorem PySem.W.Fast.tw3979053520358425784 : True := trivial
theorem PySem.W.Fast.tw3142560073393572156 : True := trivial
theorem PySem.W.Fast.tw15266498749052571794 : True := trivial
theorem PySem.W.Fast.tw9410993447048357627 : True := trivial
theorem PySem.W.Fast.tw1202162435287036885 : True := trivial
theorem PySem.W.Fast.tw6652538898573800708 : True := trivial
theorem PySem.W.Fast.tw1265636669783873043 : True := trivial
theorem PySem.W.Fast.tw9077242659977280113 : True := trivial
theorem PySem.W.Fast.tw925533804902495805 : True := trivial
theorem PySem.W.Fast.tw10723341457905648423 : True := trivial
theorem PySem.W.Fast.tw12751978625123267934 : True := trivial
theorem PySem.W.Fast.tw7519268121114689190 : True := trivial
theorem PySem.W.Fast.tw3772867836019348078 : True := trivial
theorem PySem.W.Fast.tw6180309007108358464 : True := trivial
theorem PySem.W.Fast.tw6253463106171330068 : True := trivial
theorem PySem.W.Fast.tw10500289820812174468 : True := trivial
theorem PySem.W.Fast.tw3708907697359934845 : True := trivial
theorem PySem.W.Fast.tw3160172360650249993 : True := trivial
theorem PySem.W.Fast.tw16689417464452882383 : True := trivial
theorem PySem.W.Fast.tw3962463246828206787 : True := trivial
theorem PySem.W.Fast.tw16067098802926809962 : True := trivial
theorem PySem.W.Fast.tw10469950641988758343 : True := trivial
theorem PySem.W.Fast.tw12813455963266631113 : True := trivial
theorem PySem.W.Fast.tw2484126018014871809 : True := trivial
theorem PySem.W.Fast.tw9551163961749128339 : True := trivial
theorem PySem.W.Fast.tw13540225694596341711 : True := trivial
theorem PySem.W.Fast.tw13633475258490073247 : True := trivial
theorem PySem.W.Fast.tw9030972472869968322 : True := trivial
theorem PySem.W.Fast.tw11087713796636944323 : True := trivial
theorem PySem.W.Fast.tw6855369928137030588 : True := trivial
theorem PySem.W.Fast.tw984910178086095934 : True := trivial
theorem PySem.W.Fast.tw11029333902707522755 : True := trivial
theorem PySem.W.Fast.tw12008887548108336033 : True := trivial
theorem PySem.W.Fast.tw2406063218677786848 : True := trivial
theorem PySem.W.Fast.tw7205654508709480210 : True := trivial
theorem PySem.W.Fast.tw2063660189026966273 : True := trivial
theorem PySem.W.Fast.tw7371114178550803371 : True := trivial
theorem PySem.W.Fast.tw386785008248584928 : True := trivial
theorem PySem.W.Fast.tw10475091283547690544 : True := trivial
theorem PySem.W.Fast.tw8019261394744918110 : True := trivial
theorem PySem.W.Fast.tw472454544613315674 : True := trivial
theorem PySem.W.Fast.tw12032082508228265772 : True := trivial
theorem PySem.W.Fast.tw4703598626616086306 : True := trivial
theorem PySem.W.Fast.tw9569106662982912882 : True := trivial
theorem PySem.W.Fast.tw10418289674517040770 : True := trivial
theorem PySem.W.Fast.tw13469138142264268150 : True := trivial
theorem PySem.W.Fast.tw5067468941343577178 : True := trivial
theorem PySem.W.Fast.tw18368471233897146500 : True := trivial
theorem PySem.W.Fast.tw1136638979913656445 : True := trivial
theorem PySem.W.Fast.tw9230581913009943834 : True := trivial
theorem PySem.W.Fast.tw1598564781320930420 : True := trivial
theorem PySem.W.Fast.tw13298051418054998355 : True := trivial
theorem PySem.W.Fast.tw5728399689996661600 : True := trivial
theorem PySem.W.Fast.tw13186505370649938888 : True := trivial
theorem PySem.W.Fast.tw15012320720212387128 : True := trivial
theorem PySem.W.Fast.tw8538092882581085284 : True := trivial
theorem PySem.W.Fast.tw2332626527599831619 : True := trivial
theorem PySem.W.Fast.tw5071577142406461793 : True := trivial
theorem PySem.W.Fast.tw13970342021943795779 : True := trivial
theorem PySem.W.Fast.tw16970788125879539599 : True := trivial
theorem PySem.W.Fast.tw234841566757524473 : True := trivial
theorem PySem.W.Fast.tw15211210771228100712 : True := trivial
theorem PySem.W.Fast.tw1482455085153177502 : True := trivial
theorem PySem.W.Fast.tw785329646870196850 : True := trivial
theorem PySem.W.Fast.tw6909840356054600169 : True := trivial
theorem PySem.W.Fast.tw12364435908215871174 : True := trivial
theorem PySem.W.Fast.tw18301884253912738784 : True := trivial
theorem PySem.W.Fast.tw9133601626847098687 : True := trivial
theorem PySem.W.Fast.tw15120720005007925751 : True := trivial
theorem PySem.W.Fast.tw15743080680286957823 : True := trivial
theorem PySem.W.Fast.tw2622192807544172208 : True := trivial
theorem PySem.W.Fast.tw5725414598131326910 : True := trivial
theorem PySem.W.Fast.tw11979936365267177825 : True := trivial
theorem PySem.W.Fast.tw9559966244345711478 : True := trivial
theorem PySem.W.Fast.tw9176713397968337720 : True := trivial
theorem PySem.W.Fast.tw15730980482889897777 : True := trivial
theorem PySem.W.Fast.tw9155933202197068846 : True := trivial
theorem PySem.W.Fast.tw18362662737146433936 : True := trivial
theorem PySem.W.Fast.tw15443502713502669403 : True := trivial
theorem PySem.W.Fast.tw15346377826993449547 : True := trivial
theorem PySem.W.Fast.tw1852914868254872141 : True := trivial
theorem PySem.W.Fast.tw4466286603515651818 : True := trivial
theorem PySem.W.Fast.tw6111019085809552248 : True := trivial
theorem PySem.W.Fast.tw4804589129970680923 : True := trivial
theorem PySem.W.Fast.tw8497994930024059960 : True := trivial
theorem PySem.W.Fast.tw14209929872824461941 : True := trivial
theorem PySem.W.Fast.tw15368596523551211255 : True := trivial
theorem PySem.W.Fast.tw5171881992617257395 : True := trivial
theorem PySem.W.Fast.tw11556757472298331051 : True := trivial
theorem PySem.W.Fast.tw5397873278464179137 : True := trivial
theorem PySem.W.Fast.tw1039045365409370444 : True := trivial
theorem PySem.W.Fast.tw2598360331505909362 : True := trivial
theorem PySem.W.Fast.tw16140938133156507498 : True := trivial
theorem PySem.W.Fast.tw1259742597703343298 : True := trivial
theorem PySem.W.Fast.tw9757472625669356661 : True := trivial
theorem PySem.W.Fast.tw18061013144261203376 : True := trivial
theorem PySem.W.Fast.tw8870682246512494897 : True := trivial
theorem PySem.W.Fast.tw8722137480288330592 : True := trivial
theorem PySem.W.Fast.tw15065722043394252731 : True := trivial
theorem PySem.W.Fast.tw5099594541716678074 : True := trivial
theorem PySem.W.Fast.tw7292661826608406683 : True := trivial
theorem PySem.W.Fast.tw9213965569884456209 : True := trivial
theorem PySem.W.Fast.tw9661003122029449009 : True := trivial
theorem PySem.W.Fast.tw8292488395893013500 : True := trivial
theorem PySem.W.Fast.tw8920109696758700450 : True := trivial
theorem PySem.W.Fast.tw3170551346749138814 : True := trivial
theorem PySem.W.Fast.tw2015587257713042000 : True := trivial
theorem PySem.W.Fast.tw17461892813630932085 : True := trivial
theorem PySem.W.Fast.tw13561665316445732008 : True := trivial
theorem PySem.W.Fast.tw4858131119989658634 : True := trivial
theorem PySem.W.Fast.tw6636664741215145465 : True := trivial
theorem PySem.W.Fast.tw8083981684354472439 : True := trivial
theorem PySem.W.Fast.tw4167551909604151182 : True := trivial
theorem PySem.W.Fast.tw16953638531176108876 : True := trivial
theorem PySem.W.Fast.tw4428542548547999436 : True := trivial
theorem PySem.W.Fast.tw16496395011608798873 : True := trivial
theorem PySem.W.Fast.tw13194775447049803930 : True := trivial
theorem PySem.W.Fast.tw5254130808728547620 : True := trivial
theorem PySem.W.Fast.tw7937561062624083740 : True := trivial
theorem PySem.W.Fast.tw14700598212890028394 : True := trivial
theorem PySem.W.Fast.tw3962432456822008889 : True := trivial
theorem PySem.W.Fast.tw16872776395795635506 : True := trivial
theorem PySem.W.Fast.tw3623507666257270944 : True := trivial
theorem PySem.W.Fast.tw11139734065259316738 : True := trivial
theorem PySem.W.Fast.tw6702203018207198303 : True := trivial
theorem PySem.W.Fast.tw8179940042995210904 : True := trivial
theorem PySem.W.Fast.tw1519843457862332678 : True := trivial
theorem PySem.W.Fast.tw15230210258485995786 : True := trivial
theorem PySem.W.Fast.tw16632801699565814434 : True := trivial
theorem PySem.W.Fast.tw13744242873306558822 : True := trivial
theorem PySem.W.Fast.tw16038650798525126539 : True := trivial
theorem PySem.W.Fast.tw9200655818870175983 : True := trivial
theorem PySem.W.Fast.tw2290846286299681485 : True := trivial
theorem PySem.W.Fast.tw9581842937242320555 : True := trivial
theorem PySem.W.Fast.tw6079354325142687469 : True := trivial
theorem PySem.W.Fast.tw15273491573109592821 : True := trivial
theorem PySem.W.Fast.tw9344033365541795263 : True := trivial
theorem PySem.W.Fast.tw6924074716959371299 : True := trivial
theorem PySem.W.Fast.tw8908347919130133524 : True := trivial
theorem PySem.W.Fast.tw3217391813586028789 : True := trivial
theorem PySem.W.Fast.tw15532073654369643423 : True := trivial
theorem PySem.W.Fast.tw3130317206793392346 : True := trivial
theorem PySem.W.Fast.tw8033627756597851398 : True := trivial
theorem PySem.W.Fast.tw8323783175967438384 : True := trivial
theorem PySem.W.Fast.tw13590976331050868130 : True := trivial
theorem PySem.W.Fast.tw17765171036052411955 : True := trivial
theorem PySem.W.Fast.tw14974805915285721950 : True := trivial
theorem PySem.W.Fast.tw8665618878972419147 : True := trivial
theorem PySem.W.Fast.tw10205590709538055123 : True := trivial
theorem PySem.W.Fast.tw647278390950608238 : True := trivial
theorem PySem.W.Fast.tw25997188740917780 : True := trivial
theorem PySem.W.Fast.tw5289357781715710541 : True := trivial
theorem PySem.W.Fast.tw10287504850795999210 : True := trivial
theorem PySem.W.Fast.tw17703030272417484791 : True := trivial
theorem PySem.W.Fast.tw7376778573824241947 : True := trivial
theorem PySem.W.Fast.tw16452527676813516157 : True := trivial
theorem PySem.W.Fast.tw13273250846673837788 : True := trivial
theorem PySem.W.Fast.tw8730983184398524709 : True := trivial
theorem PySem.W.Fast.tw10030341992160408991 : True := trivial
theorem PySem.W.Fast.tw6361659653155881277 : True := trivial
theorem PySem.W.Fast.tw13501811649156651544 : True := trivial
theorem PySem.W.Fast.tw16375639513154899569 : True := trivial
theorem PySem.W.Fast.tw14012119537994729838 : True := trivial
theorem PySem.W.Fast.tw894976157857143786 : True := trivial
theorem PySem.W.Fast.tw12109602219171578966 : True := trivial
theorem PySem.W.Fast.tw16032985653470400562 : True := trivial
theorem PySem.W.Fast.tw13555677748051008205 : True := trivial
theorem PySem.W.Fast.tw2792918056387391228 : True := trivial
theorem PySem.W.Fast.tw8397909609344172024 : True := trivial
theorem PySem.W.Fast.tw13501457245177761418 : True := trivial
theorem PySem.W.Fast.tw2177568262017043984 : True := trivial
theorem PySem.W.Fast.tw2129386844619014827 : True := trivial
theorem PySem.W.Fast.tw18195825528288736624 : True := trivial
theorem PySem.W.Fast.tw9202910002783286958 : True := trivial
theorem PySem.W.Fast.tw14209935833093227087 : True := trivial
theorem PySem.W.Fast.tw3343997386738631637 : True := trivial
theorem PySem.W.Fast.tw397147524176704741 : True := trivial
theorem PySem.W.Fast.tw18182712126275306157 : True := trivial
theorem PySem.W.Fast.tw4036993273828952250 : True := trivial
theorem PySem.W.Fast.tw17424705134639474373 : True := trivial
theorem PySem.W.Fast.tw13172845942716059764 : True := trivial
theorem PySem.W.Fast.tw15304199549362073058 : True := trivial
theorem PySem.W.Fast.tw16691514783533821128 : True := trivial
theorem PySem.W.Fast.tw156141952331637140 : True := trivial
theorem PySem.W.Fast.tw17433478740329548012 : True := trivial
theorem PySem.W.Fast.tw12930774464321361412 : True := trivial
theorem PySem.W.Fast.tw4398783234852263365 : True := trivial
theorem PySem.W.Fast.tw11911199188363421786 : True := trivial
theorem PySem.W.Fast.tw12163348166566422067 : True := trivial
theorem PySem.W.Fast.tw7813432497433841264 : True := trivial
theorem PySem.W.Fast.tw10661877493817857723 : True := trivial
theorem PySem.W.Fast.tw7389881996559376740 : True := trivial
theorem PySem.W.Fast.tw12544649779112644511 : True := trivial
theorem PySem.W.Fast.tw3680841009668789791 : True := trivial
theorem PySem.W.Fast.tw10431103622698296257 : True := trivial
theorem PySem.W.Fast.tw8861327313504152107 : True := trivial
theorem PySem.W.Fast.tw12503365889373807746 : True := trivial
theorem PySem.W.Fast.tw3725064062575696162 : True := trivial
theorem PySem.W.Fast.tw9715659386528682232 : True := trivial
theorem PySem.W.Fast.tw5048509008598333226 : True := trivial
theorem PySem.W.Fast.tw11019557596268385188 : True := trivial
theorem PySem.W.Fast.tw11638510243195918952 : True := trivial
theorem PySem.W.Fast.tw15380685713696275784 : True := trivial
theorem PySem.W.Fast.tw17900883367062270168 : True := trivial
theorem PySem.W.Fast.tw1511377553681760922 : True := trivial
theorem PySem.W.Fast.tw3472457758452813323 : True := trivial
theorem PySem.W.Fast.tw2760766196518719306 : True := trivial
theorem PySem.W.Fast.tw6094057020673947860 : True := trivial
theorem PySem.W.Fast.tw9791158024497103901 : True := trivial
theorem PySem.W.Fast.tw12169150371968438629 : True := trivial
theorem PySem.W.Fast.tw14759276062822544260 : True := trivial
theorem PySem.W.Fast.tw15801520693114847036 : True := trivial
theorem PySem.W.Fast.tw5053664145503359199 : True := trivial
theorem PySem.W.Fast.tw3821206125476780280 : True := trivial
theorem PySem.W.Fast.tw12657732346507767103 : True := trivial
theorem PySem.W.Fast.tw4608272258621807690 : True := trivial
theorem PySem.W.Fast.tw10921308617006147504 : True := trivial
theorem PySem.W.Fast.tw14803205547625553732 : True := trivial
theorem PySem.W.Fast.tw1260893071365503236 : True := trivial
theorem PySem.W.Fast.tw6364844014957273611 : True := trivial
theorem PySem.W.Fast.tw18224588800280927570 : True := trivial
theorem PySem.W.Fast.tw3839761382762423423 : True := trivial
theorem PySem.W.Fast.tw4633245736182173532 : True := trivial
theorem PySem.W.Fast.tw2946182168435988781 : True := trivial
theorem PySem.W.Fast.tw5873354410644909826 : True := trivial
theorem PySem.W.Fast.tw3440086786633171215 : True := trivial
theorem PySem.W.Fast.tw13560600708738752563 : True := trivial
theorem PySem.W.Fast.tw14667909401121584178 : True := trivial
theorem PySem.W.Fast.tw18414776356611850951 : True := trivial
theorem PySem.W.Fast.tw6892514323625552174 : True := trivial
theorem PySem.W.Fast.tw8751931893441966715 : True := trivial
theorem PySem.W.Fast.tw11121163737146901292 : True := trivial
theorem PySem.W.Fast.tw8564622154342858567 : True := trivial
theorem PySem.W.Fast.tw12779732924032232904 : True := trivial
theorem PySem.W.Fast.tw13475172949586743973 : True := trivial
theorem PySem.W.Fast.tw8019451892289849995 : True := trivial
theorem PySem.W.Fast.tw9922964459104638962 : True := trivial
theorem PySem.W.Fast.tw6357352242384906410 : True := trivial
theorem PySem.W.Fast.tw16988469304814542580 : True := trivial
theorem PySem.W.Fast.tw2588301930245729137 : True := trivial
theorem PySem.W.Fast.tw11438561867584999432 : True := trivial
theorem PySem.W.Fast.tw17262311979015537382 : True := trivial
theorem PySem.W.Fast.tw14644871049625681815 : True := trivial
theorem PySem.W.Fast.tw12236789033059011499 : True := trivial
theorem PySem.W.Fast.tw4773565003484060081 : True := trivial
theorem PySem.W.Fast.tw3355933019548428452 : True := trivial
theorem PySem.W.Fast.tw17472792817253271004 : True := trivial
theorem PySem.W.Fast.tw11234492693308362231 : True := trivial
theorem PySem.W.Fast.tw6271407242240063696 : True := trivial
theorem PySem.W.Fast.tw9070713594846660707 : True := trivial
theorem PySem.W.Fast.tw3785058601409809564 : True := trivial
theorem PySem.W.Fast.tw15447946936784675443 : True := trivial
theorem PySem.W.Fast.tw6240333974924622293 : True := trivial
theorem PySem.W.Fast.tw765951572060521274 : True := trivial
theorem PySem.W.Fast.tw15711472820856267630 : True := trivial
theorem PySem.W.Fast.tw9104567619778754075 : True := trivial
theorem PySem.W.Fast.tw13344646607305684250 : True := trivial
theorem PySem.W.Fast.tw2138561108528460209 : True := trivial
theorem PySem.W.Fast.tw13130385327618017123 : True := trivial
theorem PySem.W.Fast.tw930805801401779345 : True := trivial
theorem PySem.W.Fast.tw17325767240144681005 : True := trivial
theorem PySem.W.Fast.tw17900309449924885947 : True := trivial
theorem PySem.W.Fast.tw2301499383771336337 : True := trivial
theorem PySem.W.Fast.tw4859009430759719003 : True := trivial
theorem PySem.W.Fast.tw12712107211595502361 : True := trivial
theorem PySem.W.Fast.tw2782192082667431864 : True := trivial
theorem PySem.W.Fast.tw10449145855069375147 : True := trivial
theorem PySem.W.Fast.tw12338819733909237656 : True := trivial
theorem PySem.W.Fast.tw1758610105538508612 : True := trivial
theorem PySem.W.Fast.tw8495136293533504685 : True := trivial
theorem PySem.W.Fast.tw6778325555388738547 : True := trivial
theorem PySem.W.Fast.tw11264434960800436997 : True := trivial
theorem PySem.W.Fast.tw6188116547179543550 : True := trivial
theorem PySem.W.Fast.tw14046587617238988774 : True := trivial
theorem PySem.W.Fast.tw15963676146100401408 : True := trivial
theorem PySem.W.Fast.tw5382318222857376671 : True := trivial
theorem PySem.W.Fast.tw353623592425659161 : True := trivial
theorem PySem.W.Fast.tw1981237101697401872 : True := trivial
theorem PySem.W.Fast.tw15579502435253625657 : True := trivial
theorem PySem.W.Fast.tw16633418182474781143 : True := trivial
theorem PySem.W.Fast.tw4064308238555499709 : True := trivial
theorem PySem.W.Fast.tw982625460959723107 : True := trivial
theorem PySem.W.Fast.tw10216359191113768651 : True := trivial
theorem PySem.W.Fast.tw15853516698344350350 : True := trivial
theorem PySem.W.Fast.tw3644204277086339762 : True := trivial
theorem PySem.W.Fast.tw1197751663891415165 : True := trivial
theorem PySem.W.Fast.tw3642053145077252794 : True := trivial
theorem PySem.W.Fast.tw15219221889121862340 : True := trivial
theorem PySem.W.Fast.tw908678300121034366 : True := trivial
theorem PySem.W.Fast.tw1808883092403355296 : True := trivial
theorem PySem.W.Fast.tw1275071971490202202 : True := trivial
theorem PySem.W.Fast.tw4799964161462770592 : True := trivial
theorem PySem.W.Fast.tw13467726341737592319 : True := trivial
theorem PySem.W.Fast.tw699956845393174947 : True := trivial
theorem PySem.W.Fast.tw13705506663870957317 : True := trivial
theorem PySem.W.Fast.tw5068967952586771904 : True := trivial
theorem PySem.W.Fast.tw7811610787451695775 : True := trivial
theorem PySem.W.Fast.tw4143596552481815613 : True := trivial
theorem PySem.W.Fast.tw18377536754687265787 : True := trivial
theorem PySem.W.Fast.tw11091990875500251703 : True := trivial
theorem PySem.W.Fast.tw5670080911632575836 : True := trivial
theorem PySem.W.Fast.tw4671724531240491650 : True := trivial
theorem PySem.W.Fast.tw3350674221464438530 : True := trivial
theorem PySem.W.Fast.tw16833509375699939246 : True := trivial
theorem PySem.W.Fast.tw9883692463819709548 : True := trivial
theorem PySem.W.Fast.tw6359693927471723266 : True := trivial
theorem PySem.W.Fast.tw1111053670962355333 : True := trivial
theorem PySem.W.Fast.tw8679921348242567019 : True := trivial
theorem PySem.W.Fast.tw4330810416001665576 : True := trivial
theorem PySem.W.Fast.tw10187531158802269099 : True := trivial
theorem PySem.W.Fast.tw15746104929891340325 : True := trivial
theorem PySem.W.Fast.tw16747022262199883972 : True := trivial
theorem PySem.W.Fast.tw692227382921470104 : True := trivial
theorem PySem.W.Fast.tw309140538936451574 : True := trivial
theorem PySem.W.Fast.tw5076675951031568519 : True := trivial
theorem PySem.W.Fast.tw6120408053133722702 : True := trivial
theorem PySem.W.Fast.tw4209534395677628815 : True := trivial
theorem PySem.W.Fast.tw12396761515958431856 : True := trivial
theorem PySem.W.Fast.tw3277791517888880628 : True := trivial
theorem PySem.W.Fast.tw7403447543795273662 : True := trivial
theorem PySem.W.Fast.tw3300296409559588171 : True := trivial
theorem PySem.W.Fast.tw2906424983301194305 : True := trivial
theorem PySem.W.Fast.tw10084286443480755660 : True := trivial
theorem PySem.W.Fast.tw3276261030992511678 : True := trivial
theorem PySem.W.Fast.tw16641698716552417077 : True := trivial
theorem PySem.W.Fast.tw12740164906282811741 : True := trivial
theorem PySem.W.Fast.tw1996959900314145845 : True := trivial
theorem PySem.W.Fast.tw14004951537613685192 : True := trivial
theorem PySem.W.Fast.tw12256600931711439705 : True := trivial
theorem PySem.W.Fast.tw6101255060482876265 : True := trivial
theorem PySem.W.Fast.tw15628184118952431969 : True := trivial
theorem PySem.W.Fast.tw16898712846738753207 : True := trivial
theorem PySem.W.Fast.tw17311724633281311807 : True := trivial
theorem PySem.W.Fast.tw11961577308364072494 : True := trivial
theorem PySem.W.Fast.tw1446641182509773283 : True := trivial
theorem PySem.W.Fast.tw4009623148249864990 : True := trivial
theorem PySem.W.Fast.tw11890760261870231521 : True := trivial
theorem PySem.W.Fast.tw10820477131693595976 : True := trivial
theorem PySem.W.Fast.tw7594313791752447174 : True := trivial
theorem PySem.W.Fast.tw3884218714614342728 : True := trivial
theorem PySem.W.Fast.tw14953238416684623927 : True := trivial
theorem PySem.W.Fast.tw91563522638461127 : True := trivial
theorem PySem.W.Fast.tw17744411544255037020 : True := trivial
theorem PySem.W.Fast.tw9890034215638757257 : True := trivial
theorem PySem.W.Fast.tw8581194722124663940 : True := trivial
theorem PySem.W.Fast.tw8919767039910607142 : True := trivial
theorem PySem.W.Fast.tw12272026135272244187 : True := trivial
theorem PySem.W.Fast.tw11289821404358889163 : True := trivial
theorem PySem.W.Fast.tw7178860129534299403 : True := trivial
theorem PySem.W.Fast.tw1146850240885720999 : True := trivial
theorem PySem.W.Fast.tw4997379649316893349 : True := trivial
theorem PySem.W.Fast.tw18355814657698611031 : True := trivial
theorem PySem.W.Fast.tw13475699348437162168 : True := trivial
theorem PySem.W.Fast.tw3219830006582988814 : True := trivial
theorem PySem.W.Fast.tw3970353428380617046 : True := trivial
theorem PySem.W.Fast.tw7412529510787261934 : True := trivial
theorem PySem.W.Fast.tw12665817307590025559 : True := trivial
theorem PySem.W.Fast.tw7401841054585072044 : True := trivial
theorem PySem.W.Fast.tw7869863394328066573 : True := trivial
theorem PySem.W.Fast.tw2793439898326125891 : True := trivial
theorem PySem.W.Fast.tw11522624568287959552 : True := trivial
theorem PySem.W.Fast.tw6678004848124010105 : True := trivial
theorem PySem.W.Fast.tw4635250142544971035 : True := trivial
theorem PySem.W.Fast.tw2781137846950306542 : True := trivial
theorem PySem.W.Fast.tw12649022288578781073 : True := trivial
theorem PySem.W.Fast.tw17663154115812695462 : True := trivial
theorem PySem.W.Fast.tw13049600587223105085 : True := trivial
theorem PySem.W.Fast.tw15105828148417125871 : True := trivial
theorem PySem.W.Fast.tw11965858915846201632 : True := trivial
theorem PySem.W.Fast.tw13858279476321852322 : True := trivial
theorem PySem.W.Fast.tw4164635704076698926 : True := trivial
theorem PySem.W.Fast.tw11081190666384536351 : True := trivial
theorem PySem.W.Fast.tw3168755187030772865 : True := trivial
theorem PySem.W.Fast.tw14670938111926595752 : True := trivial
theorem PySem.W.Fast.tw734924697579349020 : True := trivial
theorem PySem.W.Fast.tw17505756786221494824 : True := trivial
theorem PySem.W.Fast.tw9638424485617952891 : True := trivial
theorem PySem.W.Fast.tw5662065244989029049 : True := trivial
theorem PySem.W.Fast.tw18276574643241237646 : True := trivial
theorem PySem.W.Fast.tw8673485160195750152 : True := trivial
theorem PySem.W.Fast.tw7050220446771430088 : True := trivial
theorem PySem.W.Fast.tw15446368382414764470 : True := trivial
theorem PySem.W.Fast.tw8231859963080659259 : True := trivial
theorem PySem.W.Fast.tw11105184547532058914 : True := trivial
theorem PySem.W.Fast.tw9969046626813074501 : True := trivial
theorem PySem.W.Fast.tw4719261258252183596 : True := trivial
theorem PySem.W.Fast.tw5799343216016857653 : True := trivial
theorem PySem.W.Fast.tw17595410066111130441 : True := trivial
theorem PySem.W.Fast.tw6617815785835033730 : True := trivial
theorem PySem.W.Fast.tw12495237517475538075 : True := trivial
theorem PySem.W.Fast.tw11052814233358923003 : True := trivial
theorem PySem.W.Fast.tw7785214077758605870 : True := trivial
theorem PySem.W.Fast.tw432571349499551047 : True := trivial
theorem PySem.W.Fast.tw9569598044997833555 : True := trivial
theorem PySem.W.Fast.tw12381123099434457063 : True := trivial
theorem PySem.W.Fast.tw12393244486211426911 : True := trivial
theorem PySem.W.Fast.tw10580789750731735170 : True := trivial
theorem PySem.W.Fast.tw17983950868596720399 : True := trivial
theorem PySem.W.Fast.tw5412401303551783159 : True := trivial
theorem PySem.W.Fast.tw3541661593774935201 : True := trivial
theorem PySem.W.Fast.tw15317954881150491149 : True := trivial
theorem PySem.W.Fast.tw6722379889534135841 : True := trivial
theorem PySem.W.Fast.tw1524244007402831104 : True := trivial
theorem PySem.W.Fast.tw5531462038058477788 : True := trivial
theorem PySem.W.Fast.tw3708059523538357205 : True := trivial
theorem PySem.W.Fast.tw8204304769810844050 : True := trivial
theorem PySem.W.Fast.tw7702879775869227562 : True := trivial
theorem PySem.W.Fast.tw4833486654609499883 : True := trivial
theorem PySem.W.Fast.tw5700161560444988373 : True := trivial
theorem PySem.W.Fast.tw6289441436714212915 : True := trivial
theorem PySem.W.Fast.tw7318071749741841637 : True := trivial
theorem PySem.W.Fast.tw7539411263936629732 : True := trivial
theorem PySem.W.Fast.tw10613639262610950113 : True := trivial
theorem PySem.W.Fast.tw11045955842496689609 : True := trivial
theorem PySem.W.Fast.tw13842545639452502706 : True := trivial
theorem PySem.W.Fast.tw17716889500730938671 : True := trivial
theorem PySem.W.Fast.tw1967736720620819942 : True := trivial
theorem PySem.W.Fast.tw13127612857542358126 : True := trivial
theorem PySem.W.Fast.tw16650842904996425613 : True := trivial
theorem PySem.W.Fast.tw17306207903013574852 : True := trivial
theorem PySem.W.Fast.tw1327509690266608480 : True := trivial
theorem PySem.W.Fast.tw4012166543774780769 : True := trivial
theorem PySem.W.Fast.tw18288506292939700341 : True := trivial
theorem PySem.W.Fast.tw18086236138876609282 : True := trivial
theorem PySem.W.Fast.tw3647618520925468727 : True := trivial
theorem PySem.W.Fast.tw17094385299203897657 : True := trivial
theorem PySem.W.Fast.tw6202397635716504729 : True := trivial
theorem PySem.W.Fast.tw7971005444006307831 : True := trivial
theorem PySem.W.Fast.tw1939064084802667510 : True := trivial
theorem PySem.W.Fast.tw9826980804797574026 : True := trivial
theorem PySem.W.Fast.tw7624732348909816800 : True := trivial
theorem PySem.W.Fast.tw17155122087440360616 : True := trivial
theorem PySem.W.Fast.tw2035901513549902493 : True := trivial
theorem PySem.W.Fast.tw13670319545787580632 : True := trivial
theorem PySem.W.Fast.tw8437795197557509641 : True := trivial
theorem PySem.W.Fast.tw17199057040028707523 : True := trivial
theorem PySem.W.Fast.tw16531707748611001056 : True := trivial
theorem PySem.W.Fast.tw5761014756277041792 : True := trivial
theorem PySem.W.Fast.tw16142417523889259066 : True := trivial
theorem PySem.W.Fast.tw12815436384393485458 : True := trivial
theorem PySem.W.Fast.tw6601068952487622369 : True := trivial
theorem PySem.W.Fast.tw7530712180039271909 : True := trivial
theorem PySem.W.Fast.tw16056473967703177828 : True := trivial
theorem PySem.W.Fast.tw4574392942372297748 : True := trivial
theorem PySem.W.Fast.tw8284822763092165431 : True := trivial
theorem PySem.W.Fast.tw5973253580231123064 : True := trivial
theorem PySem.W.Fast.tw11736394249362003926 : True := trivial
theorem PySem.W.Fast.tw12545316609606153992 : True := trivial
theorem PySem.W.Fast.tw12863321534982936002 : True := trivial
theorem PySem.W.Fast.tw12390518482438788669 : True := trivial
theorem PySem.W.Fast.tw14459152776628124423 : True := trivial
theorem PySem.W.Fast.tw1990710145649680975 : True := trivial
theorem PySem.W.Fast.tw14700416897171548099 : True := trivial
theorem PySem.W.Fast.tw8707937416108708102 : True := trivial
theorem PySem.W.Fast.tw5753119275787473475 : True := trivial
theorem PySem.W.Fast.tw4775112708921697864 : True := trivial
theorem PySem.W.Fast.tw3246921396485458854 : True := trivial
theorem PySem.W.Fast.tw16160060384820260080 : True := trivial
theorem PySem.W.Fast.tw14432400210249391003 : True := trivial
theorem PySem.W.Fast.tw16269612279259574841 : True := trivial
theorem PySem.W.Fast.tw17094646004722736718 : True := trivial
theorem PySem.W.Fast.tw7737470690679393857 : True := trivial
theorem PySem.W.Fast.tw8857670840869907596 : True := trivial
theorem PySem.W.Fast.tw2948800992103651269 : True := trivial
theorem PySem.W.Fast.tw7757440254860179000 : True := trivial
theorem PySem.W.Fast.tw960695026375420821 : True := trivial
theorem PySem.W.Fast.tw17922694892943722368 : True := trivial
theorem PySem.W.Fast.tw10689670872136421160 : True := trivial
theorem PySem.W.Fast.tw4980679967780575021 : True := trivial
theorem PySem.W.Fast.tw4050217806197789592 : True := trivial
theorem PySem.W.Fast.tw12067757363692907943 : True := trivial
theorem PySem.W.Fast.tw25815810754789261 : True := trivial
theorem PySem.W.Fast.tw15583744062604348377 : True := trivial
theorem PySem.W.Fast.tw4296224463017583037 : True := trivial
theorem PySem.W.Fast.tw5408544478273383090 : True := trivial
theorem PySem.W.Fast.tw2365244798181694222 : True := trivial
theorem PySem.W.Fast.tw8413617599599950551 : True := trivial
theorem PySem.W.Fast.tw16513927166621150310 : True := trivial
theorem PySem.W.Fast.tw1826112694885891523 : True := trivial
theorem PySem.W.Fast.tw9301908343880188769 : True := trivial
theorem PySem.W.Fast.tw3621883384375445888 : True := trivial
theorem PySem.W.Fast.tw1441174767952147113 : True := trivial
theorem PySem.W.Fast.tw5714497393071379831 : True := trivial
theorem PySem.W.Fast.tw17503961028165977472 : True := trivial
theorem PySem.W.Fast.tw12386749758444872406 : True := trivial
theorem PySem.W.Fast.tw9727177449060731417 : True := trivial
theorem PySem.W.Fast.tw15237602678513488912 : True := trivial
theorem PySem.W.Fast.tw8517770208021121784 : True := trivial
theorem PySem.W.Fast.tw12369770188695502303 : True := trivial
theorem PySem.W.Fast.tw18264238280048739854 : True := trivial
theorem PySem.W.Fast.tw6298518492690417712 : True := trivial
theorem PySem.W.Fast.tw8067337903142335954 : True := trivial
theorem PySem.W.Fast.tw10140962088737710189 : True := trivial
theorem PySem.W.Fast.tw7732695388654943681 : True := trivial
theorem PySem.W.Fast.tw11280058533896799158 : True := trivial
theorem PySem.W.Fast.tw17979948611566433572 : True := trivial
theorem PySem.W.Fast.tw15686716891674586673 : True := trivial
theorem PySem.W.Fast.tw9136403982045054695 : True := trivial
theorem PySem.W.Fast.tw16320615013353573898 : True := trivial
theorem PySem.W.Fast.tw1279121590354160363 : True := trivial
theorem PySem.W.Fast.tw6201255655391554265 : True := trivial
theorem PySem.W.Fast.tw6908791422293914345 : True := trivial
theorem PySem.W.Fast.tw6007027721436143175 : True := trivial
theorem PySem.W.Fast.tw83271249931165841 : True := trivial
theorem PySem.W.Fast.tw16338633143020748929 : True := trivial
theorem PySem.W.Fast.tw8597816048594170601 : True := trivial
theorem PySem.W.Fast.tw3670904049066378705 : True := trivial
theorem PySem.W.Fast.tw13398453699787763797 : True := trivial
theorem PySem.W.Fast.tw6654149650574446217 : True := trivial
theorem PySem.W.Fast.tw1071360400415354580 : True := trivial
theorem PySem.W.Fast.tw11297713951437138675 : True := trivial
theorem PySem.W.Fast.tw3239574416960572910 : True := trivial
theorem PySem.W.Fast.tw17089415919455245167 : True := trivial
theorem PySem.W.Fast.tw10136471685418528576 : True := trivial
theorem PySem.W.Fast.tw9025154329620221258 : True := trivial
theorem PySem.W.Fast.tw11234616831678798999 : True := trivial
theorem PySem.W.Fast.tw16884765452547165251 : True := trivial
theorem PySem.W.Fast.tw15025573521765540578 : True := trivial
theorem PySem.W.Fast.tw8221190097402042588 : True := trivial
theorem PySem.W.Fast.tw9451748957763844196 : True := trivial
theorem PySem.W.Fast.tw296284409564824099 : True := trivial
theorem PySem.W.Fast.tw13981133974265182651 : True := trivial
theorem PySem.W.Fast.tw16671261050678445851 : True := trivial
theorem PySem.W.Fast.tw3236827401112760535 : True := trivial
theorem PySem.W.Fast.tw8913694520393683783 : True := trivial
theorem PySem.W.Fast.tw7400847305040831008 : True := trivial
theorem PySem.W.Fast.tw16932321734192207323 : True := trivial
theorem PySem.W.Fast.tw17195771579028369113 : True := trivial
theorem PySem.W.Fast.tw5648891812703340405 : True := trivial
theorem PySem.W.Fast.tw3147542440434408669 : True := trivial
theorem PySem.W.Fast.tw12956030690190759141 : True := trivial
theorem PySem.W.Fast.tw13998099162042536747 : True := trivial
theorem PySem.W.Fast.tw7905533188960649786 : True := trivial
theorem PySem.W.Fast.tw7356659275841321909 : True := trivial
theorem PySem.W.Fast.tw8300584709684473194 : True := trivial
theorem PySem.W.Fast.tw8854397590067123979 : True := trivial
theorem PySem.W.Fast.tw8638982169095224529 : True := trivial
theorem PySem.W.Fast.tw7084635362998087458 : True := trivial
theorem PySem.W.Fast.tw9701328103789092449 : True := trivial
theorem PySem.W.Fast.tw5843975294713592352 : True := trivial
theorem PySem.W.Fast.tw3393192638150318234 : True := trivial
theorem PySem.W.Fast.tw455274307395080950 : True := trivial
theorem PySem.W.Fast.tw10998724617554523954 : True := trivial
theorem PySem.W.Fast.tw6932907954547288965 : True := trivial
theorem PySem.W.Fast.tw5577027770950974500 : True := trivial
theorem PySem.W.Fast.tw16793887872077025521 : True := trivial
theorem PySem.W.Fast.tw16937838183173671827 : True := trivial
theorem PySem.W.Fast.tw12574277165598768104 : True := trivial
theorem PySem.W.Fast.tw5053798640278633180 : True := trivial
theorem PySem.W.Fast.tw650404140925539214 : True := trivial
theorem PySem.W.Fast.tw3100252031474087626 : True := trivial
theorem PySem.W.Fast.tw8829657555546487130 : True := trivial
theorem PySem.W.Fast.tw2255806351191182666 : True := trivial
theorem PySem.W.Fast.tw5223024706778288115 : True := trivial
theorem PySem.W.Fast.tw11903192804714537372 : True := trivial
theorem PySem.W.Fast.tw5772527146985086659 : True := trivial
theorem PySem.W.Fast.tw13495053171809866537 : True := trivial
theorem PySem.W.Fast.tw7016899822544816254 : True := trivial
theorem PySem.W.Fast.tw10701561114544220221 : True := trivial
theorem PySem.W.Fast.tw8173365111507289010 : True := trivial
theorem PySem.W.Fast.tw8562669727696360514 : True := trivial
theorem PySem.W.Fast.tw3145310128444057885 : True := trivial
theorem PySem.W.Fast.tw16991990171079559820 : True := trivial
theorem PySem.W.Fast.tw11840375528033298952 : True := trivial
theorem PySem.W.Fast.tw11582855816558661337 : True := trivial
theorem PySem.W.Fast.tw6482682095540846415 : True := trivial
theorem PySem.W.Fast.tw18260982055969259382 : True := trivial
theorem PySem.W.Fast.tw8937501956205163173 : True := trivial
theorem PySem.W.Fast.tw17743461104543380387 : True := trivial
theorem PySem.W.Fast.tw14156548914705036533 : True := trivial
theorem PySem.W.Fast.tw13542495509873946944 : True := trivial
theorem PySem.W.Fast.tw9909767699680312543 : True := trivial
theorem PySem.W.Fast.tw11678200273397903064 : True := trivial
theorem PySem.W.Fast.tw10009468915266922881 : True := trivial
theorem PySem.W.Fast.tw548875538367528157 : True := trivial
theorem PySem.W.Fast.tw17948158147435096666 : True := trivial
theorem PySem.W.Fast.tw4674084204528091773 : True := trivial
theorem PySem.W.Fast.tw12833641828546425236 : True := trivial
theorem PySem.W.Fast.tw785277485350666803 : True := trivial
theorem PySem.W.Fast.tw16647043662306326829 : True := trivial
theorem PySem.W.Fast.tw12542317625719325923 : True := trivial
theorem PySem.W.Fast.tw1444107249645096668 : True := trivial
theorem PySem.W.Fast.tw7335250709520316463 : True := trivial
theorem PySem.W.Fast.tw8115040627137564383 : True := trivial
theorem PySem.W.Fast.tw14971440868385789845 : True := trivial
theorem PySem.W.Fast.tw16212322084742540140 : True := trivial
theorem PySem.W.Fast.tw11731686912754398928 : True := trivial
theorem PySem.W.Fast.tw3319434166920255237 : True := trivial
theorem PySem.W.Fast.tw15233305595230424714 : True := trivial
theorem PySem.W.Fast.tw3216436990649276401 : True := trivial
theorem PySem.W.Fast.tw11280892317166873846 : True := trivial
theorem PySem.W.Fast.tw5801387159119136666 : True := trivial
theorem PySem.W.Fast.tw10033057148953251371 : True := trivial
theorem PySem.W.Fast.tw14830206624878313863 : True := trivial
theorem PySem.W.Fast.tw11796257463948975795 : True := trivial
theorem PySem.W.Fast.tw5078925265738684090 : True := trivial
theorem PySem.W.Fast.tw11743457508687656681 : True := trivial
theorem PySem.W.Fast.tw16761789404275094771 : True := trivial
theorem PySem.W.Fast.tw5951990099107019142 : True := trivial
theorem PySem.W.Fast.tw2640304466905608494 : True := trivial
theorem PySem.W.Fast.tw1989279143976970753 : True := trivial
theorem PySem.W.Fast.tw14309145139407240535 : True := trivial
theorem PySem.W.Fast.tw13399227877328953651 : True := trivial
theorem PySem.W.Fast.tw9658193779391615950 : True := trivial
theorem PySem.W.Fast.tw10993727475659678784 : True := trivial
theorem PySem.W.Fast.tw7052895496094644016 : True := trivial
theorem PySem.W.Fast.tw2187849821745899350 : True := trivial
theorem PySem.W.Fast.tw5669951907375218215 : True := trivial
theorem PySem.W.Fast.tw5999723239428287303 : True := trivial
theorem PySem.W.Fast.tw526488379288143148 : True := trivial
theorem PySem.W.Fast.tw4895719598736415738 : True := trivial
theorem PySem.W.Fast.tw56163246746093971 : True := trivial
theorem PySem.W.Fast.tw3376025817510731939 : True := trivial
theorem PySem.W.Fast.tw17997812903457276809 : True := trivial
theorem PySem.W.Fast.tw18030352249536233929 : True := trivial
theorem PySem.W.Fast.tw5138158973208226224 : True := trivial
theorem PySem.W.Fast.tw9887877763338304993 : True := trivial
theorem PySem.W.Fast.tw13482395902119735072 : True := trivial
theorem PySem.W.Fast.tw18258255925102725789 : True := trivial
theorem PySem.W.Fast.tw11341728387304428956 : True := trivial
theorem PySem.W.Fast.tw13930562570676765509 : True := trivial
theorem PySem.W.Fast.tw12128811763420596635 : True := trivial
theorem PySem.W.Fast.tw11587257734112888060 : True := trivial
theorem PySem.W.Fast.tw17969735292427824965 : True := trivial
theorem PySem.W.Fast.tw17171557503041953677 : True := trivial
theorem PySem.W.Fast.tw11965731382489432354 : True := trivial
theorem PySem.W.Fast.tw11272628127531386454 : True := trivial
theorem PySem.W.Fast.tw2772157702733723974 : True := trivial
theorem PySem.W.Fast.tw11221047569704748366 : True := trivial
theorem PySem.W.Fast.tw14668213378966364835 : True := trivial
theorem PySem.W.Fast.tw7926192483466736152 : True := trivial
theorem PySem.W.Fast.tw8965383516314345606 : True := trivial
theorem PySem.W.Fast.tw18076745502263218498 : True := trivial
theorem PySem.W.Fast.tw937729732555668250 : True := trivial
theorem PySem.W.Fast.tw15641459935618256539 : True := trivial
theorem PySem.W.Fast.tw6112794186501807448 : True := trivial
theorem PySem.W.Fast.tw8063656142001425833 : True := trivial
theorem PySem.W.Fast.tw9227450006807174908 : True := trivial
theorem PySem.W.Fast.tw14896243811503488771 : True := trivial
theorem PySem.W.Fast.tw13631505742119480559 : True := trivial
theorem PySem.W.Fast.tw6219502297437877596 : True := trivial
theorem PySem.W.Fast.tw2265669839859844254 : True := trivial
theorem PySem.W.Fast.tw17841765234178521555 : True := trivial
theorem PySem.W.Fast.tw15803858230438298741 : True := trivial
theorem PySem.W.Fast.tw15192810093349770872 : True := trivial
theorem PySem.W.Fast.tw18172262015953880256 : True := trivial
theorem PySem.W.Fast.tw3277590390751356910 : True := trivial
theorem PySem.W.Fast.tw15397570430496689412 : True := trivial
theorem PySem.W.Fast.tw11288833119461002361 : True := trivial
theorem PySem.W.Fast.tw8812314545937420694 : True := trivial
theorem PySem.W.Fast.tw14876155241100532682 : True := trivial
theorem PySem.W.Fast.tw11388632568610809389 : True := trivial
theorem PySem.W.Fast.tw1244734332801474711 : True := trivial
theorem PySem.W.Fast.tw15669877587075513538 : True := trivial
theorem PySem.W.Fast.tw1981500983348116243 : True := trivial
theorem PySem.W.Fast.tw1010618280112129840 : True := trivial
theorem PySem.W.Fast.tw4428090195715234606 : True := trivial
theorem PySem.W.Fast.tw2216957720669359859 : True := trivial
theorem PySem.W.Fast.tw1533597966740342319 : True := trivial
theorem PySem.W.Fast.tw17823288631688274423 : True := trivial
theorem PySem.W.Fast.tw912160925791686717 : True := trivial
theorem PySem.W.Fast.tw8029014397611924494 : True := trivial
theorem PySem.W.Fast.tw9393790084650811609 : True := trivial
theorem PySem.W.Fast.tw2539996719645232792 : True := trivial
theorem PySem.W.Fast.tw8979507179419911707 : True := trivial
theorem PySem.W.Fast.tw2623158721026307428 : True := trivial
theorem PySem.W.Fast.tw3261608621139875584 : True := trivial
theorem PySem.W.Fast.tw8505035061881451387 : True := trivial
theorem PySem.W.Fast.tw13765526996899436370 : True := trivial
theorem PySem.W.Fast.tw623415208687546575 : True := trivial
theorem PySem.W.Fast.tw9504469596568949010 : True := trivial
theorem PySem.W.Fast.tw4427449982973778039 : True := trivial
theorem PySem.W.Fast.tw9219959206008607319 : True := trivial
theorem PySem.W.Fast.tw12155559882615468955 : True := trivial
theorem PySem.W.Fast.tw13112415040030472164 : True := trivial
theorem PySem.W.Fast.tw14743865663808050169 : True := trivial
theorem PySem.W.Fast.tw17404556015569407994 : True := trivial
theorem PySem.W.Fast.tw9969400997178087542 : True := trivial
theorem PySem.W.Fast.tw14708880445703546602 : True := trivial
theorem PySem.W.Fast.tw3906138256384138458 : True := trivial
theorem PySem.W.Fast.tw13581416609198703951 : True := trivial
theorem PySem.W.Fast.tw6689488036770061153 : True := trivial
theorem PySem.W.Fast.tw4989670711621152217 : True := trivial
theorem PySem.W.Fast.tw734582269839084182 : True := trivial
theorem PySem.W.Fast.tw5141280937760362209 : True := trivial
theorem PySem.W.Fast.tw5085054377032677853 : True := trivial
theorem PySem.W.Fast.tw11824987682057531763 : True := trivial
theorem PySem.W.Fast.tw12918771504744915891 : True := trivial
theorem PySem.W.Fast.tw11930157172176654707 : True := trivial
theorem PySem.W.Fast.tw638059335781848520 : True := trivial
theorem PySem.W.Fast.tw16023251707810162055 : True := trivial
theorem PySem.W.Fast.tw8037005389181700973 : True := trivial
theorem PySem.W.Fast.tw2789585300752307362 : True := trivial
theorem PySem.W.Fast.tw16746776635943709051 : True := trivial
theorem PySem.W.Fast.tw17832485492666399421 : True := trivial
theorem PySem.W.Fast.tw4564387003921892144 : True := trivial
theorem PySem.W.Fast.tw17759105117530732173 : True := trivial
theorem PySem.W.Fast.tw13753268837509049413 : True := trivial
theorem PySem.W.Fast.tw17960296503568783977 : True := trivial
theorem PySem.W.Fast.tw9804353631097627158 : True := trivial
theorem PySem.W.Fast.tw16693999754780583045 : True := trivial
theorem PySem.W.Fast.tw4083832992676120155 : True := trivial
theorem PySem.W.Fast.tw5775508810081552237 : True := trivial
theorem PySem.W.Fast.tw2653229317350574345 : True := trivial
theorem PySem.W.Fast.tw598408103234854934 : True := trivial
theorem PySem.W.Fast.tw6253796764239217190 : True := trivial
theorem PySem.W.Fast.tw17565223382473540995 : True := trivial
theorem PySem.W.Fast.tw8475088888563488631 : True := trivial
theorem PySem.W.Fast.tw13347109590811305540 : True := trivial
theorem PySem.W.Fast.tw13953027052016337705 : True := trivial
theorem PySem.W.Fast.tw9769553728828083645 : True := trivial
theorem PySem.W.Fast.tw7212453409720117809 : True := trivial
theorem PySem.W.Fast.tw17995108357681966806 : True := trivial
theorem PySem.W.Fast.tw12636642415869005668 : True := trivial
theorem PySem.W.Fast.tw9469369027479690422 : True := trivial
theorem PySem.W.Fast.tw18258763583446385150 : True := trivial
theorem PySem.W.Fast.tw10215360331731247505 : True := trivial
theorem PySem.W.Fast.tw7374141733522972526 : True := trivial
theorem PySem.W.Fast.tw7351244538996261289 : True := trivial
theorem PySem.W.Fast.tw5668425416734275562 : True := trivial
theorem PySem.W.Fast.tw1024074304346512840 : True := trivial
theorem PySem.W.Fast.tw2809429735419380410 : True := trivial
theorem PySem.W.Fast.tw13890363754300698171 : True := trivial
theorem PySem.W.Fast.tw1140340097016516844 : True := trivial
theorem PySem.W.Fast.tw14429853243485737837 : True := trivial
theorem PySem.W.Fast.tw17749532443856902751 : True := trivial
theorem PySem.W.Fast.tw10749030411879356403 : True := trivial
theorem PySem.W.Fast.tw8322434668141099663 : True := trivial
theorem PySem.W.Fast.tw14279901561648306765 : True := trivial
theorem PySem.W.Fast.tw1653125174463151979 : True := trivial
theorem PySem.W.Fast.tw13197073776505611341 : True := trivial
theorem PySem.W.Fast.tw6113048205316144425 : True := trivial
theorem PySem.W.Fast.tw12906559781070101164 : True := trivial
theorem PySem.W.Fast.tw6134846110707547033 : True := trivial
theorem PySem.W.Fast.tw6451047196439586088 : True := trivial
theorem PySem.W.Fast.tw13716718224750912034 : True := trivial
theorem PySem.W.Fast.tw9308211432569553659 : True := trivial
theorem PySem.W.Fast.tw11738230469454036161 : True := trivial
theorem PySem.W.Fast.tw4213862294672147132 : True := trivial
theorem PySem.W.Fast.tw14462755625976855233 : True := trivial
theorem PySem.W.Fast.tw2527122781282613824 : True := trivial
theorem PySem.W.Fast.tw17130253409986468276 : True := trivial
theorem PySem.W.Fast.tw13697457979892291246 : True := trivial
theorem PySem.W.Fast.tw8880425402225894284 : True := trivial
theorem PySem.W.Fast.tw15523299355638623603 : True := trivial
theorem PySem.W.Fast.tw18426399800318898649 : True := trivial
theorem PySem.W.Fast.tw1171756167839422377 : True := trivial
theorem PySem.W.Fast.tw4102508692453385371 : True := trivial
theorem PySem.W.Fast.tw5596701342172562059 : True := trivial
theorem PySem.W.Fast.tw1223067245794988283 : True := trivial
theorem PySem.W.Fast.tw265422731279924267 : True := trivial
theorem PySem.W.Fast.tw2446811245065941550 : True := trivial
theorem PySem.W.Fast.tw13535544219655729760 : True := trivial
theorem PySem.W.Fast.tw8024505681825140316 : True := trivial
theorem PySem.W.Fast.tw15713788085831357935 : True := trivial
theorem PySem.W.Fast.tw4007677006333852178 : True := trivial
theorem PySem.W.Fast.tw14316728462587089676 : True := trivial
theorem PySem.W.Fast.tw10895375163978544307 : True := trivial
theorem PySem.W.Fast.tw15002835273494864197 : True := trivial
theorem PySem.W.Fast.tw9042653941172997679 : True := trivial
theorem PySem.W.Fast.tw10662337527495930027 : True := trivial
theorem PySem.W.Fast.tw13353584827023598705 : True := trivial
theorem PySem.W.Fast.tw9391670612766536430 : True := trivial
theorem PySem.W.Fast.tw731461791570613399 : True := trivial
theorem PySem.W.Fast.tw1084089384042764688 : True := trivial
theorem PySem.W.Fast.tw279890089782493716 : True := trivial
theorem PySem.W.Fast.tw12252219137257892871 : True := trivial
theorem PySem.W.Fast.tw986924096020938359 : True := trivial
theorem PySem.W.Fast.tw15976451808362560608 : True := trivial
theorem PySem.W.Fast.tw13799321157176488142 : True := trivial
theorem PySem.W.Fast.tw4868603291253858334 : True := trivial
theorem PySem.W.Fast.tw18202373075837653746 : True := trivial
theorem PySem.W.Fast.tw16796917735599188034 : True := trivial
theorem PySem.W.Fast.tw11863542547575445455 : True := trivial
theorem PySem.W.Fast.tw16698797229297938578 : True := trivial
theorem PySem.W.Fast.tw11365435631829457423 : True := trivial
theorem PySem.W.Fast.tw15352087567689519027 : True := trivial
theorem PySem.W.Fast.tw4458348453217892800 : True := trivial
theorem PySem.W.Fast.tw1012578777403009841 : True := trivial
theorem PySem.W.Fast.tw15820502701510458585 : True := trivial
theorem PySem.W.Fast.tw14934359899414428056 : True := trivial
theorem PySem.W.Fast.tw7626551197872569825 : True := trivial
theorem PySem.W.Fast.tw13411345447440682686 : True := trivial
theorem PySem.W.Fast.tw11937830654470815071 : True := trivial
theorem PySem.W.Fast.tw8392008432697045803 : True := trivial
theorem PySem.W.Fast.tw9029176526157178269 : True := trivial
theorem PySem.W.Fast.tw6864909256675827509 : True := trivial
theorem PySem.W.Fast.tw6419024803295422286 : True := trivial
theorem PySem.W.Fast.tw3724500227257508306 : True := trivial
theorem PySem.W.Fast.tw17115907085490807208 : True := trivial
theorem PySem.W.Fast.tw17006808616432017001 : True := trivial
theorem PySem.W.Fast.tw1227723202015438941 : True := trivial
theorem PySem.W.Fast.tw2726310683100875363 : True := trivial
theorem PySem.W.Fast.tw11631388841712514705 : True := trivial
theorem PySem.W.Fast.tw5297389128370330550 : True := trivial
theorem PySem.W.Fast.tw7101688113285758026 : True := trivial
theorem PySem.W.Fast.tw1682343605798476257 : True := trivial
theorem PySem.W.Fast.tw8614442417177173999 : True := trivial
theorem PySem.W.Fast.tw5124623660339705804 : True := trivial
theorem PySem.W.Fast.tw6062320442315702038 : True := trivial
theorem PySem.W.Fast.tw5245794907129552429 : True := trivial
theorem PySem.W.Fast.tw1805086560142384784 : True := trivial
theorem PySem.W.Fast.tw3093099738794229380 : True := trivial
theorem PySem.W.Fast.tw15797570358392524629 : True := trivial
theorem PySem.W.Fast.tw4883975287047362129 : True := trivial
theorem PySem.W.Fast.tw13287625556143881245 : True := trivial
theorem PySem.W.Fast.tw1867652388091646480 : True := trivial
theorem PySem.W.Fast.tw2319950392250945575 : True := trivial
theorem PySem.W.Fast.tw12646825504399272313 : True := trivial
theorem PySem.W.Fast.tw12044936004233704302 : True := trivial
theorem PySem.W.Fast.tw13510762063831356004 : True := trivial
theorem PySem.W.Fast.tw18233378177245123961 : True := trivial
theorem PySem.W.Fast.tw6652937025959667314 : True := trivial
theorem PySem.W.Fast.tw9058879912898349787 : True := trivial
theorem PySem.W.Fast.tw8881372482787074307 : True := trivial
theorem PySem.W.Fast.tw11498128314670347975 : True := trivial
theorem PySem.W.Fast.tw8672921176708952732 : True := trivial
theorem PySem.W.Fast.tw9475282059859518510 : True := trivial
theorem PySem.W.Fast.tw3072295029949086739 : True := trivial
theorem PySem.W.Fast.tw2488504010101562191 : True := trivial
theorem PySem.W.Fast.tw46729300573601069 : True := trivial
theorem PySem.W.Fast.tw12143705472138442225 : True := trivial
theorem PySem.W.Fast.tw123901612281860297 : True := trivial
theorem PySem.W.Fast.tw2047589417677938131 : True := trivial
theorem PySem.W.Fast.tw2442290571636920203 : True := trivial
theorem PySem.W.Fast.tw9702670805707808143 : True := trivial
theorem PySem.W.Fast.tw14422963472417113685 : True := trivial
theorem PySem.W.Fast.tw339804451309962261 : True := trivial
theorem PySem.W.Fast.tw9060947552865995270 : True := trivial
theorem PySem.W.Fast.tw14611608122755326512 : True := trivial
theorem PySem.W.Fast.tw2901169024813341450 : True := trivial
theorem PySem.W.Fast.tw5151038034070463595 : True := trivial
theorem PySem.W.Fast.tw7644337991400767142 : True := trivial
theorem PySem.W.Fast.tw10990690960600429697 : True := trivial
theorem PySem.W.Fast.tw2097530115139210891 : True := trivial
theorem PySem.W.Fast.tw740218858714967361 : True := trivial
theorem PySem.W.Fast.tw18147679174424468039 : True := trivial
theorem PySem.W.Fast.tw9974833894372057543 : True := trivial
theorem PySem.W.Fast.tw4682027918197858887 : True := trivial
theorem PySem.W.Fast.tw16487560112675086138 : True := trivial
theorem PySem.W.Fast.tw13090416681064084011 : True := trivial
theorem PySem.W.Fast.tw7485027388636193878 : True := trivial
theorem PySem.W.Fast.tw13397312798997570804 : True := trivial
theorem PySem.W.Fast.tw8089812977092302998 : True := trivial
theorem PySem.W.Fast.tw2093750069059985052 : True := trivial
theorem PySem.W.Fast.tw2825067225126096684 : True := trivial
theorem PySem.W.Fast.tw8843742934787860832 : True := trivial
theorem PySem.W.Fast.tw16303104533832653349 : True := trivial
theorem PySem.W.Fast.tw2021262063805853584 : True := trivial
theorem PySem.W.Fast.tw15184207967116439181 : True := trivial
theorem PySem.W.Fast.tw14284148518511088524 : True := trivial
theorem PySem.W.Fast.tw11033970401570231048 : True := trivial
theorem PySem.W.Fast.tw4143183031301704305 : True := trivial
theorem PySem.W.Fast.tw114245528306338431 : True := trivial
theorem PySem.W.Fast.tw7762091818603378260 : True := trivial
theorem PySem.W.Fast.tw1085839964531445360 : True := trivial
theorem PySem.W.Fast.tw5243362433199949150 : True := trivial
theorem PySem.W.Fast.tw15339653405022405223 : True := trivial
theorem PySem.W.Fast.tw7002027733368590862 : True := trivial
theorem PySem.W.Fast.tw14037667045875222543 : True := trivial
theorem PySem.W.Fast.tw7655712040753704202 : True := trivial
theorem PySem.W.Fast.tw9973728441721982458 : True := trivial
theorem PySem.W.Fast.tw18240769209494476952 : True := trivial
theorem PySem.W.Fast.tw3862441021928205776 : True := trivial
theorem PySem.W.Fast.tw12256618513880265021 : True := trivial
theorem PySem.W.Fast.tw15996145427327039810 : True := trivial
theorem PySem.W.Fast.tw751806939957894743 : True := trivial
theorem PySem.W.Fast.tw2201016019312436803 : True := trivial
theorem PySem.W.Fast.tw5663886313215252619 : True := trivial
theorem PySem.W.Fast.tw17919654646128098992 : True := trivial
theorem PySem.W.Fast.tw11533951361052240977 : True := trivial
theorem PySem.W.Fast.tw3208087386437005554 : True := trivial
theorem PySem.W.Fast.tw1030349234157313845 : True := trivial
theorem PySem.W.Fast.tw16701034165753423472 : True := trivial
theorem PySem.W.Fast.tw1477396955893618307 : True := trivial
theorem PySem.W.Fast.tw9141453938471940758 : True := trivial
theorem PySem.W.Fast.tw10333806606196308925 : True := trivial
theorem PySem.W.Fast.tw17874613437761235346 : True := trivial
theorem PySem.W.Fast.tw1853682991567017229 : True := trivial
theorem PySem.W.Fast.tw12880150437920206620 : True := trivial
theorem PySem.W.Fast.tw15984113113117936745 : True := trivial
theorem PySem.W.Fast.tw16213685263961214449 : True := trivial
theorem PySem.W.Fast.tw10842985160202481587 : True := trivial
theorem PySem.W.Fast.tw10938551839916118539 : True := trivial
theorem PySem.W.Fast.tw9761098433423125927 : True := trivial
theorem PySem.W.Fast.tw14924337661975285167 : True := trivial
theorem PySem.W.Fast.tw13636304596362480932 : True := trivial
theorem PySem.W.Fast.tw18422659626910205783 : True := trivial
theorem PySem.W.Fast.tw11440532909101901406 : True := trivial
theorem PySem.W.Fast.tw17619246725542798863 : True := trivial
theorem PySem.W.Fast.tw5545453563523223124 : True := trivial
theorem PySem.W.Fast.tw16932756893559871938 : True := trivial
theorem PySem.W.Fast.tw1493257899162933919 : True := trivial
theorem PySem.W.Fast.tw840714106410754 : True := trivial
theorem PySem.W.Fast.tw14062440714718766545 : True := trivial
theorem PySem.W.Fast.tw12884119241004003876 : True := trivial
theorem PySem.W.Fast.tw9171872472889456541 : True := trivial
theorem PySem.W.Fast.tw13822431111738738997 : True := trivial
theorem PySem.W.Fast.tw9883758256739907088 : True := trivial
theorem PySem.W.Fast.tw16528838094148516824 : True := trivial
theorem PySem.W.Fast.tw11185914560710911179 : True := trivial
theorem PySem.W.Fast.tw12194399048767320299 : True := trivial
theorem PySem.W.Fast.tw2402235401398357760 : True := trivial
theorem PySem.W.Fast.tw11355512397848113705 : True := trivial
theorem PySem.W.Fast.tw12776907143285989047 : True := trivial
theorem PySem.W.Fast.tw18146300011069433755 : True := trivial
theorem PySem.W.Fast.tw11991898876280482017 : True := trivial
theorem PySem.W.Fast.tw8090179109909973889 : True := trivial
theorem PySem.W.Fast.tw18200033217549778809 : True := trivial
theorem PySem.W.Fast.tw2750058978811088501 : True := trivial
theorem PySem.W.Fast.tw15519655376773182612 : True := trivial
theorem PySem.W.Fast.tw12966955492365975467 : True := trivial
theorem PySem.W.Fast.tw7875657752851456115 : True := trivial
theorem PySem.W.Fast.tw14131578690704780850 : True := trivial
theorem PySem.W.Fast.tw10484379017411136593 : True := trivial
theorem PySem.W.Fast.tw7835470359670078514 : True := trivial
theorem PySem.W.Fast.tw17750677965335320736 : True := trivial
theorem PySem.W.Fast.tw5264067526670030193 : True := trivial
theorem PySem.W.Fast.tw11211040186378754464 : True := trivial
theorem PySem.W.Fast.tw5278459198765851910 : True := trivial
theorem PySem.W.Fast.tw10681962758936323610 : True := trivial
theorem PySem.W.Fast.tw12489422502366031429 : True := trivial
theorem PySem.W.Fast.tw2632956244136699173 : True := trivial
theorem PySem.W.Fast.tw7427853262061894251 : True := trivial
theorem PySem.W.Fast.tw9573179557135686815 : True := trivial
theorem PySem.W.Fast.tw11062857953704187898 : True := trivial
theorem PySem.W.Fast.tw15272760860637113114 : True := trivial
theorem PySem.W.Fast.tw3026432207587731772 : True := trivial
theorem PySem.W.Fast.tw4591495047581294634 : True := trivial
theorem PySem.W.Fast.tw272482984706971386 : True := trivial
theorem PySem.W.Fast.tw22231178440018245 : True := trivial
theorem PySem.W.Fast.tw1620134658174800763 : True := trivial
theorem PySem.W.Fast.tw2127111762688542146 : True := trivial
theorem PySem.W.Fast.tw1663617673980846116 : True := trivial
theorem PySem.W.Fast.tw2972549625932242944 : True := trivial
theorem PySem.W.Fast.tw16162892125294233375 : True := trivial
theorem PySem.W.Fast.tw12651249236400762150 : True := trivial
theorem PySem.W.Fast.tw8809849561026640260 : True := trivial
theorem PySem.W.Fast.tw12700689647086444974 : True := trivial
theorem PySem.W.Fast.tw9245610950403942853 : True := trivial
theorem PySem.W.Fast.tw7487773739088002522 : True := trivial
theorem PySem.W.Fast.tw11899007462873126919 : True := trivial
theorem PySem.W.Fast.tw11991335382115402278 : True := trivial
theorem PySem.W.Fast.tw2720044486655630224 : True := trivial
theorem PySem.W.Fast.tw2433311864644027880 : True := trivial
theorem PySem.W.Fast.tw15800784755147582863 : True := trivial
theorem PySem.W.Fast.tw12772230093063907210 : True := trivial
theorem PySem.W.Fast.tw18426717988039690629 : True := trivial
theorem PySem.W.Fast.tw10788560896206595681 : True := trivial
theorem PySem.W.Fast.tw3264961733610099178 : True := trivial
theorem PySem.W.Fast.tw4854283152534312993 : True := trivial
theorem PySem.W.Fast.tw13333150811061644036 : True := trivial
theorem PySem.W.Fast.tw10899613524655417677 : True := trivial
theorem PySem.W.Fast.tw14105813510181190115 : True := trivial
theorem PySem.W.Fast.tw5289979675276091386 : True := trivial
theorem PySem.W.Fast.tw6785733978755137947 : True := trivial
theorem PySem.W.Fast.tw5095978766673868588 : True := trivial
theorem PySem.W.Fast.tw15086746449589120041 : True := trivial
theorem PySem.W.Fast.tw12272852770276535179 : True := trivial
theorem PySem.W.Fast.tw7415262108707515252 : True := trivial
theorem PySem.W.Fast.tw854341442858843300 : True := trivial
theorem PySem.W.Fast.tw9392007467874375947 : True := trivial
theorem PySem.W.Fast.tw399432326082226069 : True := trivial
theorem PySem.W.Fast.tw1991123734875124531 : True := trivial
theorem PySem.W.Fast.tw16949091870970354264 : True := trivial
theorem PySem.W.Fast.tw13749109559293162944 : True := trivial
theorem PySem.W.Fast.tw16159889557386730415 : True := trivial
theorem PySem.W.Fast.tw5063144535910953085 : True := trivial
theorem PySem.W.Fast.tw6966087082443996791 : True := trivial
theorem PySem.W.Fast.tw5429645011247764705 : True := trivial
theorem PySem.W.Fast.tw9338045590665398141 : True := trivial
theorem PySem.W.Fast.tw2009632242174196735 : True := trivial
theorem PySem.W.Fast.tw9894160699686395510 : True := trivial
theorem PySem.W.Fast.tw13536220897596199843 : True := trivial
theorem PySem.W.Fast.tw8740201763378621752 : True := trivial
theorem PySem.W.Fast.tw10086564139378587433 : True := trivial
theorem PySem.W.Fast.tw4864610720017425087 : True := trivial
theorem PySem.W.Fast.tw14561678681610452385 : True := trivial
theorem PySem.W.Fast.tw10020156078590301110 : True := trivial
theorem PySem.W.Fast.tw6677378673160367090 : True := trivial
theorem PySem.W.Fast.tw13354542482736463682 : True := trivial
theorem PySem.W.Fast.tw14866282787884835349 : True := trivial
theorem PySem.W.Fast.tw13419037390303912273 : True := trivial
theorem PySem.W.Fast.tw15250839355492848200 : True := trivial
theorem PySem.W.Fast.tw10969466778866173958 : True := trivial
theorem PySem.W.Fast.tw1893936601335961011 : True := trivial
theorem PySem.W.Fast.tw12488371709355646452 : True := trivial
theorem PySem.W.Fast.tw3800642598743149896 : True := trivial
theorem PySem.W.Fast.tw8147863249538330945 : True := trivial
theorem PySem.W.Fast.tw15700247709140580965 : True := trivial
theorem PySem.W.Fast.tw346511005803518897 : True := trivial
theorem PySem.W.Fast.tw4835149003550675859 : True := trivial
theorem PySem.W.Fast.tw16663014198337527814 : True := trivial
theorem PySem.W.Fast.tw8721763515322209802 : True := trivial
theorem PySem.W.Fast.tw6009036939164207263 : True := trivial
theorem PySem.W.Fast.tw14542616684179081268 : True := trivial
theorem PySem.W.Fast.tw10709235628256102798 : True := trivial
theorem PySem.W.Fast.tw17868699972444893078 : True := trivial
theorem PySem.W.Fast.tw10830585177116161646 : True := trivial
theorem PySem.W.Fast.tw11699482624063218144 : True := trivial
theorem PySem.W.Fast.tw16385357779882756951 : True := trivial
theorem PySem.W.Fast.tw15903714388040612547 : True := trivial
theorem PySem.W.Fast.tw11089284700375119074 : True := trivial
theorem PySem.W.Fast.tw517818004390379434 : True := trivial
theorem PySem.W.Fast.tw7415159585658514161 : True := trivial
theorem PySem.W.Fast.tw6025848928568355704 : True := trivial
theorem PySem.W.Fast.tw2648185430424951892 : True := trivial
theorem PySem.W.Fast.tw17288367734875972488 : True := trivial
theorem PySem.W.Fast.tw11509618022942892483 : True := trivial
theorem PySem.W.Fast.tw1287016108790828791 : True := trivial
theorem PySem.W.Fast.tw14556494349597921246 : True := trivial
theorem PySem.W.Fast.tw933614386156321581 : True := trivial
theorem PySem.W.Fast.tw15576326313966663980 : True := trivial
theorem PySem.W.Fast.tw5329159791284127091 : True := trivial
theorem PySem.W.Fast.tw3344127504693071268 : True := trivial
theorem PySem.W.Fast.tw6751448264652739105 : True := trivial
theorem PySem.W.Fast.tw352797096911997553 : True := trivial
theorem PySem.W.Fast.tw14384123415540997633 : True := trivial
theorem PySem.W.Fast.tw13359114514312881430 : True := trivial
theorem PySem.W.Fast.tw8287599327971641671 : True := trivial
theorem PySem.W.Fast.tw3362465237615881236 : True := trivial
theorem PySem.W.Fast.tw11313308615540934374 : True := trivial
theorem PySem.W.Fast.tw4639995658223272135 : True := trivial
theorem PySem.W.Fast.tw11119294650582569144 : True := trivial
theorem PySem.W.Fast.tw5375243888102927861 : True := trivial
theorem PySem.W.Fast.tw17999822144327477878 : True := trivial
theorem PySem.W.Fast.tw2610969136063720364 : True := trivial
theorem PySem.W.Fast.tw5847349274293321204 : True := trivial
theorem PySem.W.Fast.tw11728584372255462332 : True := trivial
theorem PySem.W.Fast.tw14790552650217988614 : True := trivial
theorem PySem.W.Fast.tw13138336823909855607 : True := trivial
theorem PySem.W.Fast.tw8227245984541436749 : True := trivial
theorem PySem.W.Fast.tw9884697135304937379 : True := trivial
theorem PySem.W.Fast.tw7660375364514692041 : True := trivial
theorem PySem.W.Fast.tw16418344508959272948 : True := trivial
theorem PySem.W.Fast.tw16745075919898930905 : True := trivial
theorem PySem.W.Fast.tw14482022878754449780 : True := trivial
theorem PySem.W.Fast.tw4936936634710808664 : True := trivial
theorem PySem.W.Fast.tw11106414544052662514 : True := trivial
theorem PySem.W.Fast.tw3497078550549531333 : True := trivial
theorem PySem.W.Fast.tw10820788720414263854 : True := trivial
theorem PySem.W.Fast.tw9866519631001102569 : True := trivial
theorem PySem.W.Fast.tw10016661643857070994 : True := trivial
theorem PySem.W.Fast.tw7391137179567213109 : True := trivial
theorem PySem.W.Fast.tw9977488851889315380 : True := trivial
theorem PySem.W.Fast.tw9504843136077986879 : True := trivial
theorem PySem.W.Fast.tw11655362115621285270 : True := trivial
theorem PySem.W.Fast.tw17822559575886156538 : True := trivial
theorem PySem.W.Fast.tw540599555960174487 : True := trivial
theorem PySem.W.Fast.tw16352802510666705300 : True := trivial
theorem PySem.W.Fast.tw6521581519016374877 : True := trivial
theorem PySem.W.Fast.tw13412372237165430902 : True := trivial
theorem PySem.W.Fast.tw11573259966903063765 : True := trivial
theorem PySem.W.Fast.tw13369652819086486101 : True := trivial
theorem PySem.W.Fast.tw13633953138724394722 : True := trivial
theorem PySem.W.Fast.tw6203785739991412990 : True := trivial
theorem PySem.W.Fast.tw6149689801244812923 : True := trivial
theorem PySem.W.Fast.tw16925237854172957505 : True := trivial
theorem PySem.W.Fast.tw12490869765466982911 : True := trivial
theorem PySem.W.Fast.tw5366052946353672030 : True := trivial
theorem PySem.W.Fast.tw8484515207904927994 : True := trivial
theorem PySem.W.Fast.tw7078720487640861730 : True := trivial
theorem PySem.W.Fast.tw15559146193951140322 : True := trivial
theorem PySem.W.Fast.tw17545105406414379191 : True := trivial
theorem PySem.W.Fast.tw12486547402347753162 : True := trivial
theorem PySem.W.Fast.tw7757787867791892748 : True := trivial
theorem PySem.W.Fast.tw16846708296125029061 : True := trivial
theorem PySem.W.Fast.tw13049193875870511572 : True := trivial
theorem PySem.W.Fast.tw13102817429990286672 : True := trivial
theorem PySem.W.Fast.tw11526605479770381802 : True := trivial
theorem PySem.W.Fast.tw6158413512677963923 : True := trivial
theorem PySem.W.Fast.tw13332637793981300923 : True := trivial
theorem PySem.W.Fast.tw3273844400181266985 : True := trivial
theorem PySem.W.Fast.tw8095675824307833445 : True := trivial
theorem PySem.W.Fast.tw15196794380902636774 : True := trivial
theorem PySem.W.Fast.tw5937026531195070738 : True := trivial
theorem PySem.W.Fast.tw12161006486828118627 : True := trivial
theorem PySem.W.Fast.tw6445873856261736103 : True := trivial
theorem PySem.W.Fast.tw6461383253056513944 : True := trivial
theorem PySem.W.Fast.tw10638064595803998513 : True := trivial
theorem PySem.W.Fast.tw12140723416633529760 : True := trivial
theorem PySem.W.Fast.tw10863626597327910482 : True := trivial
theorem PySem.W.Fast.tw9505178833024157959 : True := trivial
theorem PySem.W.Fast.tw12779151818896883838 : True := trivial
theorem PySem.W.Fast.tw15372910004099098164 : True := trivial
theorem PySem.W.Fast.tw3987785752787509195 : True := trivial
theorem PySem.W.Fast.tw13075254014858453887 : True := trivial
theorem PySem.W.Fast.tw18267345457318240416 : True := trivial
theorem PySem.W.Fast.tw1639161120363016861 : True := trivial
theorem PySem.W.Fast.tw1295224292128762535 : True := trivial
theorem PySem.W.Fast.tw2356913737188535482 : True := trivial
theorem PySem.W.Fast.tw324866625036580305 : True := trivial
theorem PySem.W.Fast.tw5140063688094439511 : True := trivial
theorem PySem.W.Fast.tw5118939933096316882 : True := trivial
theorem PySem.W.Fast.tw17999199524383915688 : True := trivial
theorem PySem.W.Fast.tw17303297642307491518 : True := trivial
theorem PySem.W.Fast.tw175281625052462385 : True := trivial
theorem PySem.W.Fast.tw10179112461764371898 : True := trivial
theorem PySem.W.Fast.tw3223139100560608931 : True := trivial
theorem PySem.W.Fast.tw9172292670549287114 : True := trivial
theorem PySem.W.Fast.tw52249185228064151 : True := trivial
theorem PySem.W.Fast.tw95471843629574960 : True := trivial
theorem PySem.W.Fast.tw5136761914121169970 : True := trivial
theorem PySem.W.Fast.tw1458863669811258483 : True := trivial
theorem PySem.W.Fast.tw16409755234444232165 : True := trivial
theorem PySem.W.Fast.tw11058938945259873455 : True := trivial
theorem PySem.W.Fast.tw12103886340253744763 : True := trivial
theorem PySem.W.Fast.tw10820891262390488917 : True := trivial
theorem PySem.W.Fast.tw11040678066166628511 : True := trivial
theorem PySem.W.Fast.tw10784385539698201868 : True := trivial
theorem PySem.W.Fast.tw13270858156478817598 : True := trivial
theorem PySem.W.Fast.tw17769775095729212053 : True := trivial
theorem PySem.W.Fast.tw817125528225290355 : True := trivial
theorem PySem.W.Fast.tw13243783240088038543 : True := trivial
theorem PySem.W.Fast.tw17753261677631097068 : True := trivial
theorem PySem.W.Fast.tw10423115194678077791 : True := trivial
theorem PySem.W.Fast.tw3459585581171769815 : True := trivial
theorem PySem.W.Fast.tw330396724452097712 : True := trivial
theorem PySem.W.Fast.tw13029240772555129909 : True := trivial
theorem PySem.W.Fast.tw745254909918059449 : True := trivial
theorem PySem.W.Fast.tw3532819968596134734 : True := trivial
theorem PySem.W.Fast.tw11515857955617230756 : True := trivial
theorem PySem.W.Fast.tw13892796555629225168 : True := trivial
theorem PySem.W.Fast.tw8305732776420155878 : True := trivial
theorem PySem.W.Fast.tw17319698348109141023 : True := trivial
theorem PySem.W.Fast.tw6311361864398583262 : True := trivial
theorem PySem.W.Fast.tw12059389621481882064 : True := trivial
theorem PySem.W.Fast.tw253469188624908658 : True := trivial
theorem PySem.W.Fast.tw14173379027228991139 : True := trivial
theorem PySem.W.Fast.tw11796844228457912596 : True := trivial
theorem PySem.W.Fast.tw9458603898518736567 : True := trivial
theorem PySem.W.Fast.tw13605682579576964232 : True := trivial
theorem PySem.W.Fast.tw7856934632292477488 : True := trivial
theorem PySem.W.Fast.tw2534003367172115370 : True := trivial
theorem PySem.W.Fast.tw4864769256437615678 : True := trivial
theorem PySem.W.Fast.tw14013141160938186531 : True := trivial
theorem PySem.W.Fast.tw13805559850305135168 : True := trivial
theorem PySem.W.Fast.tw15926424502296391631 : True := trivial
theorem PySem.W.Fast.tw3211839606462449496 : True := trivial
theorem PySem.W.Fast.tw18323317179259437192 : True := trivial
theorem PySem.W.Fast.tw17546295547819073793 : True := trivial
theorem PySem.W.Fast.tw10041292669683766343 : True := trivial
theorem PySem.W.Fast.tw4233328670035062257 : True := trivial
theorem PySem.W.Fast.tw1616563797303478672 : True := trivial
theorem PySem.W.Fast.tw13595780027300366015 : True := trivial
theorem PySem.W.Fast.tw12878091670244825598 : True := trivial
theorem PySem.W.Fast.tw2426841829372857109 : True := trivial
theorem PySem.W.Fast.tw1245531303972093421 : True := trivial
theorem PySem.W.Fast.tw3524118421477631806 : True := trivial
theorem PySem.W.Fast.tw1587105633798105029 : True := trivial
theorem PySem.W.Fast.tw14157983629914240985 : True := trivial
theorem PySem.W.Fast.tw16215919864908346943 : True := trivial
theorem PySem.W.Fast.tw17125561537008648639 : True := trivial
theorem PySem.W.Fast.tw12896626276181606711 : True := trivial
theorem PySem.W.Fast.tw5876703447182134521 : True := trivial
theorem PySem.W.Fast.tw14078614011993175459 : True := trivial
theorem PySem.W.Fast.tw10307277442020198669 : True := trivial
theorem PySem.W.Fast.tw8839528687326219747 : True := trivial
theorem PySem.W.Fast.tw3377070913192503944 : True := trivial
theorem PySem.W.Fast.tw11739047793047848857 : True := trivial
theorem PySem.W.Fast.tw10576361913397709339 : True := trivial
theorem PySem.W.Fast.tw11307428584716184226 : True := trivial
theorem PySem.W.Fast.tw2480086113434662664 : True := trivial
theorem PySem.W.Fast.tw7238759879709925828 : True := trivial
theorem PySem.W.Fast.tw8185625752646134657 : True := trivial
theorem PySem.W.Fast.tw16467648283932777520 : True := trivial
theorem PySem.W.Fast.tw11764132418121485602 : True := trivial
theorem PySem.W.Fast.tw16732717254879630599 : True := trivial
theorem PySem.W.Fast.tw8224678441765784693 : True := trivial
theorem PySem.W.Fast.tw1920960316896224532 : True := trivial
theorem PySem.W.Fast.tw3494539891749860879 : True := trivial
theorem PySem.W.Fast.tw13789117559681758308 : True := trivial
theorem PySem.W.Fast.tw17888697702046502512 : True := trivial
theorem PySem.W.Fast.tw15267063405200697519 : True := trivial
theorem PySem.W.Fast.tw12536087611625057061 : True := trivial
theorem PySem.W.Fast.tw16013487814608515288 : True := trivial
theorem PySem.W.Fast.tw10355315597634383812 : True := trivial
theorem PySem.W.Fast.tw1155686684494145584 : True := trivial
theorem PySem.W.Fast.tw2430741658890726787 : True := trivial
theorem PySem.W.Fast.tw16901867120397356391 : True := trivial
theorem PySem.W.Fast.tw6627241540878742166 : True := trivial
theorem PySem.W.Fast.tw11671100863125978504 : True := trivial
theorem PySem.W.Fast.tw10630168330135020930 : True := trivial
theorem PySem.W.Fast.tw8833225725647998270 : True := trivial
theorem PySem.W.Fast.tw9427221728971634223 : True := trivial
theorem PySem.W.Fast.tw903654909231838310 : True := trivial
theorem PySem.W.Fast.tw3744102725623590110 : True := trivial
theorem PySem.W.Fast.tw4725091195960923869 : True := trivial
theorem PySem.W.Fast.tw18149267588679263116 : True := trivial
theorem PySem.W.Fast.tw16439860757019968063 : True := trivial
theorem PySem.W.Fast.tw5511241399078653619 : True := trivial
theorem PySem.W.Fast.tw18081593345552227624 : True := trivial
theorem PySem.W.Fast.tw1071648353294173259 : True := trivial
theorem PySem.W.Fast.tw719347453171167333 : True := trivial
theorem PySem.W.Fast.tw5622340125734104470 : True := trivial
theorem PySem.W.Fast.tw15701538513198276615 : True := trivial

open PySem PySem.W PyProof.Rows
set_option maxRecDepth 100000 in
set_option maxHeartbeats 0 in
theorem PySem.Challenge.cw_farheap_k08_make_assign_reset_look_holds : PySem.Challenge.rw_farheap_k08_make_assign_reset_look.Holds := by
  w_on; o_law; k_head; (case hw => w_witness2)
  k_fill
  refine LL.walk (l := PySem.Challenge.rw_farheap_k08_make_assign_reset_look) (k := 7) (x := "_law_script") (sp := K08.spLaw) rfl rfl ⟨rfl, by decide, by decide⟩ (fun w h Y => PySem.W.kIn_of Y) ?F K08.law_sp
  case F =>
    intro w mg fa h KX G hmg
    refine' K08.all_mk KX G hmg ?aC0 ?aC1 ?aC2 ?aC3 ?aC4 ?aC5 ?aE0 ?aE1 ?aE2 ?a0 ?i0 ?l0 ?c0 ?k0 ?a1 ?i1 ?l1 ?c1 ?k1 ?a2 ?i2 ?l2 ?c2 ?k2 ?a3 ?i3 ?l3 ?c3 ?k3 ?a4 ?i4 ?l4 ?c4 ?k4 ?a5 ?i5 ?l5 ?c5 ?k5 ?a6 ?i6 ?l6 ?c6 ?k6 ?a7 ?l7 ?c7 ?k7 ?a8 ?l8 ?c8 ?k8 ?a9 ?l9 ?c9 ?k9 ?a10 ?i10 ?l10 ?c10 ?k10 ?a11 ?i11 ?l11 ?c11 ?k11 ?a12 ?i12 ?l12 ?w12_0 ?w12_1 ?c12 ?k12 ?a13 ?i13 ?l13 ?c13 ?k13 ?a14 ?i14 ?l14 ?c14 ?k14 ?a15 ?i15 ?l15 ?c15 ?k15 ?a16 ?i16 ?l16 ?c16 ?k16 ?a17 ?i17 ?l17 ?c17 ?k17 ?a18 ?i18 ?l18 ?c18 ?k18 ?a19 ?i19 ?l19 ?c19 ?k19 ?a20 ?l20 ?c20 ?k20 ?a21 ?l21 ?c21 ?k21 ?a22 ?l22 ?c22 ?k22 ?a23 ?l23 ?c23 ?k23 ?a24 ?l24 ?c24 ?k24 ?a25 ?l25 ?c25 ?k25 ?a26 ?l26 ?c26 ?k26 ?a27 ?l27 ?c27 ?k27 ?pgC0 ?hdC0 ?poC0 ?saC0 ?mkC0 ?kcC0 ?nC0_0 ?nC0_1 ?pgC1 ?hdC1 ?poC1 ?saC1 ?mkC1 ?kcC1 ?nC1_0 ?pgC2 ?hdC2 ?poC2 ?saC2 ?mkC2 ?kcC2 ?nC2_0 ?pgC3 ?hdC3 ?poC3 ?saC3 ?mkC3 ?kcC3 ?nC3_0 ?nC3_1 ?nC3_2 ?nC3_3 ?nC3_4 ?nC3_5 ?nC3_6 ?nC3_7 ?nC3_8 ?nC3_9 ?nC3_10 ?nC3_11 ?nC3_12 ?nC3_13 ?nC3_14 ?nC3_15 ?nC3_16 ?nC3_17 ?nC3_18 ?nC3_19 ?nC3_20 ?pgC4 ?hdC4 ?poC4 ?saC4 ?mkC4 ?kcC4 ?nC4_0 ?nC4_1 ?nC4_2 ?nC4_3 ?pgC5 ?hdC5 ?poC5 ?saC5 ?mkC5 ?kcC5 ?nC5_0 ?nC5_1 ?nC5_2 ?exE0 ?ekE0 ?esE0 ?etE0 ?exE1 ?ekE1 ?esE1 ?etE1 ?exE2 ?ekE2 ?esE2 ?etE2 ?aX0 ?cgE0 ?ckE0 ?cdE0 ?ccE0 ?cmE0 ?neE0E1 ?xsE0_0 ?xsE0_1 ?xsE0_2 ?cgE1 ?ckE1 ?cdE1 ?ccE1 ?cmE1 ?xsE1_0 ?xsE1_1 ?neE1E0 ?xsE1_2 ?cgE2 ?ckE2 ?cdE2 ?ccE2 ?cmE2 ?neE2E1 ?xsE2_0 ?xsE2_1 ?neE2E0 ?xsE2_2 ?esX0 ?etX0 ?cdX0 ?cn ?ct ?z0 ?z1 ?z2 ?z3 ?z4 ?z5 ?z6 ?z7 ?z8 ?z9 ?z10 ?z11 ?neC1C0 ?neC2C0 ?neC2C1 ?neC3C0 ?neC3C1 ?neC3C2 ?neC4C0 ?neC4C1 ?neC4C2 ?neC4C3 ?neC5C0 ?neC5C1 ?neC5C2 ?neC5C3 ?neC5C4 ?v0
    (case aC0 => k_is)
    (case aC1 => k_is)
    (case aC2 => k_is)
    (case aC3 => k_is)
    (case aC4 => k_is)
    (case aC5 => k_is)
    (case aE0 => k_is)
    (case aE1 => k_is)
    (case aE2 => k_is)
    (case a0 => k_is)
    (case i0 => k_is)
    (case l0 => k_is)
    (case c0 => k_is)
    (case k0 => k_is)
    (case a1 => k_is)
    (case i1 => k_is)
    (case l1 => k_is)
    (case c1 => k_is)
    (case k1 => k_is)
    (case a2 => k_is)
    (case i2 => k_is)
    (case l2 => k_is)
    (case c2 => k_is)
    (case k2 => k_is)
    (case a3 => k_is)
    (case i3 => k_is)
    (case l3 => k_is)
    (case c3 => k_is)
    (case k3 => k_is)
    (case a4 => k_is)
    (case i4 => k_is)
    (case l4 => k_is)
    (case c4 => k_is)
    (case k4 => k_is)
    (case a5 => k_is)
    (case i5 => k_is)
    (case l5 => k_is)
    (case c5 => k_is)
    (case k5 => k_is)
    (case a6 => k_is)
    (case i6 => k_is)
    (case l6 => k_is)
    (case c6 => k_is)
    (case k6 => k_is)
    (case a7 => k_is)
    (case l7 => k_is)
    (case c7 => k_is)
    (case k7 => k_is)
    (case a8 => k_is)
    (case l8 => k_is)
    (case c8 => k_is)
    (case k8 => k_is)
    (case a9 => k_is)
    (case l9 => k_is)
    (case c9 => k_is)
    (case k9 => k_is)
    (case a10 => k_is)
    (case i10 => k_is)
    (case l10 => k_is)
    (case c10 => k_is)
    (case k10 => k_is)
    (case a11 => k_is)
    (case i11 => k_is)
    (case l11 => k_is)
    (case c11 => k_is)
    (case k11 => k_is)
    (case a12 => k_is)
    (case i12 => k_is)
    (case l12 => k_is)
    (case w12_0 => k_is)
    (case w12_1 => k_is)
    (case c12 => k_is)
    (case k12 => k_is)
    (case a13 => k_is)
    (case i13 => k_is)
    (case l13 => k_is)
    (case c13 => k_is)
    (case k13 => k_is)
    (case a14 => k_is)
    (case i14 => k_is)
    (case l14 => k_is)
    (case c14 => k_is)
    (case k14 => k_is)
    (case a15 => k_is)
    (case i15 => k_is)
    (case l15 => k_is)
    (case c15 => k_is)
    (case k15 => k_is)
    (case a16 => k_is)
    (case i16 => k_is)
    (case l16 => k_is)
    (case c16 => k_is)
    (case k16 => k_is)
    (case a17 => k_is)
    (case i17 => k_is)
    (case l17 => k_is)
    (case c17 => k_is)
    (case k17 => k_is)
    (case a18 => k_is)
    (case i18 => k_is)
    (case l18 => k_is)
    (case c18 => k_is)
    (case k18 => k_is)
    (case a19 => k_is)
    (case i19 => k_is)
    (case l19 => k_is)
    (case c19 => k_is)
    (case k19 => k_is)
    (case a20 => k_is)
    (case l20 => k_is)
    (case c20 => k_is)
    (case k20 => k_is)
    (case a21 => k_is)
    (case l21 => k_is)
    (case c21 => k_is)
    (case k21 => k_is)
    (case a22 => k_is)
    (case l22 => k_is)
    (case c22 => k_is)
    (case k22 => k_is)
    (case a23 => k_is)
    (case l23 => k_is)
    (case c23 => k_is)
    (case k23 => k_is)
    (case a24 => k_is)
    (case l24 => k_is)
    (case c24 => k_is)
    (case k24 => k_is)
    (case a25 => k_is)
    (case l25 => k_is)
    (case c25 => k_is)
    (case k25 => k_is)
    (case a26 => k_is)
    (case l26 => k_is)
    (case c26 => k_is)
    (case k26 => k_is)
    (case a27 => k_is)
    (case l27 => k_is)
    (case c27 => k_is)
    (case k27 => k_is)
    (case pgC0 => k_is)
    (case hdC0 => k_is)
    (case poC0 => k_is)
    (case saC0 => k_is)
    (case mkC0 => k_is)
    (case kcC0 => k_is)
    (case nC0_0 => k_is)
    (case nC0_1 => k_is)
    (case pgC1 => k_is)
    (case hdC1 => k_is)
    (case poC1 => k_is)
    (case saC1 => k_is)
    (case mkC1 => k_is)
    (case kcC1 => k_is)
    (case nC1_0 => k_is)
    (case pgC2 => k_is)
    (case hdC2 => k_is)
    (case poC2 => k_is)
    (case saC2 => k_is)
    (case mkC2 => k_is)
    (case kcC2 => k_is)
    (case nC2_0 => k_is)
    (case pgC3 => k_is)
    (case hdC3 => k_is)
    (case poC3 => k_is)
    (case saC3 => k_is)
    (case mkC3 => k_is)
    (case kcC3 => k_is)
    (case nC3_0 => k_is)
    (case nC3_1 => k_is)
    (case nC3_2 => k_is)
    (case nC3_3 => k_is)
    (case nC3_4 => k_is)
    (case nC3_5 => k_is)
    (case nC3_6 => k_is)
    (case nC3_7 => k_is)
    (case nC3_8 => k_is)
    (case nC3_9 => k_is)
    (case nC3_10 => k_is)
    (case nC3_11 => k_is)
    (case nC3_12 => k_is)
    (case nC3_13 => k_is)
    (case nC3_14 => k_is)
    (case nC3_15 => k_is)
    (case nC3_16 => k_is)
    (case nC3_17 => k_is)
    (case nC3_18 => k_is)
    (case nC3_19 => k_is)
    (case nC3_20 => k_is)
    (case pgC4 => k_is)
    (case hdC4 => k_is)
    (case poC4 => k_is)
    (case saC4 => k_is)
    (case mkC4 => k_is)
    (case kcC4 => k_is)
    (case nC4_0 => k_is)
    (case nC4_1 => k_is)
    (case nC4_2 => k_is)
    (case nC4_3 => k_is)
    (case pgC5 => k_is)
    (case hdC5 => k_is)
    (case poC5 => k_is)
    (case saC5 => k_is)
    (case mkC5 => k_is)
    (case kcC5 => k_is)
    (case nC5_0 => k_is)
    (case nC5_1 => k_is)
    (case nC5_2 => k_is)
    (case exE0 => (first | decide +kernel | (with_unfolding_all rfl)))
    (case ekE0 => k_is)
    (case esE0 => k_is)
    (case etE0 => k_is)
    (case exE1 => (first | decide +kernel | (with_unfolding_all rfl)))
    (case ekE1 => k_is)
    (case esE1 => k_is)
    (case etE1 => k_is)
    (case exE2 => (first | decide +kernel | (with_unfolding_all rfl)))
    (case ekE2 => k_is)
    (case esE2 => k_is)
    (case etE2 => k_is)
    (case aX0 => k_is)
    (case cgE0 => k_is)
    (case ckE0 => k_is)
    (case cdE0 => k_is)
    (case ccE0 => k_is)
    (case cmE0 => k_is)
    (case neE0E1 => decide)
    (case xsE0_0 => k_is)
    (case xsE0_1 => k_is)
    (case xsE0_2 => k_is)
    (case cgE1 => k_is)
    (case ckE1 => k_is)
    (case cdE1 => k_is)
    (case ccE1 => k_is)
    (case cmE1 => k_is)
    (case xsE1_0 => k_is)
    (case xsE1_1 => k_is)
    (case neE1E0 => decide)
    (case xsE1_2 => k_is)
    (case cgE2 => k_is)
    (case ckE2 => k_is)
    (case cdE2 => k_is)
    (case ccE2 => k_is)
    (case cmE2 => k_is)
    (case neE2E1 => decide)
    (case xsE2_0 => k_is)
    (case xsE2_1 => k_is)
    (case neE2E0 => decide)
    (case xsE2_2 => k_is)
    (case esX0 => k_is)
    (case etX0 => k_is)
    (case cdX0 => k_is)
    (case cn => k_is)
    (case ct => k_is)
    (case z0 => k_is)
    (case z1 => k_is)
    (case z2 => k_is)
    (case z3 => k_is)
    (case z4 => k_is)
    (case z5 => k_is)
    (case z6 => k_is)
    (case z7 => k_is)
    (case z8 => k_is)
    (case z9 => k_is)
    (case z10 => k_is)
    (case z11 => k_is)
    (case neC1C0 => decide)
    (case neC2C0 => decide)
    (case neC2C1 => decide)
    (case neC3C0 => decide)
    (case neC3C1 => decide)
    (case neC3C2 => decide)
    (case neC4C0 => decide)
    (case neC4C1 => decide)
    (case neC4C2 => decide)
    (case neC4C3 => decide)
    (case neC5C0 => decide)
    (case neC5C1 => decide)
    (case neC5C2 => decide)
    (case neC5C3 => decide)
    (case neC5C4 => decide)
    (case v0 => k_is)
#print axioms PySem.Challenge.cw_farheap_k08_make_assign_reset_look_holds
