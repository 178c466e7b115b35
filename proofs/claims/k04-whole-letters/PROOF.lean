import PyProof.Rows.All
import Wide.All
import OpenK.AllK
import Wide.FinOn
import HandS.ForMost
import HandS.Exc
import HandS.ExcOwn
import HandS.TryOnly
import HandS.TryMany
import HandS.WordsExc
import HandS.IsInst
import HandS.Wide
import HandS.Property
import HandS.DictTup
import HandS.Iter
import HandS.Comp
import HandS.TupAny
import PySem.Challenge.RW_farheap_k04_whole_letters_once_in_order
set_option Elab.async false
set_option linter.all false
set_option maxRecDepth 100000
set_option maxHeartbeats 4000000
/-! LL: a logical layer over the hand layer. Objects have names (with a version), tuples are plain values. -/
namespace LL
open PySem L2

/-- names inside a world -/
inductive WN where
  | world | sites | net | packets | waves | others | noted
  | site (i : Nat) | vars (i : Nat) | inbox (i : Nat) | marks (i : Nat) | contents (i : Nat) | obj (i n : Nat)
  | parcels (i : Nat) | questions (i : Nat) | arrivals (i : Nat) | holdings (i : Nat) | entries (i : Nat) | needed (i : Nat)
  | outg (i : Nat) | incg (i : Nat) | out (i j : Nat) | wait (i j : Nat) | inc (i j : Nat)
  deriving DecidableEq
/-- names of objects: of the k-th world; of the law; any other -/
inductive Nm where
  | w (k : Nat) (n : WN) | x (p : List Nat) | a (k : Nat)
  deriving DecidableEq

/-- logical values -/
inductive LV where
  | non | bl (b : Bool) | int (i : Int) | str (x : Str) | tup (xs : List LV) | loc (n : Nm) (v : Nat) | rol (ns : List Int) | ref (a : Addr) | ty (n : String)
/-- logical objects -/
inductive LO where
  | lst (xs : List LV) | dK (kvs : List (Key × LV)) | dT (kvs : List (List Key × LV)) | ins (C : Addr) (fs : List (Str × LV)) | fz (o : LO) (ob : Obj) (w : HO)
abbrev LH := Nm → Option (Nat × LO)
def LH.set (h : LH) (n : Nm) (v : Nat) (o : LO) : LH := fun m => if m = n then some (v, o) else h m
def LH.del (h : LH) (n : Nm) : LH := fun m => if m = n then none else h m
def LH.le (h g : LH) : Prop := ∀ n p, h n = some p → g n = some p

theorem LH.set_same {h : LH} {n : Nm} {v : Nat} {o : LO} : h.set n v o n = some (v, o) := by unfold LH.set; rw [if_pos rfl]
theorem LH.set_ne {h : LH} {n m : Nm} {v : Nat} {o : LO} (e : m ≠ n) : h.set n v o m = h m := by unfold LH.set; rw [if_neg e]
theorem LH.set_set {h : LH} {n : Nm} {v w : Nat} {o u : LO} : (h.set n v o).set n w u = h.set n w u := by
  funext m; unfold LH.set; split <;> rfl
theorem LH.del_same {h : LH} {n : Nm} : h.del n n = none := by unfold LH.del; rw [if_pos rfl]
theorem LH.del_ne {h : LH} {n m : Nm} (e : m ≠ n) : h.del n m = h m := by unfold LH.del; rw [if_neg e]
theorem LH.del_set {h : LH} {n : Nm} {v : Nat} {o : LO} (e : h n = none) : (h.set n v o).del n = h := by
  funext m; unfold LH.set LH.del; split <;> simp_all
theorem LH.set_self {h : LH} {n : Nm} {v : Nat} {o : LO} (e : h n = some (v, o)) : h.set n v o = h := by
  funext m; unfold LH.set; split <;> simp_all
theorem LH.set_comm {h : LH} {n m : Nm} {v w : Nat} {o u : LO} (e : n ≠ m) : (h.set n v o).set m w u = (h.set m w u).set n v o := by
  funext k; unfold LH.set; by_cases h1 : k = m <;> by_cases h2 : k = n <;> simp_all
theorem LH.le_refl (h : LH) : h.le h := fun _ _ e => e
theorem LH.le_trans {a b c : LH} (x : a.le b) (y : b.le c) : a.le c := fun n p e => y n p (x n p e)
theorem LH.del_le (h : LH) (n : Nm) : (h.del n).le h := fun m p e => by
  unfold LH.del at e; split at e
  · cases e
  · exact e
theorem LH.le_set {h : LH} {n : Nm} {v : Nat} {o : LO} (e : h n = none) : h.le (h.set n v o) := fun m p q => by
  unfold LH.set; split
  · subst_vars; rw [e] at q; cases q
  · exact q

/-- where the names are, and the abstract heap -/
structure Lay where
  l : Nm × Nat → Option Addr
  H : Hp
/-- a read-only list (the script) -/
def RoL (K : PySem.W.Frag) (H : Hp) (a : Addr) (xs : List V) : Prop :=
  (∃ o, H a = some (.frz o (.lst xs))) ∨
    ∃ (o : Obj) (its : Array Value) (n : Nat), K.lookup a = some o ∧ o.cls = .type "list" ∧ o.dict = none ∧ o.data = .seq its n ∧ its.size ≤ sizeLine ∧ Vals xs its.toList
structure Ext (m m' : Lay) : Prop where
  l : ∀ p a, m.l p = some a → m'.l p = some a
  t : ∀ a xs, m.H a = some (.tup xs) → m'.H a = some (.tup xs)
  f : ∀ a o xs, m.H a = some (.frz o (.lst xs)) → m'.H a = some (.frz o (.lst xs))
theorem Ext.refl (m : Lay) : Ext m m := ⟨fun _ _ e => e, fun _ _ e => e, fun _ _ _ e => e⟩
theorem Ext.trans {a b c : Lay} (x : Ext a b) (y : Ext b c) : Ext a c := ⟨fun p q e => y.l p q (x.l p q e), fun p q e => y.t p q (x.t p q e), fun p o q e => y.f p o q (x.f p o q e)⟩
theorem RoL.mono {K : PySem.W.Frag} {m m' : Lay} {a : Addr} {xs : List V} (e : Ext m m') (h : RoL K m.H a xs) : RoL K m'.H a xs := by
  rcases h with ⟨o, h⟩ | h
  · exact .inl ⟨o, e.f _ _ _ h⟩
  · exact .inr h
theorem RoL.sq {K : PySem.W.Frag} {H : Hp} {a : Addr} {xs : List V} (h : RoL K H a xs) : SqL K H a xs := by
  rcases h with ⟨o, h⟩ | h
  · exact .inl (.inr ⟨o, h⟩)
  · exact .inr h

mutual
def VRel (K : PySem.W.Frag) (m : Lay) : LV → V → Prop
  | .non, v => v = .non
  | .bl b, v => v = .bl b
  | .int i, v => v = .int i
  | .str x, v => v = .str x
  | .tup xs, v => ∃ a vs, v = .ref a ∧ m.H a = some (.tup vs) ∧ VRels K m xs vs
  | .loc n k, v => ∃ a, v = .ref a ∧ m.l (n, k) = some a
  | .rol ns, v => ∃ a, v = .ref a ∧ RoL K m.H a (ns.map V.int)
  | .ref a, v => v = .ref a
  | .ty n, v => v = .ty n
def VRels (K : PySem.W.Frag) (m : Lay) : List LV → List V → Prop
  | [], vs => vs = []
  | x :: xs, vs => ∃ v ws, vs = v :: ws ∧ VRel K m x v ∧ VRels K m xs ws
end
section
variable {K : PySem.W.Frag} {m m' : Lay}
mutual
theorem VRel.mono (e : Ext m m') : ∀ {x : LV} {v : V}, VRel K m x v → VRel K m' x v
  | .non, _, h => h
  | .bl _, _, h => h
  | .int _, _, h => h
  | .str _, _, h => h
  | .tup _, _, ⟨a, vs, e1, e2, h⟩ => ⟨a, vs, e1, e.t _ _ e2, VRels.mono e h⟩
  | .loc _ _, _, ⟨a, e1, e2⟩ => ⟨a, e1, e.l _ _ e2⟩
  | .rol _, _, ⟨a, e1, e2⟩ => ⟨a, e1, e2.mono e⟩
  | .ref _, _, h => h
  | .ty _, _, h => h
theorem VRels.mono (e : Ext m m') : ∀ {xs : List LV} {vs : List V}, VRels K m xs vs → VRels K m' xs vs
  | [], _, h => h
  | _ :: _, _, ⟨v, ws, e1, h, t⟩ => ⟨v, ws, e1, VRel.mono e h, VRels.mono e t⟩
end
theorem VRels.nil : VRels K m [] [] := rfl
theorem VRels.cons {x : LV} {v : V} {xs : List LV} {vs : List V} (h : VRel K m x v) (t : VRels K m xs vs) : VRels K m (x :: xs) (v :: vs) := ⟨v, vs, rfl, h, t⟩
theorem VRels.length : ∀ {xs : List LV} {vs : List V}, VRels K m xs vs → vs.length = xs.length
  | [], _, h => by cases (show _ = [] from h); rfl
  | _ :: _, _, ⟨v, ws, e1, h, t⟩ => by subst e1; simp [VRels.length t]
theorem VRels.get : ∀ {xs : List LV} {vs : List V} {i : Nat} {x : LV}, VRels K m xs vs → xs[i]? = some x → ∃ v, vs[i]? = some v ∧ VRel K m x v
  | [], _, _, _, _, e => by simp at e
  | _ :: _, _, 0, _, ⟨v, ws, e1, h, t⟩, e => by subst e1; simp at e; subst e; exact ⟨v, rfl, h⟩
  | _ :: _, _, i + 1, _, ⟨v, ws, e1, h, t⟩, e => by
    subst e1
    obtain ⟨u, h1, h2⟩ := VRels.get t (i := i) (by simpa using e)
    exact ⟨u, by simpa using h1, h2⟩
theorem VRels.get' : ∀ {xs : List LV} {vs : List V} {i : Nat} {v : V}, VRels K m xs vs → vs[i]? = some v → ∃ x, xs[i]? = some x ∧ VRel K m x v
  | [], _, _, _, h, e => by cases (show _ = [] from h); simp at e
  | _ :: _, _, 0, _, ⟨v, ws, e1, h, t⟩, e => by subst e1; simp at e; subst e; exact ⟨_, rfl, h⟩
  | _ :: _, _, i + 1, _, ⟨v, ws, e1, h, t⟩, e => by
    subst e1
    obtain ⟨u, h1, h2⟩ := VRels.get' t (i := i) (by simpa using e)
    exact ⟨u, by simpa using h1, h2⟩
theorem VRels.set {x : LV} {v : V} (r : VRel K m x v) : ∀ {xs : List LV} {vs : List V} (i : Nat), VRels K m xs vs → VRels K m (xs.set i x) (vs.set i v)
  | [], _, _, h => by cases (show _ = [] from h); rfl
  | _ :: _, _, 0, ⟨w, ws, e1, h, t⟩ => by subst e1; exact .cons r t
  | _ :: _, _, i + 1, ⟨w, ws, e1, h, t⟩ => by subst e1; exact .cons h (VRels.set r i t)
theorem VRels.append : ∀ {xs ys : List LV} {vs ws : List V}, VRels K m xs vs → VRels K m ys ws → VRels K m (xs ++ ys) (vs ++ ws)
  | [], _, _, _, h, q => by cases (show _ = [] from h); exact q
  | _ :: _, _, _, _, ⟨w, ws, e1, h, t⟩, q => by subst e1; exact .cons h (VRels.append t q)
theorem VRels.take : ∀ {xs : List LV} {vs : List V} (n : Nat), VRels K m xs vs → VRels K m (xs.take n) (vs.take n)
  | [], _, _, h => by cases (show _ = [] from h); simp; rfl
  | _ :: _, _, 0, ⟨w, ws, e1, h, t⟩ => by subst e1; exact .nil
  | _ :: _, _, i + 1, ⟨w, ws, e1, h, t⟩ => by subst e1; exact .cons h (VRels.take i t)
theorem VRels.drop : ∀ {xs : List LV} {vs : List V} (n : Nat), VRels K m xs vs → VRels K m (xs.drop n) (vs.drop n)
  | [], _, _, h => by cases (show _ = [] from h); simp; rfl
  | _ :: _, _, 0, ⟨w, ws, e1, h, t⟩ => by subst e1; exact .cons h t
  | _ :: _, _, i + 1, ⟨w, ws, e1, h, t⟩ => by subst e1; exact VRels.drop i t
theorem VRels.eraseIdx : ∀ {xs : List LV} {vs : List V} (n : Nat), VRels K m xs vs → VRels K m (xs.eraseIdx n) (vs.eraseIdx n)
  | [], _, _, h => by cases (show _ = [] from h); rfl
  | _ :: _, _, 0, ⟨w, ws, e1, h, t⟩ => by subst e1; exact t
  | _ :: _, _, i + 1, ⟨w, ws, e1, h, t⟩ => by subst e1; exact .cons h (VRels.eraseIdx i t)
theorem VRels.reverse : ∀ {xs : List LV} {vs : List V}, VRels K m xs vs → VRels K m xs.reverse vs.reverse
  | [], _, h => by cases (show _ = [] from h); rfl
  | _ :: _, _, ⟨w, ws, e1, h, t⟩ => by subst e1; simp only [List.reverse_cons]; exact (VRels.reverse t).append (.cons h .nil)
theorem VRels.ints (ns : List Int) : VRels K m (ns.map LV.int) (ns.map V.int) := by
  induction ns with
  | nil => rfl
  | cons n r ih => exact .cons rfl ih
theorem VRels.ints_inv : ∀ {ns : List Int} {vs : List V}, VRels K m (ns.map LV.int) vs → vs = ns.map V.int
  | [], _, h => h
  | _ :: _, _, ⟨v, ws, e1, h, t⟩ => by subst e1; cases (show _ = V.int _ from h); simp [VRels.ints_inv t]
theorem VRels.rep {x : LV} {v : V} (h : VRel K m x v) : ∀ n : Nat, VRels K m (List.replicate n x) (List.replicate n v)
  | 0 => rfl
  | n + 1 => .cons h (VRels.rep h n)

/-- pairs with keys -/
def KVR {κ : Type} (K : PySem.W.Frag) (m : Lay) : List (κ × LV) → List (κ × V) → Prop
  | [], vs => vs = []
  | x :: xs, vs => ∃ v ws, vs = (x.1, v) :: ws ∧ VRel K m x.2 v ∧ KVR K m xs ws
def ORel (K : PySem.W.Frag) (m : Lay) : LO → HO → Prop
  | .lst xs, o => ∃ vs, o = .lst vs ∧ VRels K m xs vs
  | .dK xs, o => ∃ vs, o = .dK vs ∧ KVR K m xs vs
  | .dT xs, o => ∃ vs, o = .dT vs ∧ KVR K m xs vs
  | .ins C fs, o => ∃ dx vs, o = .ins C dx vs ∧ KVR K m fs vs
  | .fz u ob w, o => o = .frz ob w ∧ (∀ xs, w ≠ .lst xs) ∧ ORel K m u w
theorem KVR.mono {κ : Type} (e : Ext m m') : ∀ {xs : List (κ × LV)} {vs : List (κ × V)}, KVR K m xs vs → KVR K m' xs vs
  | [], _, h => h
  | _ :: _, _, ⟨v, ws, e1, h, t⟩ => ⟨v, ws, e1, h.mono e, KVR.mono e t⟩
theorem ORel.mono (e : Ext m m') : ∀ {o : LO} {u : HO}, ORel K m o u → ORel K m' o u
  | .lst _, _, ⟨vs, e1, h⟩ => ⟨vs, e1, h.mono e⟩
  | .dK _, _, ⟨vs, e1, h⟩ => ⟨vs, e1, h.mono e⟩
  | .dT _, _, ⟨vs, e1, h⟩ => ⟨vs, e1, h.mono e⟩
  | .ins _ _, _, ⟨dx, vs, e1, h⟩ => ⟨dx, vs, e1, h.mono e⟩
  | .fz _ _ _, _, ⟨e1, nl, h⟩ => ⟨e1, nl, ORel.mono e h⟩
/-- such an object is no tuple, no read-only list -/
theorem ORel.notup : ∀ {o : LO} {u : HO}, ORel K m o u → (∀ xs, u ≠ .tup xs) ∧ ∀ ob xs, u ≠ .frz ob (.lst xs)
  | .lst _, _, ⟨vs, e1, h⟩ => by subst e1; exact ⟨fun _ z => (by cases z), fun _ _ z => (by cases z)⟩
  | .dK _, _, ⟨vs, e1, h⟩ => by subst e1; exact ⟨fun _ z => (by cases z), fun _ _ z => (by cases z)⟩
  | .dT _, _, ⟨vs, e1, h⟩ => by subst e1; exact ⟨fun _ z => (by cases z), fun _ _ z => (by cases z)⟩
  | .ins _ _, _, ⟨dx, vs, e1, h⟩ => by subst e1; exact ⟨fun _ z => (by cases z), fun _ _ z => (by cases z)⟩
  | .fz _ _ _, _, ⟨e1, nl, h⟩ => by subst e1; exact ⟨fun _ z => (by cases z), fun _ xs z => (by cases z; exact nl _ rfl)⟩
end

structure R (K : PySem.W.Frag) (m : Lay) (h : LH) : Prop where
  obj : ∀ n v o, h n = some (v, o) → ∃ a u, m.l (n, v) = some a ∧ m.H a = some u ∧ ORel K m o u
  inj : ∀ p q a, m.l p = some a → m.l q = some a → p = q
  fin : ∀ n, ∃ B, ∀ v, B ≤ v → m.l (n, v) = none
  anon : ∃ B, ∀ k v, B ≤ k → m.l (.a k, v) = none
  known : ∀ p a, m.l p = some a → m.H a ≠ none
section
variable {K : PySem.W.Frag} {m m' : Lay} {h h' : LH}
theorem R.le (r : R K m h) (e : h'.le h) : R K m h' := ⟨fun n v o q => r.obj n v o (e n _ q), r.inj, r.fin, r.anon, r.known⟩
/-- the object at a name is written -/
theorem R.write (r : R K m h) {n : Nm} {v : Nat} {o o' : LO} {a : Addr} {u : HO} (hn : h n = some (v, o)) (ha : m.l (n, v) = some a) (ho : ORel K m o' u) :
    Ext m ⟨m.l, upd m.H a u⟩ ∧ R K ⟨m.l, upd m.H a u⟩ (h.set n v o') := by
  obtain ⟨a', u0, e1, e2, q⟩ := r.obj n v o hn
  rw [ha] at e1; cases e1
  have ex : Ext m ⟨m.l, upd m.H a u⟩ := ⟨fun _ _ e => e, fun b xs e => by
      show upd m.H a u b = _
      rw [upd_ne (fun z => by subst z; rw [e2] at e; cases e; exact q.notup.1 _ rfl)]; exact e,
    fun b ob xs e => by
      show upd m.H a u b = _
      rw [upd_ne (fun z => by subst z; rw [e2] at e; cases e; exact q.notup.2 _ _ rfl)]; exact e⟩
  refine ⟨ex, fun n' v' o1 q1 => ?_, r.inj, r.fin, r.anon, fun p b e => ?_⟩
  · by_cases hh : n' = n
    · subst hh
      rw [LH.set_same] at q1; cases q1
      exact ⟨a, u, ha, upd_same, ho.mono ex⟩
    · rw [LH.set_ne hh] at q1
      obtain ⟨b, u1, e3, e4, q2⟩ := r.obj n' v' o1 q1
      refine ⟨b, u1, e3, ?_, q2.mono ex⟩
      show upd m.H a u b = _
      rw [upd_ne (fun z => hh (by subst z; exact congrArg Prod.fst (r.inj _ _ _ e3 ha)))]; exact e4
  · show upd m.H a u b ≠ none
    by_cases hb : b = a
    · rw [hb, upd_same]; intro z; cases z
    · rw [upd_ne hb]; exact r.known p b e
/-- the abstract heap alone has grown -/
theorem R.grown (r : R K m h) {H' : Hp} (ex : ∀ a u, m.H a = some u → H' a = some u) : Ext m ⟨m.l, H'⟩ ∧ R K ⟨m.l, H'⟩ h := by
  have e : Ext m ⟨m.l, H'⟩ := ⟨fun _ _ e => e, fun _ _ e => ex _ _ e, fun _ _ _ e => ex _ _ e⟩
  refine ⟨e, fun n v o q => ?_, r.inj, r.fin, r.anon, fun p a q => ?_⟩
  · obtain ⟨a, u, e1, e2, q2⟩ := r.obj n v o q
    exact ⟨a, u, e1, ex _ _ e2, q2.mono e⟩
  · show H' a ≠ none
    cases z : m.H a with
    | none => exact absurd z (r.known p a q)
    | some u => rw [ex _ _ z]; intro y; cases y
theorem ex_upd {H : Hp} {p : Addr} {o : HO} (hp : H p = none) : ∀ a u, H a = some u → upd H p o a = some u := fun a u e => by
  rw [upd_ne (ne_of_none e hp)]; exact e
/-- a new object is named -/
theorem R.name (r : R K m h) {n : Nm} {o : LO} {p : Addr} {u : HO} (hn : h n = none) (hp : m.H p = some u) (hf : ∀ q, m.l q ≠ some p) (ho : ORel K m o u) :
    ∃ v, Ext m ⟨fun q => if q = (n, v) then some p else m.l q, m.H⟩ ∧ R K ⟨fun q => if q = (n, v) then some p else m.l q, m.H⟩ (h.set n v o) := by
  obtain ⟨B, hB⟩ := r.fin n
  have hl : m.l (n, B) = none := hB B (Nat.le_refl _)
  have ex : Ext m ⟨fun q => if q = (n, B) then some p else m.l q, m.H⟩ := ⟨fun q a e => by
    show (if q = (n, B) then some p else m.l q) = some a
    rw [if_neg (fun z => by subst z; rw [hl] at e; cases e)]; exact e, fun _ _ e => e, fun _ _ _ e => e⟩
  refine ⟨B, ex, fun n' v' o1 q1 => ?_, fun x y a e1 e2 => ?_, fun n' => ?_, ?_, fun q a e => ?_⟩
  · by_cases hh : n' = n
    · subst hh
      rw [LH.set_same] at q1; cases q1
      exact ⟨p, u, by show (if _ then _ else _) = _; rw [if_pos rfl], hp, ho.mono ex⟩
    · rw [LH.set_ne hh] at q1
      obtain ⟨b, u1, e3, e4, q2⟩ := r.obj n' v' o1 q1
      exact ⟨b, u1, ex.l _ _ e3, e4, q2.mono ex⟩
  · have e1 : (if x = (n, B) then some p else m.l x) = some a := e1
    have e2 : (if y = (n, B) then some p else m.l y) = some a := e2
    by_cases h1 : x = (n, B) <;> by_cases h2 : y = (n, B)
    · rw [h1, h2]
    · rw [if_pos h1] at e1; rw [if_neg h2] at e2; cases e1; exact absurd e2 (hf y)
    · rw [if_neg h1] at e1; rw [if_pos h2] at e2; cases e2; exact absurd e1 (hf x)
    · rw [if_neg h1] at e1; rw [if_neg h2] at e2; exact r.inj x y a e1 e2
  · obtain ⟨B', hB'⟩ := r.fin n'
    refine ⟨max B' (B + 1), fun v hv => ?_⟩
    show (if (n', v) = (n, B) then some p else m.l (n', v)) = none
    rw [if_neg (fun z => by cases z; omega)]
    exact hB' v (by omega)
  · obtain ⟨B', hB'⟩ := r.anon
    refine ⟨(match n with | .a k => max B' (k + 1) | _ => B'), fun k v hk => ?_⟩
    show (if (Nm.a k, v) = (n, B) then some p else m.l (Nm.a k, v)) = none
    rw [if_neg (fun z => by cases z; simp only at hk; omega)]
    refine hB' k v (Nat.le_trans ?_ hk)
    split <;> omega
  · have e : (if q = (n, B) then some p else m.l q) = some a := e
    show m.H a ≠ none
    by_cases h1 : q = (n, B)
    · rw [if_pos h1] at e; cases e; rw [hp]; intro z; cases z
    · rw [if_neg h1] at e; exact r.known q a e
theorem R.free (r : R K m h) {p : Addr} (hp : m.H p = none) : ∀ q, m.l q ≠ some p := fun q e => r.known q p e hp
/-- a new object is laid at p and named -/
theorem R.new (r : R K m h) {n : Nm} {o : LO} {p : Addr} {u : HO} (hn : h n = none) (hp : m.H p = none) (ho : ∀ m', Ext m m' → ORel K m' o u) :
    ∃ m' v, m'.H = upd m.H p u ∧ Ext m m' ∧ R K m' (h.set n v o) ∧ m'.l (n, v) = some p := by
  obtain ⟨e1, r1⟩ := r.grown (ex_upd (o := u) hp)
  obtain ⟨v, e2, r2⟩ := r1.name (n := n) (o := o) (p := p) (u := u) hn upd_same (r.free hp) (ho _ e1)
  exact ⟨_, v, rfl, e1.trans e2, r2, by show (if _ then _ else _) = _; rw [if_pos rfl]⟩
/-- there is a name that is not in use -/
theorem R.fresh (r : R K m h) : ∃ k, h (.a k) = none := by
  obtain ⟨B, hB⟩ := r.anon
  refine ⟨B, ?_⟩
  cases e : h (.a B) with
  | none => rfl
  | some p =>
    obtain ⟨a, u, e1, _⟩ := r.obj (.a B) p.1 p.2 e
    rw [hB B p.1 (Nat.le_refl _)] at e1; cases e1
end
end LL

namespace LL
open PySem L2

/-! ### slots -/
abbrev LSt := List (Option LV)
def SRel (K : PySem.W.Frag) (m : Lay) : LSt → St → Prop
  | [], vs => vs = []
  | none :: xs, vs => ∃ v ws, vs = v :: ws ∧ SRel K m xs ws
  | some x :: xs, vs => ∃ v ws, vs = some v :: ws ∧ VRel K m x v ∧ SRel K m xs ws
section
variable {K : PySem.W.Frag} {m m' : Lay}
theorem SRel.mono (e : Ext m m') : ∀ {s : LSt} {σ : St}, SRel K m s σ → SRel K m' s σ
  | [], _, h => h
  | none :: _, _, ⟨v, ws, e1, t⟩ => ⟨v, ws, e1, SRel.mono e t⟩
  | some _ :: _, _, ⟨v, ws, e1, h, t⟩ => ⟨v, ws, e1, h.mono e, SRel.mono e t⟩
theorem SRel.get : ∀ {s : LSt} {σ : St} {i : Nat} {x : LV}, SRel K m s σ → s[i]? = some (some x) → ∃ v, σ[i]? = some (some v) ∧ VRel K m x v
  | [], _, _, _, _, e => by simp at e
  | none :: _, _, 0, _, _, e => by simp at e
  | some _ :: _, _, 0, _, ⟨v, ws, e1, h, t⟩, e => by subst e1; simp at e; subst e; exact ⟨v, rfl, h⟩
  | none :: _, _, i + 1, _, ⟨v, ws, e1, t⟩, e => by
    subst e1; obtain ⟨u, h1, h2⟩ := SRel.get t (i := i) (by simpa using e); exact ⟨u, by simpa using h1, h2⟩
  | some _ :: _, _, i + 1, _, ⟨v, ws, e1, h, t⟩, e => by
    subst e1; obtain ⟨u, h1, h2⟩ := SRel.get t (i := i) (by simpa using e); exact ⟨u, by simpa using h1, h2⟩
theorem SRel.set {x : LV} {v : V} (r : VRel K m x v) : ∀ {s : LSt} {σ : St} (i : Nat), SRel K m s σ → SRel K m (s.set i (some x)) (σ.set i (some v))
  | [], _, _, h => by cases (show _ = [] from h); rfl
  | none :: _, _, 0, ⟨v, ws, e1, t⟩ => by subst e1; exact ⟨_, _, rfl, r, t⟩
  | some _ :: _, _, 0, ⟨v, ws, e1, h, t⟩ => by subst e1; exact ⟨_, _, rfl, r, t⟩
  | none :: _, _, i + 1, ⟨v, ws, e1, t⟩ => by subst e1; exact ⟨_, _, rfl, SRel.set r i t⟩
  | some _ :: _, _, i + 1, ⟨v, ws, e1, h, t⟩ => by subst e1; exact ⟨_, _, rfl, h, SRel.set r i t⟩
theorem SRel.forget : ∀ {s : LSt} {σ : St} (i : Nat) (v : Option V), SRel K m s σ → SRel K m (s.set i none) (σ.set i v)
  | [], _, _, _, h => by cases (show _ = [] from h); rfl
  | none :: _, _, 0, _, ⟨v, ws, e1, t⟩ => by subst e1; exact ⟨_, _, rfl, t⟩
  | some _ :: _, _, 0, _, ⟨v, ws, e1, h, t⟩ => by subst e1; exact ⟨_, _, rfl, t⟩
  | none :: _, _, i + 1, u, ⟨v, ws, e1, t⟩ => by subst e1; exact ⟨_, _, rfl, SRel.forget i u t⟩
  | some _ :: _, _, i + 1, u, ⟨v, ws, e1, h, t⟩ => by subst e1; exact ⟨_, _, rfl, h, SRel.forget i u t⟩
theorem SRel.start : ∀ {xs : List LV} {vs : List V} (n : Nat), VRels K m xs vs → SRel K m (xs.map some ++ List.replicate n none) (vs.map some ++ List.replicate n none)
  | [], _, n, h => by
    cases (show _ = [] from h)
    show SRel K m (List.replicate n none) (List.replicate n none)
    induction n with
    | zero => rfl
    | succ n ih => exact ⟨none, _, rfl, ih⟩
  | _ :: _, _, n, ⟨v, ws, e1, h, t⟩ => by subst e1; exact ⟨_, _, rfl, h, SRel.start n t⟩
theorem SRel.length : ∀ {s : LSt} {σ : St}, SRel K m s σ → σ.length = s.length
  | [], _, h => by cases (show _ = [] from h); rfl
  | none :: _, _, ⟨v, ws, e1, t⟩ => by subst e1; simp [SRel.length t]
  | some _ :: _, _, ⟨v, ws, e1, h, t⟩ => by subst e1; simp [SRel.length t]
/-- slots forgotten -/
def LSt.le (s' s : LSt) : Prop := s'.length = s.length ∧ ∀ (i : Nat) x, s'[i]? = some (some x) → s[i]? = some (some x)
theorem SRel.of : ∀ {s : LSt} {σ : St}, s.length = σ.length → (∀ (i : Nat) x, s[i]? = some (some x) → ∃ v, σ[i]? = some (some v) ∧ VRel K m x v) → SRel K m s σ
  | [], σ, hl, _ => by cases σ with
    | nil => rfl
    | cons => simp at hl
  | none :: xs, σ, hl, h => by
    cases σ with
    | nil => simp at hl
    | cons v ws => exact ⟨v, ws, rfl, SRel.of (by simpa using hl) fun i x e => by simpa using h (i + 1) x (by simpa using e)⟩
  | some y :: xs, σ, hl, h => by
    cases σ with
    | nil => simp at hl
    | cons v ws =>
      obtain ⟨u, e1, e2⟩ := h 0 y rfl
      have e1 : v = some u := by simpa using e1
      subst e1
      exact ⟨u, ws, rfl, e2, SRel.of (by simpa using hl) fun i x e => by simpa using h (i + 1) x (by simpa using e)⟩
theorem SRel.le {s s' : LSt} {σ : St} (h : SRel K m s σ) (e : s'.le s) : SRel K m s' σ :=
  SRel.of (by rw [h.length]; exact e.1) fun i x q => h.get (e.2 i x q)
end

/-! ### the lifted judgements -/
abbrev LQ := LV → LH → Prop
abbrev LX := Addr → LH → Prop
abbrev LTE := LSt → LH → LQ → LX → Prop
abbrev LTT := LSt → LH → (Bool → LH → Prop) → LX → Prop
abbrev LTA := LSt → LH → (List LV → LH → Prop) → LX → Prop
section
variable (K : PySem.W.Frag) (m : Lay)
def CQ (QL : LQ) (Q : VK) : Prop := ∀ m' h' x v, Ext m m' → R K m' h' → VRel K m' x v → QL x h' → Q v m'.H
def CB (QL : Bool → LH → Prop) (Q : Bool → Hp → Prop) : Prop := ∀ m' h' b, Ext m m' → R K m' h' → QL b h' → Q b m'.H
def CA (n : Nat) (QL : List LV → LH → Prop) (Q : List V → Hp → Prop) : Prop := ∀ m' h' xs vs, Ext m m' → R K m' h' → VRels K m' xs vs → xs.length = n → QL xs h' → Q vs m'.H
def CE (XL : LX) (E : XK) : Prop := ∀ m' h' c, Ext m m' → R K m' h' → XL c h' → E (.ref c) none m'.H
end
abbrev WE (W : WX) (σ : St) : XK := fun c d H => W c d σ H
section
variable (K : PySem.W.Frag) (W : WX)
def upE (t : LTE) : TE := fun σ H Q => ∃ m h s QL XL, m.H = H ∧ R K m h ∧ SRel K m s σ ∧ t s h QL XL ∧ CQ K m QL Q ∧ CE K m XL (WE W σ)
def upT (t : LTT) : TT := fun σ H Q => ∃ m h s QL XL, m.H = H ∧ R K m h ∧ SRel K m s σ ∧ t s h QL XL ∧ CB K m QL Q ∧ CE K m XL (WE W σ)
def upA (n : Nat) (t : LTA) : TA := fun σ H Q => ∃ m h s QL XL, m.H = H ∧ R K m h ∧ SRel K m s σ ∧ t s h QL XL ∧ CA K m n QL Q ∧ CE K m XL (WE W σ)
end
section
variable {K : PySem.W.Frag} {m m' : Lay} {W : WX}
theorem CQ.mono {QL : LQ} {Q : VK} (c : CQ K m QL Q) (e : Ext m m') : CQ K m' QL Q := fun m2 h2 x v e2 => c m2 h2 x v (e.trans e2)
theorem CB.mono {QL : Bool → LH → Prop} {Q : Bool → Hp → Prop} (c : CB K m QL Q) (e : Ext m m') : CB K m' QL Q := fun m2 h2 b e2 => c m2 h2 b (e.trans e2)
theorem CA.mono {n : Nat} {QL : List LV → LH → Prop} {Q : List V → Hp → Prop} (c : CA K m n QL Q) (e : Ext m m') : CA K m' n QL Q := fun m2 h2 x v e2 => c m2 h2 x v (e.trans e2)
theorem CE.mono {XL : LX} {E : XK} (c : CE K m XL E) (e : Ext m m') : CE K m' XL E := fun m2 h2 x e2 => c m2 h2 x (e.trans e2)
end
theorem _root_.L2.PE.weak {X : Cx} {e : Expr} {t t' : TE} (h : PE X e t) (i : ∀ σ H Q, t' σ H Q → t σ H Q) : PE X e t' := ⟨fun pins s σ H Q I q => h.run pins s σ H Q I (i _ _ _ q)⟩
theorem _root_.L2.PT.weak {X : Cx} {e : Expr} {t t' : TT} (h : PT X e t) (i : ∀ σ H Q, t' σ H Q → t σ H Q) : PT X e t' := ⟨fun pins s σ H Q I q => h.run pins s σ H Q I (i _ _ _ q)⟩
theorem _root_.L2.PW.weak {X : Cx} {e : Expr} {t t' : TT} (h : PW X e t) (i : ∀ σ H Q, t' σ H Q → t σ H Q) : PW X e t' := ⟨fun w pins s σ H Q I q => h.run w pins s σ H Q I (i _ _ _ q)⟩
theorem _root_.L2.PA.weak {X : Cx} {es : List Expr} {t t' : TA} (h : PA X es t) (i : ∀ σ H Q, t' σ H Q → t σ H Q) : PA X es t' := ⟨fun p pins s σ H Q I q => h.run p pins s σ H Q I (i _ _ _ q)⟩
theorem _root_.L2.PS.weak {X : Cx} {e : Stmt} {t t' : TS} (h : PS X e t) (i : ∀ D σ H, t' D σ H → t D σ H) : PS X e t' := ⟨fun pins s σ H D I q => h.run pins s σ H D I (i _ _ _ q)⟩
theorem _root_.L2.PSs.weak {X : Cx} {e : List Stmt} {t t' : TS} (h : PSs X e t) (i : ∀ D σ H, t' D σ H → t D σ H) : PSs X e t' := ⟨fun pins s σ H D I q => h.run pins s σ H D I (i _ _ _ q)⟩
theorem _root_.L2.PE.or {X : Cx} {e : Expr} {t t' : TE} (h : PE X e t) (h' : PE X e t') : PE X e (fun σ H Q => t σ H Q ∨ t' σ H Q) :=
  ⟨fun pins s σ H Q I q => q.elim (h.run pins s σ H Q I) (h'.run pins s σ H Q I)⟩
theorem _root_.L2.PT.or {X : Cx} {e : Expr} {t t' : TT} (h : PT X e t) (h' : PT X e t') : PT X e (fun σ H Q => t σ H Q ∨ t' σ H Q) :=
  ⟨fun pins s σ H Q I q => q.elim (h.run pins s σ H Q I) (h'.run pins s σ H Q I)⟩
theorem _root_.L2.PS.or {X : Cx} {e : Stmt} {t t' : TS} (h : PS X e t) (h' : PS X e t') : PS X e (fun D σ H => t D σ H ∨ t' D σ H) :=
  ⟨fun pins s σ H D I q => q.elim (h.run pins s σ H D I) (h'.run pins s σ H D I)⟩

/-! ### by values -/
abbrev LR2 := LV → LV → LH → LQ → Prop
abbrev LR1 := LV → LH → LQ → Prop
abbrev LRA := List LV → LH → LQ → Prop
abbrev LRM := LV → List LV → LH → LQ → Prop
def upR2 (K : PySem.W.Frag) (r : LR2) : R2 := fun x y H Q => ∃ m h a b QL, m.H = H ∧ R K m h ∧ VRel K m a x ∧ VRel K m b y ∧ r a b h QL ∧ CQ K m QL Q
def upR1 (K : PySem.W.Frag) (r : LR1) : V → Hp → VK → Prop := fun x H Q => ∃ m h a QL, m.H = H ∧ R K m h ∧ VRel K m a x ∧ r a h QL ∧ CQ K m QL Q
def upRA (K : PySem.W.Frag) (r : LRA) : List V → Hp → VK → Prop := fun xs H Q => ∃ m h as QL, m.H = H ∧ R K m h ∧ VRels K m as xs ∧ r as h QL ∧ CQ K m QL Q
def upRM (K : PySem.W.Frag) (r : LRM) : V → List V → Hp → VK → Prop := fun x xs H Q => ∃ m h a as QL, m.H = H ∧ R K m h ∧ VRel K m a x ∧ VRels K m as xs ∧ r a as h QL ∧ CQ K m QL Q
theorem OpR.weak {X : Cx} {f : Value → Value → Sem Value} {r r' : R2} (h : OpR X f r) (i : ∀ x y H Q, r' x y H Q → r x y H Q) : OpR X f r' :=
  fun pins s σ H x y u v Q I r1 r2 q => h pins s σ H x y u v Q I r1 r2 (i _ _ _ _ q)
theorem UnR.weak {X : Cx} {f : Value → Sem Value} {r r' : V → Hp → VK → Prop} (h : UnR X f r) (i : ∀ x H Q, r' x H Q → r x H Q) : UnR X f r' :=
  fun pins s σ H x u Q I r1 q => h pins s σ H x u Q I r1 (i _ _ _ q)
theorem CallR.weak {X : Cx} {f : Value} {r r' : List V → Hp → VK → Prop} (h : CallR X f r) (i : ∀ x H Q, r' x H Q → r x H Q) : CallR X f r' :=
  fun pins s σ H x u Q I r1 q => h pins s σ H x u Q I r1 (i _ _ _ q)
theorem IxR.weak {X : Cx} {r r' : R2} (h : IxR X r) (i : ∀ x y H Q, r' x y H Q → r x y H Q) : IxR X r' :=
  fun e1 e2 pins s σ H x y u v Q I r1 r2 q => h e1 e2 pins s σ H x y u v Q I r1 r2 (i _ _ _ _ q)
theorem MtR.weak {X : Cx} {id : String} {r r' : V → List V → Hp → VK → Prop} (h : MtR X id r) (i : ∀ x xs H Q, r' x xs H Q → r x xs H Q) : MtR X id r' :=
  fun pins s σ H x xs u us Q I r1 r2 q => h pins s σ H x xs u us Q I r1 r2 (i _ _ _ _ q)
end LL

namespace LL
open PySem L2

/-! ### a new object: at a name of one's own, or at any -/
def Alloc (h : LH) (o : LO) (Q : LQ) : Prop := (∃ n, h n = none ∧ ∀ v, Q (.loc n v) (h.set n v o)) ∨ ∀ k, h (.a k) = none → ∀ v, Q (.loc (.a k) v) (h.set (.a k) v o)
theorem alloc_at {h : LH} {o : LO} {Q : LQ} (n : Nm) (e : h n = none) (q : ∀ v, Q (.loc n v) (h.set n v o)) : Alloc h o Q := .inl ⟨n, e, q⟩
theorem alloc_any {h : LH} {o : LO} {Q : LQ} (q : ∀ k, h (.a k) = none → ∀ v, Q (.loc (.a k) v) (h.set (.a k) v o)) : Alloc h o Q := .inr q
section
variable {K : PySem.W.Frag} {m : Lay} {h : LH}
theorem Alloc.up {o : LO} {p : Addr} {u : HO} {QL : LQ} {Q : VK} (A : Alloc h o QL) (r : R K m h) (c : CQ K m QL Q) (hp : m.H p = none) (ho : ∀ m', Ext m m' → ORel K m' o u) : Q (.ref p) (upd m.H p u) := by
  rcases A with ⟨n, hn, q⟩ | q
  · obtain ⟨m', v, e1, ex, r', el⟩ := r.new (n := n) hn hp ho
    rw [← e1]
    exact c m' _ (.loc n v) _ ex r' ⟨p, rfl, el⟩ (q v)
  · obtain ⟨k, hk⟩ := r.fresh
    obtain ⟨m', v, e1, ex, r', el⟩ := r.new (n := .a k) hk hp ho
    rw [← e1]
    exact c m' _ (.loc (.a k) v) _ ex r' ⟨p, rfl, el⟩ (q k hk v)
/-- what a name stands for -/
theorem R.lst (r : R K m h) {n : Nm} {v : Nat} {xs : List LV} {a : Addr} (hn : h n = some (v, .lst xs)) (ha : m.l (n, v) = some a) : ∃ vs, m.H a = some (.lst vs) ∧ VRels K m xs vs := by
  obtain ⟨a', u, e1, e2, vs, rfl, q⟩ := r.obj n v _ hn
  rw [ha] at e1; cases e1
  exact ⟨vs, e2, q⟩
theorem R.ins (r : R K m h) {n : Nm} {v : Nat} {C : Addr} {fs : List (Str × LV)} {a : Addr} (hn : h n = some (v, .ins C fs)) (ha : m.l (n, v) = some a) : ∃ dx vs, m.H a = some (.ins C dx vs) ∧ KVR K m fs vs := by
  obtain ⟨a', u, e1, e2, dx, vs, rfl, q⟩ := r.obj n v _ hn
  rw [ha] at e1; cases e1
  exact ⟨dx, vs, e2, q⟩
theorem R.dK (r : R K m h) {n : Nm} {v : Nat} {xs : List (Key × LV)} {a : Addr} (hn : h n = some (v, .dK xs)) (ha : m.l (n, v) = some a) : ∃ vs, m.H a = some (.dK vs) ∧ KVR K m xs vs := by
  obtain ⟨a', u, e1, e2, vs, rfl, q⟩ := r.obj n v _ hn
  rw [ha] at e1; cases e1
  exact ⟨vs, e2, q⟩
theorem R.dT (r : R K m h) {n : Nm} {v : Nat} {xs : List (List Key × LV)} {a : Addr} (hn : h n = some (v, .dT xs)) (ha : m.l (n, v) = some a) : ∃ vs, m.H a = some (.dT vs) ∧ KVR K m xs vs := by
  obtain ⟨a', u, e1, e2, vs, rfl, q⟩ := r.obj n v _ hn
  rw [ha] at e1; cases e1
  exact ⟨vs, e2, q⟩
/-- a list that may be read: an object, or the script -/
def LsAt (h : LH) : LV → List LV → Prop
  | .loc n v, xs => h n = some (v, .lst xs)
  | .rol ns, xs => xs = ns.map LV.int
  | _, _ => False
theorem LsAt.sq (r : R K m h) : ∀ {x : LV} {v : V} {xs : List LV}, LsAt h x xs → VRel K m x v → ∃ a vs, v = .ref a ∧ SqL K m.H a vs ∧ VRels K m xs vs
  | .loc n k, v, xs, hx, ⟨a, e1, e2⟩ => by
    obtain ⟨vs, e3, q⟩ := r.lst hx e2
    exact ⟨a, vs, e1, .of e3, q⟩
  | .rol ns, v, xs, hx, ⟨a, e1, e2⟩ => by
    cases (show xs = _ from hx)
    exact ⟨a, _, e1, e2.sq, .ints ns⟩
  | .non, _, _, hx, _ => hx.elim
  | .bl _, _, _, hx, _ => hx.elim
  | .int _, _, _, hx, _ => hx.elim
  | .str _, _, _, hx, _ => hx.elim
  | .tup _, _, _, hx, _ => hx.elim
  | .ref _, _, _, hx, _ => hx.elim
  | .ty _, _, _, hx, _ => hx.elim
end

theorem CQ.int {K : PySem.W.Frag} {m : Lay} {h : LH} {QL : LQ} {Q : VK} {i : Int} (c : CQ K m QL Q) (r : R K m h) (q : QL (.int i) h) : Q (.int i) m.H := c m h (.int i) _ (Ext.refl m) r rfl q
theorem CQ.bl {K : PySem.W.Frag} {m : Lay} {h : LH} {QL : LQ} {Q : VK} {i : Bool} (c : CQ K m QL Q) (r : R K m h) (q : QL (.bl i) h) : Q (.bl i) m.H := c m h (.bl i) _ (Ext.refl m) r rfl q
theorem CQ.non {K : PySem.W.Frag} {m : Lay} {h : LH} {QL : LQ} {Q : VK} (c : CQ K m QL Q) (r : R K m h) (q : QL .non h) : Q .non m.H := c m h .non _ (Ext.refl m) r rfl q
theorem CQ.val {K : PySem.W.Frag} {m : Lay} {h : LH} {QL : LQ} {Q : VK} {x : LV} {v : V} (c : CQ K m QL Q) (r : R K m h) (rv : VRel K m x v) (q : QL x h) : Q v m.H := c m h x _ (Ext.refl m) r rv q
/-! ### operators -/
def lAdd : LR2
  | .int i, .int j, h, Q => Q (.int (i + j)) h
  | .loc n v, .loc n' v', h, Q => ∃ xs ys, h n = some (v, .lst xs) ∧ h n' = some (v', .lst ys) ∧ xs.length + ys.length ≤ sizeLine ∧ Alloc h (.lst (xs ++ ys)) Q
  | _, _, _, _ => False
def lSub : LR2
  | .int i, .int j, h, Q => Q (.int (i - j)) h
  | _, _, _, _ => False
def lMul : LR2
  | .int i, .int j, h, Q => CMul i j ∧ Q (.int (i * j)) h
  | .loc n v, .int k, h, Q => ∃ xs, h n = some (v, .lst xs) ∧ -(2 ^ 63) ≤ k ∧ k < 2 ^ 63 ∧ xs.length * k.toNat ≤ sizeLine ∧ Alloc h (.lst (List.replicate k.toNat xs).flatten) Q
  | _, _, _, _ => False
def lFDiv : LR2
  | .int i, .int j, h, Q => CDivW i j ∧ Q (.int (i / j)) h
  | _, _, _, _ => False
def lMod : LR2
  | .int i, .int j, h, Q => 0 < j ∧ Q (.int (i % j)) h
  | _, _, _, _ => False
def lPow : LR2
  | .int i, .int j, h, Q => CPow i j ∧ Q (.int (i ^ j.toNat)) h
  | _, _, _, _ => False
def lCmp (p : Int → Int → Bool) : LR2
  | .int i, .int j, h, Q => Q (.bl (p i j)) h
  | _, _, _, _ => False
def lNeg : LR1
  | .int i, h, Q => Q (.int (-i)) h
  | _, _, _ => False
section
variable {X : Cx}
/-- from a rule on two ints -/
theorem upI {r : R2} {x y : V} {H : Hp} {Q : VK} {K : PySem.W.Frag} {l : LR2} (h : upR2 K l x y H Q) (g : ∀ m h a b QL, m.H = H → R K m h → VRel K m a x → VRel K m b y → l a b h QL → CQ K m QL Q → r x y H Q) : r x y H Q := by
  obtain ⟨m, h, a, b, QL, e1, r1, ra, rb, q, c⟩ := h
  exact g m h a b QL e1 r1 ra rb q c
theorem lo_add : OpR X (binaryOp .Add) (upR2 X.K lAdd) := OpR.weak (op_add.or op_cat) fun x y H Q hq => by
  refine upI (r := fun x y H Q => _) hq fun m h a b QL e1 r ra rb q c => ?_
  subst e1
  cases a <;> cases b <;> try exact q.elim
  · cases (show x = _ from ra); cases (show y = _ from rb)
    exact .inl ⟨_, _, rfl, rfl, c.int r q⟩
  · obtain ⟨a1, e2, e3⟩ := ra
    obtain ⟨b1, e4, e5⟩ := rb
    obtain ⟨xs, ys, h1, h2, hl, A⟩ := q
    subst e2 e4
    obtain ⟨vs, g1, q1⟩ := r.lst h1 e3
    obtain ⟨ws, g2, q2⟩ := r.lst h2 e5
    refine .inr ⟨a1, b1, vs, ws, rfl, rfl, g1, g2, by rw [q1.length, q2.length]; exact hl, fun p hp => A.up r c hp fun m' ex => ⟨_, rfl, (q1.mono ex).append (q2.mono ex)⟩⟩
theorem li_sub : OpR X (binaryOp .Sub) (upR2 X.K lSub) := OpR.weak op_sub fun x y H Q hq => by
  refine upI (r := fun x y H Q => _) hq fun m h a b QL e1 r ra rb q c => ?_
  subst e1
  cases a <;> cases b <;> try exact q.elim
  cases (show x = _ from ra); cases (show y = _ from rb)
  exact ⟨_, _, rfl, rfl, c.int r q⟩
theorem li_fdiv : OpR X (binaryOp .FloorDiv) (upR2 X.K lFDiv) := OpR.weak op_fdivW fun x y H Q hq => by
  refine upI (r := fun x y H Q => _) hq fun m h a b QL e1 r ra rb q c => ?_
  subst e1
  cases a <;> cases b <;> try exact q.elim
  cases (show x = _ from ra); cases (show y = _ from rb)
  exact ⟨_, _, rfl, rfl, q.1, c.int r q.2⟩
theorem li_mod : OpR X (binaryOp .Mod) (upR2 X.K lMod) := OpR.weak op_mod fun x y H Q hq => by
  refine upI (r := fun x y H Q => _) hq fun m h a b QL e1 r ra rb q c => ?_
  subst e1
  cases a <;> cases b <;> try exact q.elim
  cases (show x = _ from ra); cases (show y = _ from rb)
  exact ⟨_, _, rfl, rfl, q.1, c.int r q.2⟩
theorem li_pow : OpR X (binaryOp .Pow) (upR2 X.K lPow) := OpR.weak op_pow fun x y H Q hq => by
  refine upI (r := fun x y H Q => _) hq fun m h a b QL e1 r ra rb q c => ?_
  subst e1
  cases a <;> cases b <;> try exact q.elim
  cases (show x = _ from ra); cases (show y = _ from rb)
  exact ⟨_, _, rfl, rfl, q.1, c.int r q.2⟩
theorem flatten_rep {K : PySem.W.Frag} {m : Lay} {xs : List LV} {vs : List V} (h : VRels K m xs vs) : ∀ k : Nat, VRels K m (List.replicate k xs).flatten (List.replicate k vs).flatten
  | 0 => .nil
  | k + 1 => by simp only [List.replicate_succ, List.flatten_cons]; exact h.append (flatten_rep h k)
theorem li_mul : OpR X (binaryOp .Mult) (upR2 X.K lMul) := OpR.weak (op_mul.or op_rep) fun x y H Q hq => by
  refine upI (r := fun x y H Q => _) hq fun m h a b QL e1 r ra rb q c => ?_
  subst e1
  cases a <;> cases b <;> try exact q.elim
  · cases (show x = _ from ra); cases (show y = _ from rb)
    exact .inl ⟨_, _, rfl, rfl, q.1, c.int r q.2⟩
  · obtain ⟨a1, e2, e3⟩ := ra
    cases (show y = _ from rb)
    obtain ⟨xs, h1, h2, h3, hl, A⟩ := q
    subst e2
    obtain ⟨vs, g1, q1⟩ := r.lst h1 e3
    refine .inr ⟨a1, _, vs, rfl, rfl, g1, h2, h3, by rw [q1.length]; exact hl, fun p hp => A.up r c hp fun m' ex => ⟨_, rfl, flatten_rep (q1.mono ex) _⟩⟩
theorem li_cmp {op : CmpOp} {p : Int → Int → Bool} (ho : OpR X (compareOp op) (rI0 fun i j => .bl (p i j))) : OpR X (compareOp op) (upR2 X.K (lCmp p)) := OpR.weak ho fun x y H Q hq => by
  refine upI (r := fun x y H Q => _) hq fun m h a b QL e1 r ra rb q c => ?_
  subst e1
  cases a <;> cases b <;> try exact q.elim
  cases (show x = _ from ra); cases (show y = _ from rb)
  exact ⟨_, _, rfl, rfl, c.bl r q⟩
theorem li_neg : UnR X (unaryOp .USub) (upR1 X.K lNeg) := UnR.weak un_neg fun x H Q hq => by
  obtain ⟨m, h, a, QL, e1, r, ra, q, c⟩ := hq
  subst e1
  cases a <;> try exact q.elim
  cases (show x = _ from ra)
  exact ⟨_, rfl, c.int r q⟩
end

/-! ### is None -/
def LV.isNon : LV → Bool
  | .non => true
  | _ => false
def lIsN : LR2
  | a, .non, h, Q => Q (.bl a.isNon) h
  | _, _, _, _ => False
def lNotN : LR2
  | a, .non, h, Q => Q (.bl (!a.isNon)) h
  | _, _, _, _ => False
theorem VRel.non_iff {K : PySem.W.Frag} {m : Lay} {a : LV} {x : V} (r : VRel K m a x) : decide (x = V.non) = a.isNon := by
  cases a
  · cases (show x = _ from r); rfl
  · cases (show x = _ from r); rfl
  · cases (show x = _ from r); rfl
  · cases (show x = _ from r); rfl
  · obtain ⟨p, vs, e, _⟩ := r; subst e; rfl
  · obtain ⟨p, e, _⟩ := r; subst e; rfl
  · obtain ⟨p, e, _⟩ := r; subst e; rfl
  · cases (show x = _ from r); rfl
  · cases (show x = _ from r); rfl
section
variable {X : Cx}
theorem li_isN : OpR X (compareOp .Is) (upR2 X.K lIsN) := OpR.weak op_isN fun x y H Q hq => by
  refine upI (r := fun x y H Q => _) hq fun m h a b QL e1 r ra rb q c => ?_
  subst e1
  cases b <;> try exact q.elim
  cases (show y = _ from rb)
  refine ⟨rfl, ?_⟩
  rw [ra.non_iff]
  exact c.bl r q
theorem li_notN : OpR X (compareOp .IsNot) (upR2 X.K lNotN) := OpR.weak op_notN fun x y H Q hq => by
  refine upI (r := fun x y H Q => _) hq fun m h a b QL e1 r ra rb q c => ?_
  subst e1
  cases b <;> try exact q.elim
  cases (show y = _ from rb)
  refine ⟨rfl, ?_⟩
  rw [ra.non_iff]
  exact c.bl r q
end

/-! ### == of data: None, bools, ints, texts, tuples, lists -/
mutual
/-- the data of a value; a list is looked up -/
def dat (h : LH) : Nat → LV → Option PyData
  | _, .non => some .none
  | _, .bl b => some (.bool b)
  | _, .int i => some (.int i)
  | _, .str x => some (.str x)
  | d, .tup xs => (dats h d xs).map .tuple
  | _, .rol ns => some (.list (ns.map .int))
  | 0, .loc _ _ => none
  | d + 1, .loc n v => match h n with
    | some (v', .lst xs) => if v' = v then (dats h d xs).map .list else none
    | _ => none
  | _, _ => none
  termination_by d x => (d, sizeOf x)
def dats (h : LH) : Nat → List LV → Option (List PyData)
  | _, [] => some []
  | d, x :: xs => match dat h d x, dats h d xs with
    | some y, some ys => some (y :: ys)
    | _, _ => none
  termination_by d xs => (d, sizeOf xs)
end
def lEq : LR2 := fun a b h Q => ∃ d e, dat h 3 a = some d ∧ dat h 3 b = some e ∧ SeqAt.shaped d = true ∧ SeqAt.shaped e = true ∧ Q (.bl (PyData.eqv d e)) h
def lNe : LR2 := fun a b h Q => ∃ d e, dat h 3 a = some d ∧ dat h 3 b = some e ∧ SeqAt.shaped d = true ∧ SeqAt.shaped e = true ∧ Q (.bl (!PyData.eqv d e)) h
section
variable {K : PySem.W.Frag} {m : Lay} {h : LH}
theorem dp_ints {H : Hp} : ∀ ns : List Int, DpAll K H (ns.map V.int) (ns.map .int)
  | [] => .nil
  | n :: ns => .cons (.int n) (dp_ints ns)
mutual
theorem dat_dp (r : R K m h) : ∀ (d : Nat) (x : LV) (v : V) (y : PyData), dat h d x = some y → VRel K m x v → Dp K m.H v y
  | d, .non, v, y, e, rv => by cases (show v = _ from rv); rw [dat] at e; cases e; exact .non
  | d, .bl b, v, y, e, rv => by cases (show v = _ from rv); rw [dat] at e; cases e; exact .bl b
  | d, .int b, v, y, e, rv => by cases (show v = _ from rv); rw [dat] at e; cases e; exact .int b
  | d, .str b, v, y, e, rv => by cases (show v = _ from rv); rw [dat] at e; cases e; exact .str b
  | d, .tup xs, v, y, e, rv => by
    obtain ⟨a, vs, e1, e2, q⟩ := rv
    subst e1
    rw [dat] at e
    cases z : dats h d xs with
    | none => rw [z] at e; cases e
    | some ys =>
      rw [z] at e; cases e
      exact .tup (SqT.of e2) (dats_dp r d xs vs ys z q)
  | d, .rol ns, v, y, e, rv => by
    obtain ⟨a, e1, q⟩ := rv
    subst e1
    rw [dat] at e; cases e
    exact .lst q.sq (dp_ints ns)
  | 0, .loc n k, v, y, e, rv => by rw [dat] at e; cases e
  | d + 1, .loc n k, v, y, e, rv => by
    obtain ⟨a, e1, e2⟩ := rv
    subst e1
    rw [dat] at e
    split at e
    · rename_i v' xs hn
      split at e
      · rename_i hv
        subst hv
        cases z : dats h d xs with
        | none => rw [z] at e; cases e
        | some ys =>
          rw [z] at e; cases e
          obtain ⟨vs, e3, q⟩ := r.lst hn e2
          exact .lst (SqL.of e3) (dats_dp r d xs vs ys z q)
      · cases e
    · cases e
  | d, .ref _, v, y, e, rv => by simp [dat] at e
  | d, .ty _, v, y, e, rv => by simp [dat] at e
  termination_by d x => (d, sizeOf x)
theorem dats_dp (r : R K m h) : ∀ (d : Nat) (xs : List LV) (vs : List V) (ys : List PyData), dats h d xs = some ys → VRels K m xs vs → DpAll K m.H vs ys
  | d, [], vs, ys, e, rv => by cases (show vs = _ from rv); rw [dats] at e; cases e; exact .nil
  | d, x :: xs, vs, ys, e, ⟨v, ws, e1, q, t⟩ => by
    subst e1
    rw [dats] at e
    split at e
    · rename_i y0 ys0 z1 z2
      cases e
      exact .cons (dat_dp r d x v _ z1 q) (dats_dp r d xs ws _ z2 t)
    · cases e
  termination_by d xs => (d, sizeOf xs)
end
variable {X : Cx}
theorem li_eq (hu : X.A.units + 64 < cLine) : OpR X (compareOp .Eq) (upR2 X.K lEq) := OpR.weak (op_eqD hu) fun x y H Q hq => by
  refine upI (r := fun x y H Q => _) hq fun m h a b QL e1 r ra rb q c => ?_
  subst e1
  obtain ⟨d, e, h1, h2, h3, h4, q⟩ := q
  exact ⟨d, e, dat_dp r _ _ _ _ h1 ra, dat_dp r _ _ _ _ h2 rb, h3, h4, c.bl r q⟩
theorem li_ne (hu : X.A.units + 64 < cLine) : OpR X (compareOp .NotEq) (upR2 X.K lNe) := OpR.weak (op_neD hu) fun x y H Q hq => by
  refine upI (r := fun x y H Q => _) hq fun m h a b QL e1 r ra rb q c => ?_
  subst e1
  obtain ⟨d, e, h1, h2, h3, h4, q⟩ := q
  exact ⟨d, e, dat_dp r _ _ _ _ h1 ra, dat_dp r _ _ _ _ h2 rb, h3, h4, c.bl r q⟩
end
end LL

namespace LL
open PySem L2

/-! ### what an expression asks, logically -/
def wVar (i : Nat) : LTE := fun s h Q _ => ∃ x, s[i]? = some (some x) ∧ Q x h
def wC (x : LV) : LTE := fun _ h Q _ => Q x h
def wBin (r : LR2) (ta tb : LTE) : LTE := fun s h Q X => ta s h (fun x h1 => tb s h1 (fun y h2 => r x y h2 Q) X) X
def wUn (r : LR1) (ta : LTE) : LTE := fun s h Q X => ta s h (fun x h1 => r x h1 Q) X
/-- a value that is True or False -/
def isB : LV → (Bool → Prop) → Prop
  | .bl b, Q => Q b
  | _, _ => False
def wTst (ta : LTE) : LTT := fun s h Q X => ta s h (fun x h1 => isB x fun b => Q b h1) X
def wAndT (t u : LTT) : LTT := fun s h Q X => t s h (fun c h1 => if c = true then u s h1 Q X else Q false h1) X
def wOrT (t u : LTT) : LTT := fun s h Q X => t s h (fun c h1 => if c = true then Q true h1 else u s h1 Q X) X
def wNotT (t : LTT) : LTT := fun s h Q X => t s h (fun c h1 => Q (!c) h1) X
def wAndV (ta tb : LTE) : LTE := fun s h Q X => ta s h (fun x h1 => isB x fun c => if c = true then tb s h1 Q X else Q (.bl false) h1) X
def wOrV (ta tb : LTE) : LTE := fun s h Q X => ta s h (fun x h1 => isB x fun c => if c = true then Q (.bl true) h1 else tb s h1 Q X) X
def wNotV (ta : LTE) : LTE := fun s h Q X => ta s h (fun x h1 => isB x fun c => Q (.bl (!c)) h1) X
def wIf (t : LTT) (ta tb : LTE) : LTE := fun s h Q X => t s h (fun c h1 => if c = true then ta s h1 Q X else tb s h1 Q X) X
def wChain (r r' : LR2) (ta tb tc : LTE) : LTE := fun s h Q X => ta s h (fun x h1 => tb s h1 (fun y h2 => r x y h2 fun z h3 => isB z fun k => if k = true then tc s h3 (fun w h4 => r' y w h4 Q) X else Q (.bl false) h3) X) X
def wNil : LTA := fun _ h Q _ => Q [] h
def wCons (ta : LTE) (t : LTA) : LTA := fun s h Q X => ta s h (fun x h1 => t s h1 (fun xs h2 => Q (x :: xs) h2) X) X
def wTup (t : LTA) : LTE := fun s h Q X => t s h (fun xs h1 => xs.length ≤ sizeLine ∧ Q (.tup xs) h1) X
def wLst (t : LTA) : LTE := fun s h Q X => t s h (fun xs h1 => xs.length ≤ sizeLine ∧ Alloc h1 (.lst xs) Q) X
/-- truth -/
def truO : Option (Nat × LO) → Nat → (Bool → Prop) → Prop
  | some (v', .lst xs), v, Q => v' = v ∧ Q (!xs.isEmpty)
  | some (v', .dK xs), v, Q => v' = v ∧ Q (!xs.isEmpty)
  | _, _, _ => False
def lTru : LV → LH → (Bool → Prop) → Prop
  | .non, _, Q => Q false
  | .bl b, _, Q => Q b
  | .int i, _, Q => Q (i != 0)
  | .str y, _, Q => y.length ≤ sizeLine ∧ Q ((y.length : Int) != 0)
  | .tup xs, _, Q => Q (!xs.isEmpty)
  | .loc n v, h, Q => truO (h n) v Q
  | _, _, _ => False
def wTru (ta : LTE) : LTT := fun s h Q X => ta s h (fun x h1 => lTru x h1 fun b => Q b h1) X

section
variable {X : Cx} {W : WX} {a b c e : Expr} {es : List Expr} {pos : Pos} {ta tb tc : LTE} {t u : LTT} {tas : LTA}
theorem le_var {i : Nat} {x : Str} (h : PE X (.Name x pos) (tVar i)) : PE X (.Name x pos) (upE X.K W (wVar i)) := h.weak fun σ H Q ⟨m, h, s, QL, XL, e1, r, rs, ⟨x, ex, q⟩, c, ce⟩ => by
  obtain ⟨v, ev, rv⟩ := rs.get ex
  subst e1
  exact ⟨v, ev, c.val r rv q⟩
theorem le_c {x : LV} {v : V} (h : PE X e (tC v)) (rv : ∀ m, VRel X.K m x v) : PE X e (upE X.K W (wC x)) := h.weak fun σ H Q ⟨m, h, s, QL, XL, e1, r, rs, q, c, ce⟩ => by
  subst e1
  exact c.val r (rv m) q
theorem le_bin {op : Operator} {r : LR2} (ho : OpR X (binaryOp op) (upR2 X.K r)) (ha : PE X a (upE X.K W ta)) (hb : PE X b (upE X.K W tb)) : PE X (.BinOp a op b pos) (upE X.K W (wBin r ta tb)) :=
  (pe_op ho ha hb).weak fun σ H Q ⟨m, h, s, QL, XL, e1, r1, rs, q, c, ce⟩ => ⟨m, h, s, _, XL, e1, r1, rs, q, fun m1 h1 x v ex1 r2 rx q1 =>
    ⟨m1, h1, s, _, XL, rfl, r2, rs.mono ex1, q1, fun m2 h2 y u ex2 r3 ry q2 => ⟨m2, h2, x, y, QL, rfl, r3, rx.mono ex2, ry, q2, c.mono (ex1.trans ex2)⟩, ce.mono ex1⟩, ce⟩
theorem le_cmp {op : CmpOp} {r : LR2} (ho : OpR X (compareOp op) (upR2 X.K r)) (ha : PE X a (upE X.K W ta)) (hb : PE X b (upE X.K W tb)) (hm : behindInMarks op b = false) : PE X (.Compare a [op] [b] pos) (upE X.K W (wBin r ta tb)) :=
  (pe_cmpR ho ha hb hm).weak fun σ H Q ⟨m, h, s, QL, XL, e1, r1, rs, q, c, ce⟩ => ⟨m, h, s, _, XL, e1, r1, rs, q, fun m1 h1 x v ex1 r2 rx q1 =>
    ⟨m1, h1, s, _, XL, rfl, r2, rs.mono ex1, q1, fun m2 h2 y u ex2 r3 ry q2 => ⟨m2, h2, x, y, QL, rfl, r3, rx.mono ex2, ry, q2, c.mono (ex1.trans ex2)⟩, ce.mono ex1⟩, ce⟩
theorem le_un {op : UnaryOp} {r : LR1} (ho : UnR X (unaryOp op) (upR1 X.K r)) (ha : PE X a (upE X.K W ta)) : PE X (.UnaryOp op a pos) (upE X.K W (wUn r ta)) :=
  (pe_un ho ha).weak fun σ H Q ⟨m, h, s, QL, XL, e1, r1, rs, q, c, ce⟩ => ⟨m, h, s, _, XL, e1, r1, rs, q, fun m1 h1 x v ex1 r2 rx q1 => ⟨m1, h1, x, QL, rfl, r2, rx, q1, c.mono ex1⟩, ce⟩
theorem isB.of {K : PySem.W.Frag} {m : Lay} {x : LV} {v : V} {Q : Bool → Prop} (h : isB x Q) (r : VRel K m x v) : ∃ b, v = .bl b ∧ Q b := by
  cases x <;> try exact h.elim
  exact ⟨_, r, h⟩
theorem lt_cmp {op : CmpOp} {r : LR2} (ho : OpR X (compareOp op) (upR2 X.K r)) (ha : PE X a (upE X.K W ta)) (hb : PE X b (upE X.K W tb)) (hm : behindInMarks op b = false) : PT X (.Compare a [op] [b] pos) (upT X.K W (wTst (wBin r ta tb))) :=
  (pt_cmpR ho ha hb hm).weak fun σ H Q ⟨m, h, s, QL, XL, e1, r1, rs, q, c, ce⟩ => ⟨m, h, s, _, XL, e1, r1, rs, q, fun m1 h1 x v ex1 r2 rx q1 =>
    ⟨m1, h1, s, _, XL, rfl, r2, rs.mono ex1, q1, fun m2 h2 y u ex2 r3 ry q2 => ⟨m2, h2, x, y, _, rfl, r3, rx.mono ex2, ry, q2, fun m3 h3 z w ex3 r4 rz q3 => by
      obtain ⟨b, rfl, q4⟩ := q3.of rz
      exact ⟨b, rfl, c m3 h3 b (ex1.trans (ex2.trans ex3)) r4 q4⟩⟩, ce.mono ex1⟩, ce⟩
theorem lt_val {e : Expr} (h : PE X e (upE X.K W ta)) (he : ∀ whole, isTrue e X.env whole = (do let v ← whole; standAt e.pos; holding [v] (truthy v))) : PT X e (upT X.K W (wTst ta)) :=
  (pt_val h he).weak fun σ H Q ⟨m, h, s, QL, XL, e1, r1, rs, q, c, ce⟩ => ⟨m, h, s, _, XL, e1, r1, rs, q, fun m1 h1 x v ex1 r2 rx q1 => by
    obtain ⟨b, rfl, q4⟩ := q1.of rx
    exact ⟨b, rfl, c m1 h1 b ex1 r2 q4⟩, ce⟩
theorem lTru.of {K : PySem.W.Frag} {m : Lay} {h : LH} {x : LV} {v : V} {Q : Bool → Prop} (t : lTru x h Q) (r : R K m h) (rv : VRel K m x v) : ∃ k, TruV K v m.H k ∧ Q k := by
  cases x with
  | non => cases (show v = _ from rv); exact ⟨_, rfl, t⟩
  | bl b => cases (show v = _ from rv); exact ⟨_, rfl, t⟩
  | int b => cases (show v = _ from rv); exact ⟨_, rfl, t⟩
  | str b => cases (show v = _ from rv); exact ⟨_, ⟨t.1, rfl⟩, t.2⟩
  | tup xs =>
    obtain ⟨a, vs, e1, e2, q⟩ := rv
    subst e1
    refine ⟨_, .inr (.inl ⟨vs, SqT.of e2, rfl⟩), ?_⟩
    have e : vs.isEmpty = xs.isEmpty := by
      have := q.length
      cases vs <;> cases xs <;> simp_all
    rw [e]; exact t
  | loc n v0 =>
    obtain ⟨a, e1, e2⟩ := rv
    subst e1
    simp only [lTru] at t
    unfold truO at t
    split at t
    · rename_i v' xs hn
      obtain ⟨rfl, t⟩ := t
      obtain ⟨vs, e3, q⟩ := r.lst hn e2
      refine ⟨_, .inl ⟨vs, SqL.of e3, rfl⟩, ?_⟩
      have e : vs.isEmpty = xs.isEmpty := by
        have := q.length
        cases vs <;> cases xs <;> simp_all
      rw [e]; exact t
    · rename_i v' xs hn
      obtain ⟨rfl, t⟩ := t
      obtain ⟨vs, e3, q⟩ := r.dK hn e2
      refine ⟨_, .inr (.inr ⟨vs, e3, rfl⟩), ?_⟩
      have e : vs.isEmpty = xs.isEmpty := by
        cases xs with
        | nil => cases (show vs = _ from q); rfl
        | cons x r => obtain ⟨_, _, e, _⟩ := q; subst e; rfl
      rw [e]; exact t
    · exact t.elim
  | rol _ => exact t.elim
  | ref _ => exact t.elim
  | ty _ => exact t.elim
theorem lt_tru {e : Expr} (h : PE X e (upE X.K W ta)) (he : ∀ whole, isTrue e X.env whole = (do let v ← whole; standAt e.pos; holding [v] (truthy v))) : PT X e (upT X.K W (wTru ta)) :=
  (pt_truth h he).weak fun σ H Q ⟨m, h, s, QL, XL, e1, r1, rs, q, c, ce⟩ => ⟨m, h, s, _, XL, e1, r1, rs, q, fun m1 h1 x v ex1 r2 rx q1 => by
    obtain ⟨b, q3, q4⟩ := q1.of r2 rx
    exact ⟨b, q3, c m1 h1 b ex1 r2 q4⟩, ce⟩
theorem lw_and1 {pos : Pos} (ha : PT X a (upT X.K W t)) : PW X (.BoolOp .And [a] pos) (upT X.K W t) := pw_and1 ha
theorem lw_or1 {pos : Pos} (ha : PT X a (upT X.K W t)) : PW X (.BoolOp .Or [a] pos) (upT X.K W t) := pw_or1 ha
theorem lw_and {rest : List Expr} {pos : Pos} (ha : PT X a (upT X.K W t)) (hb : PW X (.BoolOp .And (b :: rest) pos) (upT X.K W u)) : PW X (.BoolOp .And (a :: b :: rest) pos) (upT X.K W (wAndT t u)) :=
  (pw_and ha hb).weak fun σ H Q ⟨m, h, s, QL, XL, e1, r1, rs, q, c, ce⟩ => ⟨m, h, s, _, XL, e1, r1, rs, q, fun m1 h1 k ex1 r2 q1 => by
    cases k
    · rw [if_neg Bool.false_ne_true] at q1 ⊢; exact c m1 h1 _ ex1 r2 q1
    · rw [if_pos rfl] at q1 ⊢; exact ⟨m1, h1, s, _, XL, rfl, r2, rs.mono ex1, q1, c.mono ex1, ce.mono ex1⟩, ce⟩
theorem lw_or {rest : List Expr} {pos : Pos} (ha : PT X a (upT X.K W t)) (hb : PW X (.BoolOp .Or (b :: rest) pos) (upT X.K W u)) : PW X (.BoolOp .Or (a :: b :: rest) pos) (upT X.K W (wOrT t u)) :=
  (pw_or ha hb).weak fun σ H Q ⟨m, h, s, QL, XL, e1, r1, rs, q, c, ce⟩ => ⟨m, h, s, _, XL, e1, r1, rs, q, fun m1 h1 k ex1 r2 q1 => by
    cases k
    · rw [if_neg Bool.false_ne_true] at q1 ⊢; exact ⟨m1, h1, s, _, XL, rfl, r2, rs.mono ex1, q1, c.mono ex1, ce.mono ex1⟩
    · rw [if_pos rfl] at q1 ⊢; exact c m1 h1 _ ex1 r2 q1, ce⟩
theorem lt_not (ha : PT X a (upT X.K W t)) : PT X (.UnaryOp .Not a pos) (upT X.K W (wNotT t)) :=
  (pt_not ha).weak fun σ H Q ⟨m, h, s, QL, XL, e1, r1, rs, q, c, ce⟩ => ⟨m, h, s, _, XL, e1, r1, rs, q, fun m1 h1 k ex1 r2 q1 => c m1 h1 _ ex1 r2 q1, ce⟩
theorem le_one {op : BoolOp} (ha : PE X a (upE X.K W ta)) : PE X (.BoolOp op [a] pos) (upE X.K W ta) := pe_one ha
theorem le_and {rest : List Expr} (ha : PE X a (upE X.K W ta)) (hb : PE X (.BoolOp .And (b :: rest) pos) (upE X.K W tb)) : PE X (.BoolOp .And (a :: b :: rest) pos) (upE X.K W (wAndV ta tb)) :=
  (pe_and ha hb).weak fun σ H Q ⟨m, h, s, QL, XL, e1, r1, rs, q, c, ce⟩ => ⟨m, h, s, _, XL, e1, r1, rs, q, fun m1 h1 x v ex1 r2 rx q1 => by
    obtain ⟨k, rfl, q1⟩ := q1.of rx
    refine ⟨k, rfl, ?_⟩
    cases k
    · rw [if_neg Bool.false_ne_true] at q1 ⊢; exact (c.mono ex1).bl r2 q1
    · rw [if_pos rfl] at q1 ⊢; exact ⟨m1, h1, s, _, XL, rfl, r2, rs.mono ex1, q1, c.mono ex1, ce.mono ex1⟩, ce⟩
theorem le_or {rest : List Expr} (ha : PE X a (upE X.K W ta)) (hb : PE X (.BoolOp .Or (b :: rest) pos) (upE X.K W tb)) : PE X (.BoolOp .Or (a :: b :: rest) pos) (upE X.K W (wOrV ta tb)) :=
  (pe_or ha hb).weak fun σ H Q ⟨m, h, s, QL, XL, e1, r1, rs, q, c, ce⟩ => ⟨m, h, s, _, XL, e1, r1, rs, q, fun m1 h1 x v ex1 r2 rx q1 => by
    obtain ⟨k, rfl, q1⟩ := q1.of rx
    refine ⟨k, rfl, ?_⟩
    cases k
    · rw [if_neg Bool.false_ne_true] at q1 ⊢; exact ⟨m1, h1, s, _, XL, rfl, r2, rs.mono ex1, q1, c.mono ex1, ce.mono ex1⟩
    · rw [if_pos rfl] at q1 ⊢; exact (c.mono ex1).bl r2 q1, ce⟩
theorem le_not (ha : PE X a (upE X.K W ta)) : PE X (.UnaryOp .Not a pos) (upE X.K W (wNotV ta)) :=
  (pe_not ha).weak fun σ H Q ⟨m, h, s, QL, XL, e1, r1, rs, q, c, ce⟩ => ⟨m, h, s, _, XL, e1, r1, rs, q, fun m1 h1 x v ex1 r2 rx q1 => by
    obtain ⟨k, rfl, q1⟩ := q1.of rx
    exact ⟨k, rfl, (c.mono ex1).bl r2 q1⟩, ce⟩
theorem le_if (hc : PT X c (upT X.K W t)) (ha : PE X a (upE X.K W ta)) (hb : PE X b (upE X.K W tb)) : PE X (.IfExp c a b pos) (upE X.K W (wIf t ta tb)) :=
  (pe_ifExp hc ha hb).weak fun σ H Q ⟨m, h, s, QL, XL, e1, r1, rs, q, c, ce⟩ => ⟨m, h, s, _, XL, e1, r1, rs, q, fun m1 h1 k ex1 r2 q1 => by
    cases k
    · rw [if_neg Bool.false_ne_true] at q1 ⊢; exact ⟨m1, h1, s, _, XL, rfl, r2, rs.mono ex1, q1, c.mono ex1, ce.mono ex1⟩
    · rw [if_pos rfl] at q1 ⊢; exact ⟨m1, h1, s, _, XL, rfl, r2, rs.mono ex1, q1, c.mono ex1, ce.mono ex1⟩, ce⟩
theorem la_nil : PA X [] (upA X.K W 0 wNil) := pa_nil.weak fun σ H Q ⟨m, h, s, QL, XL, e1, r1, rs, q, c, ce⟩ => by subst e1; exact c m h [] [] (Ext.refl m) r1 rfl rfl q
theorem la_cons {n : Nat} (ha : PE X e (upE X.K W ta)) (hr : PA X es (upA X.K W n tas)) (hs : starEach (e :: es) X.env = (false, eval e X.env) :: starEach es X.env) : PA X (e :: es) (upA X.K W (n + 1) (wCons ta tas)) :=
  (pa_cons ha hr hs).weak fun σ H Q ⟨m, h, s, QL, XL, e1, r1, rs, q, c, ce⟩ => ⟨m, h, s, _, XL, e1, r1, rs, q, fun m1 h1 x v ex1 r2 rx q1 =>
    ⟨m1, h1, s, _, XL, rfl, r2, rs.mono ex1, q1, fun m2 h2 ys us ex2 r3 ry hn q2 => c m2 h2 _ _ (ex1.trans ex2) r3 (.cons (rx.mono ex2) ry) (by rw [List.length_cons, hn]) q2, ce.mono ex1⟩, ce⟩
theorem le_tup {k n : Nat} (h : PA X es (upA X.K W n tas)) : PE X (.Tuple es k pos) (upE X.K W (wTup tas)) :=
  (pe_tup h).weak fun σ H Q ⟨m, h, s, QL, XL, e1, r1, rs, q, c, ce⟩ => ⟨m, h, s, _, XL, e1, r1, rs, q, fun m1 h1 xs vs ex1 r2 rx _ q1 => ⟨by rw [rx.length]; exact q1.1, fun p hp => by
    obtain ⟨ex2, r3⟩ := r2.grown (ex_upd (o := .tup vs) hp)
    exact c ⟨m1.l, upd m1.H p (.tup vs)⟩ h1 (.tup xs) _ (ex1.trans ex2) r3 ⟨p, vs, rfl, upd_same, rx.mono ex2⟩ q1.2⟩, ce⟩
theorem le_lst {n : Nat} (h : PA X es (upA X.K W n tas)) : PE X (.List es pos) (upE X.K W (wLst tas)) :=
  (pe_lst h).weak fun σ H Q ⟨m, h, s, QL, XL, e1, r1, rs, q, c, ce⟩ => ⟨m, h, s, _, XL, e1, r1, rs, q, fun m1 h1 xs vs ex1 r2 rx _ q1 => ⟨by rw [rx.length]; exact q1.1, fun p hp =>
    q1.2.up r2 (c.mono ex1) hp fun m' ex => ⟨vs, rfl, rx.mono ex⟩⟩, ce⟩
/-- a < b < c -/
theorem le_chain {op op' : CmpOp} {r r' : LR2} (ho : OpR X (compareOp op) (upR2 X.K r)) (ho' : OpR X (compareOp op') (upR2 X.K r')) (ha : PE X a (upE X.K W ta)) (hb : PE X b (upE X.K W tb)) (hc : PE X c (upE X.K W tc))
    (h : PE X a (upE X.K W ta) → PE X b (upE X.K W tb) → PE X c (upE X.K W tc) → PE X (.Compare a [op, op'] [b, c] pos) (tChain (upR2 X.K r) (upR2 X.K r') (upE X.K W ta) (upE X.K W tb) (upE X.K W tc))) : PE X (.Compare a [op, op'] [b, c] pos) (upE X.K W (wChain r r' ta tb tc)) :=
  (h ha hb hc).weak fun σ H Q ⟨m, h, s, QL, XL, e1, r1, rs, q, c, ce⟩ => ⟨m, h, s, _, XL, e1, r1, rs, q, fun m1 h1 x v ex1 r2 rx q1 =>
    ⟨m1, h1, s, _, XL, rfl, r2, rs.mono ex1, q1, fun m2 h2 y u ex2 r3 ry q2 => ⟨m2, h2, x, y, _, rfl, r3, rx.mono ex2, ry, q2, fun m3 h3 z w ex3 r4 rz q3 => by
      obtain ⟨k, rfl, q4⟩ := q3.of rz
      have ex13 := ex1.trans (ex2.trans ex3)
      refine ⟨k, rfl, ?_⟩
      cases k
      · rw [if_neg Bool.false_ne_true] at q4 ⊢; exact (c.mono ex13).bl r4 q4
      · rw [if_pos rfl] at q4 ⊢
        exact ⟨m3, h3, s, _, XL, rfl, r4, rs.mono ex13, q4, fun m4 h4 z2 w2 ex4 r5 rz2 q5 => ⟨m4, h4, y, z2, QL, rfl, r5, ry.mono (ex3.trans ex4), rz2, q5, c.mono (ex13.trans ex4)⟩, ce.mono ex13⟩⟩, ce.mono ex1⟩, ce⟩
theorem lt_chain {op op' : CmpOp} {r r' : LR2} (ho : OpR X (compareOp op) (upR2 X.K r)) (ho' : OpR X (compareOp op') (upR2 X.K r')) (ha : PE X a (upE X.K W ta)) (hb : PE X b (upE X.K W tb)) (hc : PE X c (upE X.K W tc)) (hm : lastMarks [op, op'] [b, c] = false) :
    PT X (.Compare a [op, op'] [b, c] pos) (upT X.K W (wTst (wChain r r' ta tb tc))) :=
  (pt_chain ho ho' ha hb hc hm).weak fun σ H Q ⟨m, h, s, QL, XL, e1, r1, rs, q, c, ce⟩ => ⟨m, h, s, _, XL, e1, r1, rs, q, fun m1 h1 x v ex1 r2 rx q1 =>
    ⟨m1, h1, s, _, XL, rfl, r2, rs.mono ex1, q1, fun m2 h2 y u ex2 r3 ry q2 => ⟨m2, h2, x, y, _, rfl, r3, rx.mono ex2, ry, q2, fun m3 h3 z w ex3 r4 rz q3 => by
      obtain ⟨k, rfl, q4⟩ := q3.of rz
      have ex13 := ex1.trans (ex2.trans ex3)
      refine ⟨k, rfl, ?_⟩
      cases k
      · rw [if_neg Bool.false_ne_true] at q4; exact iteF ⟨false, rfl, c m3 h3 _ ex13 r4 q4⟩
      · rw [if_pos rfl] at q4
        exact iteT ⟨m3, h3, s, _, XL, rfl, r4, rs.mono ex13, q4, fun m4 h4 z2 w2 ex4 r5 rz2 q5 => ⟨m4, h4, y, z2, _, rfl, r5, ry.mono (ex3.trans ex4), rz2, q5, fun m5 h5 z3 w3 ex5 r6 rz3 q6 => by
          obtain ⟨k2, rfl, q7⟩ := q6.of rz3
          exact ⟨k2, rfl, c m5 h5 _ (ex13.trans (ex4.trans ex5)) r6 q7⟩⟩, ce.mono ex13⟩⟩, ce.mono ex1⟩, ce⟩
end
end LL

namespace LL
open PySem L2

/-! ### defs and their promises -/
abbrev LSp := List LV → LH → LQ → LX → Prop
def liftSp (K : PySem.W.Frag) (n : Nat) (sp : LSp) : Sp := fun vs H Q E => ∃ m h xs QL XL, m.H = H ∧ R K m h ∧ VRels K m xs vs ∧ xs.length = n ∧ sp xs h QL XL ∧ CQ K m QL Q ∧ CE K m XL E
structure Glob where
  fn : Str → Option LSp
  cls : Str → Option (Addr × LSp)
  meth : Addr → Str → Option LSp
  prop : Addr → Str → Option LSp
  attr : Addr → Str → Bool
  con : Str → Option LV
  exc : Str → Option Addr
/-- levels and numbers of arguments, by name -/
structure Tab where
  fn : Str → Option (Nat × Nat)
  cls : Str → Option (Nat × Nat)
  meth : Str → Option (Nat × Nat)
  prop : Str → Option Nat
  blt : Str → Bool
def FnAt (P : Program) (w : World) (K : PySem.W.Frag) (mg : Str → Option Value) (base : Heap) (lv n : Nat) (f : Addr) (sp : LSp) : Prop :=
  ∃ fd ps, FnOk P w K mg base (L2.CX P w) lv f fd ps (liftSp K n sp) ∧ Binds K fd ps []
/-- an exception class of one's own -/
structure ExcAt (K : PySem.W.Frag) (C : Addr) : Prop where
  exc : PySem.W.excIn K C PySem.HandSPX.veTail "ValueError.__new__" = true
  keep : PySem.W.keepIn K (.ref C) = true
  sub : PySem.W.subIn K (.ref C) (.type "BaseException") = some true
  typ : PySem.W.typeIn K (.ref C) = some (.type "type")
  ty : PySem.W.typeIn K (.ref C) = some (.type "type")
structure GOk (G : Glob) (T : Tab) (k : Nat) (P : Program) (w : World) (K : PySem.W.Frag) (mg : Str → Option Value) (base : Heap) : Prop where
  fn : ∀ x lv n, T.fn x = some (lv, n) → lv ≤ k → ∃ sp f, G.fn x = some sp ∧ mg x = some (.ref f) ∧ PySem.W.keepIn K (.ref f) = true ∧ FnAt P w K mg base lv n f sp
  cls : ∀ x lv n, T.cls x = some (lv, n) → lv + 1 ≤ k → ∃ C sp f, G.cls x = some (C, sp) ∧ mg x = some (.ref C) ∧ Mk K C f ∧ FnAt P w K mg base lv (n + 1) f sp
  meth : ∀ C m sp lv n, G.meth C m = some sp → T.meth m = some (lv, n) → lv ≤ k → ∃ f, Cls K C ∧ Meth K C m f ∧ FnAt P w K mg base lv (n + 1) f sp
  prop : ∀ C f sp lv, G.prop C f = some sp → T.prop f = some lv → lv + 1 ≤ k → ∃ p g, Cls K C ∧ PropOf K C f p g ∧ FnAt P w K mg base lv 1 g sp
  attr : ∀ C f, G.attr C f = true → Cls K C ∧ NoAttr K C f
  con : ∀ x v, G.con x = some v → ∃ u w, mg x = some u ∧ RelV w u ∧ ∀ m, VRel K m v w
  blt : ∀ x, T.blt x = true → mg x = none
  exc : ∀ x C, G.exc x = some C → mg x = some (.ref C) ∧ ExcAt K C

/-! ### instances -/
def InsAt (h : LH) : LV → Addr → List (Str × LV) → Prop
  | .loc n v, C, fs => h n = some (v, .ins C fs)
  | _, _, _ => False
theorem KVR.lookup {K : PySem.W.Frag} {m : Lay} : ∀ {fs : List (Str × LV)} {vs : List (Str × V)} (f : Str), KVR K m fs vs → (fs.lookup f = none ∧ vs.lookup f = none) ∨ ∃ x v, fs.lookup f = some x ∧ vs.lookup f = some v ∧ VRel K m x v
  | [], _, f, h => by cases (show _ = [] from h); exact .inl ⟨rfl, rfl⟩
  | (g, x) :: fs, _, f, ⟨v, ws, e1, h, t⟩ => by
    subst e1
    show ((match f == g with | true => some x | false => fs.lookup f) = none ∧ (match f == g with | true => some v | false => ws.lookup f) = none) ∨ ∃ y u, (match f == g with | true => some x | false => fs.lookup f) = some y ∧ (match f == g with | true => some v | false => ws.lookup f) = some u ∧ VRel K m y u
    cases f == g with
    | true => exact .inr ⟨x, v, rfl, rfl, h⟩
    | false => exact KVR.lookup f t
theorem KVR.length {κ : Type} {K : PySem.W.Frag} {m : Lay} : ∀ {fs : List (κ × LV)} {vs : List (κ × V)}, KVR K m fs vs → vs.length = fs.length
  | [], _, h => by cases (show _ = [] from h); rfl
  | _ :: _, _, ⟨v, ws, e1, h, t⟩ => by subst e1; simp [KVR.length t]
def putL (f : Str) (x : LV) : List (Str × LV) → List (Str × LV)
  | [] => [(f, x)]
  | (g, y) :: r => if g = f then (g, x) :: r else (g, y) :: putL f x r
theorem putF_cons (f g : Str) (v y : V) (r : List (Str × V)) : putF f v ((g, y) :: r) = if g = f then (g, v) :: r else (g, y) :: putF f v r := rfl
theorem KVR.put {K : PySem.W.Frag} {m : Lay} {f : Str} {x : LV} {v : V} (r : VRel K m x v) : ∀ {fs : List (Str × LV)} {vs : List (Str × V)}, KVR K m fs vs → KVR K m (putL f x fs) (putF f v vs)
  | [], _, h => by cases (show _ = [] from h); exact ⟨v, [], rfl, r, rfl⟩
  | (g, y) :: fs, _, ⟨w, ws, e1, h, t⟩ => by
    subst e1
    rw [putF_cons]
    unfold putL
    by_cases e : g = f
    · rw [if_pos e, if_pos e]; exact ⟨v, ws, rfl, r, t⟩
    · rw [if_neg e, if_neg e]; exact ⟨w, _, rfl, h, KVR.put r t⟩
section
variable {K : PySem.W.Frag} {m : Lay} {h : LH}
theorem InsAt.ins (r : R K m h) : ∀ {x : LV} {v : V} {C : Addr} {fs : List (Str × LV)}, InsAt h x C fs → VRel K m x v → ∃ a dx vs, v = .ref a ∧ m.H a = some (.ins C dx vs) ∧ KVR K m fs vs
  | .loc n k, v, C, fs, hx, ⟨a, e1, e2⟩ => by
    obtain ⟨dx, vs, e3, q⟩ := r.ins hx e2
    exact ⟨a, dx, vs, e1, e3, q⟩
  | .rol _, _, _, _, hx, _ => hx.elim
  | .non, _, _, _, hx, _ => hx.elim
  | .bl _, _, _, _, hx, _ => hx.elim
  | .int _, _, _, _, hx, _ => hx.elim
  | .str _, _, _, _, hx, _ => hx.elim
  | .tup _, _, _, _, hx, _ => hx.elim
  | .ref _, _, _, _, hx, _ => hx.elim
  | .ty _, _, _, _, hx, _ => hx.elim
end

/-- the instance at x: its class, its attributes -/
def insO : Option (Nat × LO) → Nat → (Addr → List (Str × LV) → Prop) → Prop
  | some (v', .ins C fs), v, P => v' = v ∧ P C fs
  | _, _, _ => False
def InsM : LH → LV → (Addr → List (Str × LV) → Prop) → Prop
  | h, .loc n v, P => insO (h n) v P
  | _, _, _ => False
theorem InsM.of {h : LH} {x : LV} {P : Addr → List (Str × LV) → Prop} (q : InsM h x P) : ∃ C fs, InsAt h x C fs ∧ P C fs := by
  unfold InsM at q
  split at q
  · unfold insO at q
    split at q
    · rename_i hn; obtain ⟨rfl, q⟩ := q; exact ⟨_, _, hn, q⟩
    · exact q.elim
  · exact q.elim
def optM {α : Type} : Option α → (α → Prop) → Prop
  | some y, P => P y
  | none, _ => False
theorem optM.of {α : Type} {o : Option α} {P : α → Prop} (q : optM o P) : ∃ y, o = some y ∧ P y := by
  cases o with
  | none => exact q.elim
  | some y => exact ⟨y, rfl, q⟩
/-! ### e.f -/
def wFld (G : Glob) (ta : LTE) (f : Str) : LTE := fun s h Q X => ta s h (fun x h1 => InsM h1 x fun C fs => match G.attr C f with
  | true => optM (fs.lookup f) fun y => Q y h1
  | false => optM (G.prop C f) fun sp => sp [x] h1 Q fun _ _ => False) X
def Mid (K : PySem.W.Frag) (m : Lay) (QL : LQ) : VK := fun v H1 => ∃ m1 h1 x, m1.H = H1 ∧ Ext m m1 ∧ R K m1 h1 ∧ VRel K m1 x v ∧ QL x h1
section
variable {X : Cx} {W : WX} {G : Glob} {T : Tab} {k : Nat} {a b c e : Expr} {es : List Expr} {pos : Pos} {ta tb tc : LTE} {t u : LTT} {tas : LTA}
theorem exc_none {P : Program} {w : World} {outer : List Env} {H : Hp} {s : Shared} {E : XK} {u : Value} {s' : Shared} (h : ∀ c d H, ¬ E c d H) : ¬ L2.CX P w outer H s E u s' := fun q => by
  obtain ⟨_, _, _, _, _, _, _, _, _, _, _, _, z⟩ := q
  exact h _ _ _ z
theorem le_fld (g : GOk G T k X.prog X.w X.K X.mg X.base) (hr : Room k X.A) {f : Str} (hp : ∀ C sp, G.prop C f = some sp → ∃ lv, T.prop f = some lv ∧ lv + 1 ≤ k) (ha : PE X a (upE X.K W ta))
    (hb : attributeBase a f X.env (eval a X.env) = eval a X.env) : PE X (.Attribute a f pos) (upE X.K W (wFld G ta f)) := by
  refine ⟨fun pins s σ H Q I hq => ?_⟩
  obtain ⟨m, h, ls, QL, XL, e1, r1, rs, q, c, ce⟩ := hq
  refine attr_of hb (thn (ha.run pins s σ H (Mid X.K m _) I ⟨m, h, ls, _, XL, e1, r1, rs, q, fun m1 h1 x v ex1 r2 rx q1 => ⟨m1, h1, x, rfl, ex1, r2, rx, q1⟩, ce⟩) fun u s1 ⟨v, H1, I1, ru, m1, h1, x, e2, ex1, r2, rx, q1⟩ => ?_)
  obtain ⟨C, fs, hi, q1⟩ := InsM.of q1
  obtain ⟨p, dx, vs, rfl, hH, kv⟩ := hi.ins r2 rx
  obtain rfl : u = Value.ref p := ru
  subst e2
  split at q1
  · rename_i ga
    obtain ⟨y, hl, q2⟩ := q1.of
    obtain ⟨cl, na⟩ := g.attr _ _ ga
    rcases kv.lookup f with ⟨z, _⟩ | ⟨y', v, z1, z2, rv⟩
    · rw [z] at hl; cases hl
    · rw [hl] at z1; cases z1
      exact getattr_ok I1 hH cl na z2 fun u' s2 I2 ru => ⟨v, m1.H, I2, ru, c m1 h1 _ _ ex1 r2 rv q2⟩
  · obtain ⟨sp, gp, q2⟩ := q1.of
    obtain ⟨lv, t1, t2⟩ := hp C sp gp
    obtain ⟨pa, gt, cl, po, fd, ps, F, B⟩ := g.prop C f sp lv gp t1 t2
    exact getprop_ok (E := fun _ _ _ => False) (dvs := []) I1 hH cl po F (hr.mono t2) B .nil (fun _ _ _ _ _ _ _ z => exc_none (fun _ _ _ z => z) z) ⟨m1, h1, [x], QL, fun _ _ => False, rfl, r2, ⟨_, _, rfl, rx, rfl⟩, rfl, q2, c.mono ex1, fun _ _ _ _ _ z => z⟩

/-! ### calls -/
def wCall (sp : LSp) (tas : LTA) : LTE := fun s h Q X => tas s h (fun xs h1 => sp xs h1 Q X) X
theorem lift_of {K : PySem.W.Frag} {m : Lay} {h : LH} {xs : List LV} {vs : List V} {n : Nat} {sp : LSp} {QL : LQ} {XL : LX} {Q : VK} {E : XK} (r : R K m h) (rv : VRels K m xs vs) (hn : xs.length = n) (q : sp xs h QL XL) (c : CQ K m QL Q) (ce : CE K m XL E) : liftSp K n sp vs m.H Q E :=
  ⟨m, h, xs, QL, XL, rfl, r, rv, hn, q, c, ce⟩
theorem pe_callS0 {CX : CXT} {f : Addr} {fd : FuncData} {ps : List Str} {sp : Sp} {E : St → XK} {x : Str} {p : Pos} (F : FnOk X.prog X.w X.K X.mg X.base CX k f fd ps sp) (hr : Room k X.A) (hg : Gl X x) (hm : X.mg x = some (.ref f)) (hk : PySem.W.keepIn X.K (.ref f) = true) (hb : Binds X.K fd ps []) (hx : ∀ σ, PassesAt CX X σ (E σ))
    (hdb : (x == ("__debug__" : Str)) = false) : PE X (.Call (.Name x p) [] [] pos) (tCallS sp E tNil) := by
  refine ⟨fun pins s σ H Q I h => ?_⟩
  refine wpAny_Call_Name_kw (ld_glob I hg hm ?_ hdb)
  exact PySem.W.callWith_K0 I.kIn hk (run_fnS (us := []) F hr hb (hx σ) I .nil h)
theorem le_call (tk : Takes X W) {lv n : Nat} {f : Addr} {sp : LSp} {x : Str} {p : Pos} (F : FnAt X.prog X.w X.K X.mg X.base lv n f sp) (hr : Room lv X.A) (hg : Gl X x) (hm : X.mg x = some (.ref f)) (hk : PySem.W.keepIn X.K (.ref f) = true)
    (ha : PA X (e :: es) (upA X.K W n tas)) (hdb : (x == ("__debug__" : Str)) = false) (he : starEach (e :: es) X.env = (false, eval e X.env) :: starEach es X.env) (hpl : (backTo pos (starEach es X.env)).any (·.1) = false) :
    PE X (.Call (.Name x p) (e :: es) [] pos) (upE X.K W (wCall sp tas)) := by
  obtain ⟨fd, ps, F, B⟩ := F
  exact (pe_callS F hr hg hm hk B (fun σ => passAt tk σ) ha hdb he hpl).weak fun σ H Q ⟨m, h, s, QL, XL, e1, r1, rs, q, c, ce⟩ => ⟨m, h, s, _, XL, e1, r1, rs, q, fun m1 h1 xs vs ex1 r2 rx hn q1 =>
    lift_of r2 rx hn q1 (c.mono ex1) (ce.mono ex1), ce⟩
theorem le_call0 (tk : Takes X W) {lv : Nat} {f : Addr} {sp : LSp} {x : Str} {p : Pos} (F : FnAt X.prog X.w X.K X.mg X.base lv 0 f sp) (hr : Room lv X.A) (hg : Gl X x) (hm : X.mg x = some (.ref f)) (hk : PySem.W.keepIn X.K (.ref f) = true)
    (hdb : (x == ("__debug__" : Str)) = false) : PE X (.Call (.Name x p) [] [] pos) (upE X.K W (wCall sp wNil)) := by
  obtain ⟨fd, ps, F, B⟩ := F
  exact (pe_callS0 F hr hg hm hk B (fun σ => passAt tk σ) hdb).weak fun σ H Q ⟨m, h, s, QL, XL, e1, r1, rs, q, c, ce⟩ => by
    subst e1
    exact lift_of r1 .nil rfl q c ce

theorem KVR.lnone {K : PySem.W.Frag} {m : Lay} {fs : List (Str × LV)} {vs : List (Str × V)} {f : Str} (h : KVR K m fs vs) (e : fs.lookup f = none) : vs.lookup f = none := by
  rcases h.lookup f with ⟨_, z⟩ | ⟨y', v, z1, z2, rv⟩
  · exact z
  · rw [e] at z1; cases z1
/-! ### C(..) -/
def wMake (C : Addr) (sp : LSp) (tas : LTA) : LTE := fun s h Q X => tas s h (fun xs h1 => Alloc h1 (.ins C []) fun x h2 => sp (x :: xs) h2 (fun y h3 => y = .non ∧ Q x h3) X) X
theorem run_makeS {C f : Addr} {fd : FuncData} {ps : List Str} {sp : Sp} {CX : CXT} {E : St → XK} {pins : List (Addr × Obj)} {σ : St} {H : Hp} {s : Shared} {Q : VK} {us : List Value} {vs : List V} (M : Mk X.K C f) (F : FnOk X.prog X.w X.K X.mg X.base CX k f fd ps sp) (hr : Room (k + 1) X.A) (hb : Binds X.K fd ps [])
    (hx : PassesAt CX X σ (E σ)) (I : Inv X pins σ H s) (r : Vals vs us)
    (h : ∀ x dx, H x = none → H dx = none → dx ≠ x → sp (.ref x :: vs) (upd (upd H dx (.own x)) x (.ins C dx [])) (fun v H2 => v = .non ∧ Q (.ref x) H2) (E σ)) :
    wpAny (model X.prog X.w) X.A (call (.ref C) us) (EP X pins σ Q) X.xe s := by
  have hq := h (s.heap.objs.size + 1) s.heap.objs.size (I.hok.fresh (Nat.le_succ _)) (I.hok.fresh (Nat.le_refl _)) (Nat.ne_of_lt (Nat.lt_succ_self _))
  have I2 := Inv.made (C := C) I
  have r2 : Vals (V.ref (s.heap.objs.size + 1) :: vs) (Value.ref (s.heap.objs.size + 1) :: us) := .cons rfl r
  have hl : (Value.ref (s.heap.objs.size + 1) :: us ++ []).length = ps.length := by
    rw [List.append_nil]
    have e := r2.length
    rw [F.len _ _ _ _ hq] at e
    exact e.symm
  have b := hb _ (Value.ref (s.heap.objs.size + 1) :: us) I2.kIn hl
  rw [List.append_nil] at b
  refine wpAny_call (make_map (f := f) I.kIn M.makes M.init (beq_iff_eq.mp M.fn) (codeAny_mono (F.run _ X.stack _ _ ⟨Value.ref (s.heap.objs.size + 1) :: us, []⟩ (Value.ref (s.heap.objs.size + 1) :: us) _ _ (E σ) (hr.make C us [])
    (I2.env0.make C us []) b r2 hq) fun r s' hq' => ?_))
  cases r with
  | error e => exact hx pins _ _ e s' I2 hq'
  | ok fl =>
    cases fl with
    | ret u =>
      obtain ⟨v, H', I3, rv, ev, q3⟩ := I2.after hq'
      subst ev
      exact ⟨rv, ⟨V.ref (s.heap.objs.size + 1), H', I3, rfl, q3⟩⟩
    | next => exact False.elim hq'
    | brk => exact False.elim hq'
    | cont => exact False.elim hq'
/-- a fresh instance -/
theorem make_up {K : PySem.W.Frag} {m : Lay} {h : LH} {C x dx : Addr} {n : Nat} {xs : List LV} {vs : List V} {sp : LSp} {QL : LQ} {XL : LX} {Q : VK} {E : XK} (r : R K m h) (rv : VRels K m xs vs) (hn : xs.length = n) (hx : m.H x = none) (hdx : m.H dx = none) (ne : dx ≠ x)
    (q : Alloc h (.ins C []) fun x h2 => sp (x :: xs) h2 (fun y h3 => y = .non ∧ QL x h3) XL) (c : CQ K m QL Q) (ce : CE K m XL E) :
    liftSp K (n + 1) sp (.ref x :: vs) (upd (upd m.H dx (.own x)) x (.ins C dx [])) (fun v H2 => v = .non ∧ Q (.ref x) H2) E := by
  obtain ⟨ex1, r1⟩ := r.grown (ex_upd (o := .own x) hdx)
  have hx1 : (upd m.H dx (.own x)) x = none := by rw [upd_ne (fun z => ne z.symm)]; exact hx
  have fin : ∀ (nm : Nm), h nm = none → (∀ v, sp (.loc nm v :: xs) (h.set nm v (.ins C [])) (fun y h3 => y = .non ∧ QL (.loc nm v) h3) XL) → liftSp K (n + 1) sp (.ref x :: vs) (upd (upd m.H dx (.own x)) x (.ins C dx [])) (fun v H2 => v = .non ∧ Q (.ref x) H2) E := fun nm hnm q => by
    obtain ⟨m2, v, e1, ex2, r2, el⟩ := r1.new (n := nm) (o := .ins C []) (u := .ins C dx []) hnm hx1 fun m' _ => ⟨dx, [], rfl, rfl⟩
    have ex := ex1.trans ex2
    refine ⟨m2, _, .loc nm v :: xs, _, XL, e1, r2, .cons ⟨x, rfl, el⟩ (rv.mono ex), by rw [List.length_cons, hn], q v, fun m3 h3 y u ex3 r3 ry q3 => ?_, ce.mono ex⟩
    obtain ⟨rfl, q3⟩ := q3
    exact ⟨ry, c m3 h3 (.loc nm v) _ (ex.trans ex3) r3 ⟨x, rfl, ex3.l _ _ el⟩ q3⟩
  rcases q with ⟨nm, hnm, q⟩ | q
  · exact fin nm hnm q
  · obtain ⟨kk, hk⟩ := r.fresh
    exact fin _ hk (q kk hk)
theorem le_make (tk : Takes X W) {lv n : Nat} {C f : Addr} {sp : LSp} {x : Str} {p : Pos} (M : Mk X.K C f) (F : FnAt X.prog X.w X.K X.mg X.base lv (n + 1) f sp) (hr : Room (lv + 1) X.A) (hg : Gl X x) (hm : X.mg x = some (.ref C))
    (ha : PA X (e :: es) (upA X.K W n tas)) (hdb : (x == ("__debug__" : Str)) = false) (he : starEach (e :: es) X.env = (false, eval e X.env) :: starEach es X.env) (hpl : (backTo pos (starEach es X.env)).any (·.1) = false) :
    PE X (.Call (.Name x p) (e :: es) [] pos) (upE X.K W (wMake C sp tas)) := by
  obtain ⟨fd, ps, F, B⟩ := F
  refine ⟨fun pins s σ H Q I hq => ?_⟩
  obtain ⟨m, h, ls, QL, XL, e1, r1, rs, q, c, ce⟩ := hq
  refine wpAny_Call_Name_kw (ld_glob I hg hm ?_ hdb)
  refine PySem.W.callWith_K (h₀ := X.base) I.ok.mod.kin M.kp (thn (ha.run pos pins s σ H (fun vs H1 => ∀ x dx, H1 x = none → H1 dx = none → dx ≠ x → liftSp X.K (n + 1) sp (.ref x :: vs) (upd (upd H1 dx (.own x)) x (.ins C dx [])) (fun v H2 => v = .non ∧ Q (.ref x) H2) (WE W σ)) I
    ⟨m, h, ls, _, XL, e1, r1, rs, q, fun m1 h1 xs vs ex1 r2 rx hn q1 => fun x dx hx hdx ne => make_up r2 rx hn hx hdx ne q1 (c.mono ex1) (ce.mono ex1), ce⟩) fun us s1 ⟨vs, H1, I1, r, q⟩ => ⟨I1.kIn, ?_⟩) he hpl
  exact run_makeS (E := L2.WE W) M F hr B (passAt tk σ) I1 r q
theorem le_make0 (tk : Takes X W) {lv : Nat} {C f : Addr} {sp : LSp} {x : Str} {p : Pos} (M : Mk X.K C f) (F : FnAt X.prog X.w X.K X.mg X.base lv 1 f sp) (hr : Room (lv + 1) X.A) (hg : Gl X x) (hm : X.mg x = some (.ref C))
    (hdb : (x == ("__debug__" : Str)) = false) : PE X (.Call (.Name x p) [] [] pos) (upE X.K W (wMake C sp wNil)) := by
  obtain ⟨fd, ps, F, B⟩ := F
  refine ⟨fun pins s σ H Q I hq => ?_⟩
  obtain ⟨m, h, ls, QL, XL, e1, r1, rs, q, c, ce⟩ := hq
  subst e1
  refine wpAny_Call_Name_kw (ld_glob I hg hm ?_ hdb)
  exact PySem.W.callWith_K0 I.kIn M.kp (run_makeS (us := []) (E := L2.WE W) M F hr B (passAt tk σ) I .nil fun x dx hx hdx ne => make_up r1 .nil rfl hx hdx ne q c ce)

/-! ### built-in functions, types -/
def wCB (r : LRA) (tas : LTA) : LTE := fun s h Q X => tas s h (fun xs h1 => r xs h1 Q) X
theorem up_cb {r : LRA} {σ : St} {H : Hp} {Q : VK} {n : Nat} (h : upE X.K W (wCB r tas) σ H Q) : tCB (upRA X.K r) (upA X.K W n tas) σ H Q := by
  obtain ⟨m, h, s, QL, XL, e1, r1, rs, q, c, ce⟩ := h
  exact ⟨m, h, s, _, XL, e1, r1, rs, q, fun m1 h1 xs vs ex1 r2 rx _ q1 => ⟨m1, h1, xs, QL, rfl, r2, rx, q1, c.mono ex1⟩, ce⟩
theorem le_cb {n : Nat} {r : LRA} {id : String} {x : Str} {p : Pos} (hc : CallR X (.builtin id) (upRA X.K r)) (hg : Gl X x) (hm : X.mg x = none) (hv : bootBuiltins x = some (.builtin id)) (ha : PA X (e :: es) (upA X.K W n tas)) (hn : x ≠ "__name__") (hdb : (x == ("__debug__" : Str)) = false)
    (he : starEach (e :: es) X.env = (false, eval e X.env) :: starEach es X.env) (hpl : (backTo pos (starEach es X.env)).any (·.1) = false) : PE X (.Call (.Name x p) (e :: es) [] pos) (upE X.K W (wCB r tas)) :=
  (pe_callB hc hg hm hv ha hn hdb he hpl).weak fun _ _ _ => up_cb
theorem le_ct {n : Nat} {r : LRA} {id : String} {x : Str} {p : Pos} (hc : CallR X (.type id) (upRA X.K r)) (hg : Gl X x) (hm : X.mg x = none) (hv : bootBuiltins x = some (.type id)) (ha : PA X (e :: es) (upA X.K W n tas)) (hn : x ≠ "__name__") (hdb : (x == ("__debug__" : Str)) = false)
    (he : starEach (e :: es) X.env = (false, eval e X.env) :: starEach es X.env) (hpl : (backTo pos (starEach es X.env)).any (·.1) = false) : PE X (.Call (.Name x p) (e :: es) [] pos) (upE X.K W (wCB r tas)) :=
  (pe_callTy hc hg hm hv ha hn hdb he hpl).weak fun _ _ _ => up_cb
end
end LL

namespace LL
open PySem L2

/-! ### dicts, logically -/
section
variable {κ : Type} [DecidableEq κ]
def getK (kvs : List (κ × LV)) (k : κ) : Option LV := (kvs.find? fun kv => decide (kv.1 = k)).map (·.2)
def putK (kvs : List (κ × LV)) (k : κ) (v : LV) : List (κ × LV) :=
  if (kvs.any fun kv => decide (kv.1 = k)) = true then kvs.map fun kv => if kv.1 = k then (kv.1, v) else kv else kvs ++ [(k, v)]
def dropK (kvs : List (κ × LV)) (k : κ) : List (κ × LV) := kvs.filter fun kv => decide (kv.1 ≠ k)
variable {K : PySem.W.Frag} {m : Lay}
theorem KVR.val (k : κ) : ∀ {kvs : List (κ × LV)} {vs : List (κ × V)}, KVR K m kvs vs → (getK kvs k = none ∧ valV vs k = none) ∨ ∃ x v, getK kvs k = some x ∧ valV vs k = some v ∧ VRel K m x v
  | [], _, h => by cases (show _ = [] from h); exact .inl ⟨rfl, rfl⟩
  | (j, x) :: r, _, ⟨v, ws, e1, h, t⟩ => by
    subst e1
    unfold getK valV
    by_cases e : j = k
    · simp only [List.find?_cons, e, decide_true]
      exact .inr ⟨x, v, rfl, rfl, h⟩
    · simp only [List.find?_cons, e, decide_false]
      exact KVR.val k t
theorem KVR.any (k : κ) : ∀ {kvs : List (κ × LV)} {vs : List (κ × V)}, KVR K m kvs vs → (vs.any fun kv => decide (kv.1 = k)) = (kvs.any fun kv => decide (kv.1 = k))
  | [], _, h => by cases (show _ = [] from h); rfl
  | (j, x) :: r, _, ⟨v, ws, e1, h, t⟩ => by subst e1; simp only [List.any_cons, KVR.any k t]
theorem KVR.snoc {k : κ} {x : LV} {v : V} (r : VRel K m x v) : ∀ {kvs : List (κ × LV)} {vs : List (κ × V)}, KVR K m kvs vs → KVR K m (kvs ++ [(k, x)]) (vs ++ [(k, v)])
  | [], _, h => by cases (show _ = [] from h); exact ⟨v, [], rfl, r, rfl⟩
  | (j, y) :: l, _, ⟨w, ws, e1, h, t⟩ => by subst e1; exact ⟨w, _, rfl, h, KVR.snoc r t⟩
theorem KVR.repl {k : κ} {x : LV} {v : V} (r : VRel K m x v) : ∀ {kvs : List (κ × LV)} {vs : List (κ × V)}, KVR K m kvs vs → KVR K m (kvs.map fun kv => if kv.1 = k then (kv.1, x) else kv) (vs.map fun kv => if kv.1 = k then (kv.1, v) else kv)
  | [], _, h => by cases (show _ = [] from h); rfl
  | (j, y) :: l, _, ⟨w, ws, e1, h, t⟩ => by
    subst e1
    simp only [List.map_cons]
    by_cases e : j = k
    · simp only [e, if_true]; exact ⟨v, _, rfl, r, KVR.repl r t⟩
    · simp only [e, if_false]; exact ⟨w, _, rfl, h, KVR.repl r t⟩
theorem KVR.putk {k : κ} {x : LV} {v : V} (r : VRel K m x v) {kvs : List (κ × LV)} {vs : List (κ × V)} (h : KVR K m kvs vs) : KVR K m (putK kvs k x) (L2.putK vs k v) := by
  unfold putK L2.putK
  rw [h.any k]
  split
  · exact h.repl r
  · exact h.snoc r
theorem KVR.drop (k : κ) : ∀ {kvs : List (κ × LV)} {vs : List (κ × V)}, KVR K m kvs vs → KVR K m (dropK kvs k) (L2.dropK vs k)
  | [], _, h => by cases (show _ = [] from h); rfl
  | (j, y) :: l, _, ⟨w, ws, e1, h, t⟩ => by
    subst e1
    have ih := KVR.drop k t
    unfold dropK L2.dropK at *
    by_cases e : j = k
    · simp only [List.filter_cons, e, ne_eq, not_true_eq_false, decide_false]; exact ih
    · simp only [List.filter_cons, e, ne_eq, not_false_eq_true, decide_true, if_true]; exact ⟨w, _, rfl, h, ih⟩
end
/-- a key -/
def keyOf : LV → Option Key
  | .int i => some (.inl i)
  | .str x => some (.inr x)
  | _ => none
def keysOfL : List LV → Option (List Key)
  | [] => some []
  | x :: xs => match keyOf x, keysOfL xs with
    | some k, some ks => some (k :: ks)
    | _, _ => none
def keysOf : LV → Option (List Key)
  | .tup xs => keysOfL xs
  | _ => none
section
variable {K : PySem.W.Frag} {m : Lay} {h : LH}
theorem keyOf.v : ∀ {x : LV} {v : V} {k : Key}, keyOf x = some k → VRel K m x v → v = kV k
  | .int i, v, k, e, r => by cases (show v = _ from r); cases e; rfl
  | .str i, v, k, e, r => by cases (show v = _ from r); cases e; rfl
  | .non, _, _, e, _ => by cases e
  | .bl _, _, _, e, _ => by cases e
  | .tup _, _, _, e, _ => by cases e
  | .loc _ _, _, _, e, _ => by cases e
  | .rol _, _, _, e, _ => by cases e
  | .ref _, _, _, e, _ => by cases e
  | .ty _, _, _, e, _ => by cases e
theorem keysOfL.v : ∀ {xs : List LV} {vs : List V} {ks : List Key}, keysOfL xs = some ks → VRels K m xs vs → vs = ks.map kV
  | [], _, _, e, r => by cases (show _ = [] from r); cases e; rfl
  | x :: xs, _, ks, e, ⟨v, ws, e1, q, t⟩ => by
    subst e1
    unfold keysOfL at e
    split at e
    · rename_i k ks' h1 h2
      cases e
      rw [List.map_cons, ← keysOfL.v h2 t, ← keyOf.v h1 q]
    · cases e
theorem keysOf.v : ∀ {x : LV} {v : V} {ks : List Key}, keysOf x = some ks → VRel K m x v → ∃ a, v = .ref a ∧ m.H a = some (.tup (ks.map kV))
  | .tup xs, v, ks, e, ⟨a, vs, e1, e2, q⟩ => ⟨a, e1, by rw [← keysOfL.v e q]; exact e2⟩
  | .int _, _, _, e, _ => by cases e
  | .str _, _, _, e, _ => by cases e
  | .non, _, _, e, _ => by cases e
  | .bl _, _, _, e, _ => by cases e
  | .loc _ _, _, _, e, _ => by cases e
  | .rol _, _, _, e, _ => by cases e
  | .ref _, _, _, e, _ => by cases e
  | .ty _, _, _, e, _ => by cases e
/-- what d has at a key; d may be locked -/
def DAt (h : LH) (x y : LV) (o : Option LV) : Prop := match x with
  | .loc n v => match h n with
    | some (v', .dK kvs) => v' = v ∧ ∃ k, keyOf y = some k ∧ getK kvs k = o
    | some (v', .dT kvs) => v' = v ∧ ∃ k, keysOf y = some k ∧ getK kvs k = o
    | some (v', .fz (.dK kvs) _ _) => v' = v ∧ ∃ k, keyOf y = some k ∧ getK kvs k = o
    | some (v', .fz (.dT kvs) _ _) => v' = v ∧ ∃ k, keysOf y = some k ∧ getK kvs k = o
    | _ => False
  | _ => False
def ORl (K : PySem.W.Frag) (m : Lay) : Option LV → Option V → Prop
  | some x, some v => VRel K m x v
  | none, none => True
  | _, _ => False
theorem KVR.orl {κ : Type} [DecidableEq κ] {kvs : List (κ × LV)} {vs : List (κ × V)} (q : KVR K m kvs vs) (k : κ) : ORl K m (getK kvs k) (valV vs k) := by
  rcases q.val k with ⟨e1, e2⟩ | ⟨x, v, e1, e2, r⟩
  · rw [e1, e2]; trivial
  · rw [e1, e2]; exact r
theorem DAt.get (r : R K m h) {x y : LV} {v u : V} {o : Option LV} (d : DAt h x y o) (rx : VRel K m x v) (ry : VRel K m y u) : ∃ a ov, v = .ref a ∧ DGet m.H a u ov ∧ ORl K m o ov := by
  unfold DAt at d
  split at d
  · rename_i n k
    obtain ⟨a, e1, e2⟩ := rx
    split at d
    · rename_i kvs hn
      obtain ⟨rfl, k, hk, rfl⟩ := d
      obtain ⟨vs, e3, q⟩ := r.dK hn e2
      rw [keyOf.v hk ry]
      exact ⟨a, _, e1, DGet.k e3, q.orl k⟩
    · rename_i kvs hn
      obtain ⟨rfl, k, hk, rfl⟩ := d
      obtain ⟨vs, e3, q⟩ := r.dT hn e2
      obtain ⟨b, rfl, eb⟩ := keysOf.v hk ry
      exact ⟨a, _, e1, DGet.t e3 eb, q.orl k⟩
    · rename_i kvs ob w hn
      obtain ⟨rfl, k, hk, rfl⟩ := d
      obtain ⟨a', u0, e3, e4, rfl, nl, q⟩ := r.obj _ _ _ hn
      rw [e2] at e3; cases e3
      obtain ⟨vs, rfl, q⟩ := q
      rw [keyOf.v hk ry]
      exact ⟨a, _, e1, .inl ⟨vs, k, .inr ⟨ob, e4⟩, rfl, rfl⟩, q.orl k⟩
    · rename_i kvs ob w hn
      obtain ⟨rfl, k, hk, rfl⟩ := d
      obtain ⟨a', u0, e3, e4, rfl, nl, q⟩ := r.obj _ _ _ hn
      rw [e2] at e3; cases e3
      obtain ⟨vs, rfl, q⟩ := q
      obtain ⟨b, rfl, eb⟩ := keysOf.v hk ry
      exact ⟨a, _, e1, .inr ⟨vs, k, b, .inr ⟨ob, e4⟩, rfl, eb, rfl⟩, q.orl k⟩
    · exact d.elim
  · exact d.elim
end

/-! ### a[i] -/
def atM {α : Type} (xs : List α) : LV → (α → Prop) → Prop
  | .int i, P => optM (atI xs i) P
  | _, _ => False
def ixO (h : LH) (x y : LV) (Q : LQ) : Option (Nat × LO) → Nat → Prop
  | some (v', .lst xs), v => v' = v ∧ atM xs y fun u => Q u h
  | _, _ => ∃ u, DAt h x y (some u) ∧ Q u h
def lIx : LR2
  | .tup xs, y, h, Q => atM xs y fun u => Q u h
  | .rol ns, y, h, Q => atM ns y fun u => Q (.int u) h
  | .loc n v, y, h, Q => ixO h (.loc n v) y Q (h n) v
  | _, _, _, _ => False
theorem atM.of {α : Type} {xs : List α} {y : LV} {P : α → Prop} (q : atM xs y P) : ∃ i u, y = .int i ∧ atI xs i = some u ∧ P u := by
  cases y <;> try exact q.elim
  obtain ⟨u, e, p⟩ := optM.of q
  exact ⟨_, u, rfl, e, p⟩
section
variable {X : Cx}
theorem ix_dict (hu : X.A.units + 1 < cLine) : IxR X (fun x y H Q => ∃ a v, x = .ref a ∧ DGet H a y (some v) ∧ Q v H) := by
  intro value slice pins s σ H x y v u Q I rx ry h hs
  obtain ⟨a, z, rfl, g, q⟩ := h
  cases rx
  unfold PyProof.Rows.subscriptTail
  refine wpAny_bind ?_
  rw [getitemInPython_of_ne (dict_typeIs I g).not_modules]
  refine wpAny_bind (wpAny_specialOf (dict_typeIs I g) PySem.F.slot_dict_getitem.lookup ?_)
  have fin : wpAny (model X.prog X.w) X.A (subscripted slice false (.ref a) u) (fun r s₃ => wpAny (model X.prog X.w) X.A (letTemporaryGo value (.ref a) r >>= fun _ => pure r) (EP X pins σ Q) X.xe s₃) X.xe s := by
    rw [hs]
    exact wpAny_operating (d_getItem hu I g ry fun w' s3 I3 rw' => wpAny_bind (wpAny_letTemporaryGo (wpAny_pure ⟨z, H, I3, rw', q⟩)))
  first
    | exact wpAny_pure (wpAny_bind fin)
    | exact wpAny_bind (wpAny_pure (wpAny_bind fin))
    | exact wpAny_bind fin
theorem atI_rel {K : PySem.W.Frag} {m : Lay} {xs : List LV} {vs : List V} {i : Int} {u : LV} (q : VRels K m xs vs) (e : atI xs i = some u) : ∃ w, atI vs i = some w ∧ VRel K m u w := by
  unfold atI at e ⊢
  rw [q.length]
  cases z : ixN xs.length i with
  | none => rw [z] at e; cases e
  | some j =>
    rw [z] at e
    exact q.get e
theorem atI_int {ns : List Int} {i u : Int} (e : atI ns i = some u) : atI (ns.map V.int) i = some (V.int u) := by
  unfold atI at e ⊢
  rw [List.length_map]
  cases z : ixN ns.length i with
  | none => rw [z] at e; cases e
  | some j =>
    rw [z] at e
    show (ns.map V.int)[j]? = _
    rw [List.getElem?_map, show ns[j]? = some u from e]; rfl
theorem li_ix (hu : X.A.units + 1 < cLine) : IxR X (upR2 X.K lIx) := IxR.weak ((ix_list.or ix_tup).or (ix_dict hu)) fun x y H Q hq => by
  refine upI (r := fun x y H Q => _) hq fun m h a b QL e1 r ra rb q c => ?_
  subst e1
  cases a with
  | tup xs =>
    obtain ⟨i, u, rfl, hu, q⟩ := atM.of q
    obtain ⟨p, vs, e2, e3, q1⟩ := ra
    cases (show y = _ from rb)
    obtain ⟨w, e4, rw'⟩ := atI_rel q1 hu
    exact .inl (.inr ⟨p, vs, _, w, e2, rfl, SqT.of e3, e4, c.val r rw' q⟩)
  | rol ns =>
    obtain ⟨i, u, rfl, hu, q⟩ := atM.of q
    obtain ⟨p, e2, e3⟩ := ra
    cases (show y = _ from rb)
    exact .inl (.inl ⟨p, _, _, .int u, e2, rfl, e3.sq, atI_int hu, c.int r q⟩)
  | loc n v =>
    have dct : (∃ u, DAt h (.loc n v) b (some u) ∧ QL u h) → ∃ a v, x = .ref a ∧ DGet m.H a y (some v) ∧ Q v m.H := fun ⟨u, d, q⟩ => by
      obtain ⟨p, ov, e2, g, o⟩ := d.get r ra rb
      cases ov with
      | none => exact o.elim
      | some w => exact ⟨p, w, e2, g, c.val r o q⟩
    simp only [lIx] at q
    unfold ixO at q
    split at q
    · rename_i v' xs hn
      obtain ⟨rfl, q⟩ := q
      obtain ⟨i, u, rfl, hu, q⟩ := atM.of q
      obtain ⟨p, e2, e3⟩ := ra
      cases (show y = _ from rb)
      obtain ⟨vs, e5, q1⟩ := r.lst hn e3
      obtain ⟨w, e4, rw'⟩ := atI_rel q1 hu
      exact .inl (.inl ⟨p, vs, _, w, e2, rfl, SqL.of e5, e4, c.val r rw' q⟩)
    · exact .inr (dct q)
  | _ => exact q.elim
end
def wIx (ta tb : LTE) : LTE := wBin lIx ta tb
section
variable {X : Cx} {W : WX} {a b e : Expr} {es : List Expr} {pos : Pos} {ta tb : LTE} {tas : LTA}
theorem le_ix (hu : X.A.units + 1 < cLine) (ha : PE X a (upE X.K W ta)) (hb : PE X b (upE X.K W tb)) (hs : PlainIx b) : PE X (.Subscript a b pos) (upE X.K W (wIx ta tb)) :=
  (pe_ix (li_ix hu) ha hb hs).weak fun σ H Q ⟨m, h, s, QL, XL, e1, r1, rs, q, c, ce⟩ => ⟨m, h, s, _, XL, e1, r1, rs, q, fun m1 h1 x v ex1 r2 rx q1 =>
    ⟨m1, h1, s, _, XL, rfl, r2, rs.mono ex1, q1, fun m2 h2 y u ex2 r3 ry q2 => ⟨m2, h2, x, y, QL, rfl, r3, rx.mono ex2, ry, q2, c.mono (ex1.trans ex2)⟩, ce.mono ex1⟩, ce⟩
end

/-! ### o[i] = v -/
abbrev LSet := LV → LV → LV → LH → (LH → Prop) → Prop
def setO (n : Nm) (k : Nat) (i v : LV) (h : LH) (Q : LH → Prop) : Option (Nat × LO) → Prop
  | some (k', .lst xs) => k' = k ∧ match i with
    | .int z => optM (ixN xs.length z) fun j => Q (h.set n k (.lst (xs.set j v)))
    | _ => False
  | some (k', .dK kvs) => k' = k ∧ optM (keyOf i) fun z => kvs.length < sizeLine ∧ Q (h.set n k (.dK (putK kvs z v)))
  | some (k', .dT kvs) => k' = k ∧ optM (keysOf i) fun z => kvs.length < sizeLine ∧ Q (h.set n k (.dT (putK kvs z v)))
  | _ => False
def lSet : LSet
  | .loc n k, i, v, h, Q => setO n k i v h Q (h n)
  | _, _, _, _, _ => False
def CH (K : PySem.W.Frag) (m : Lay) (QL : LH → Prop) (Q : Hp → Prop) : Prop := ∀ m' h', Ext m m' → R K m' h' → QL h' → Q m'.H
def upSet (K : PySem.W.Frag) (l : LSet) : TSet := fun o i v H Q => ∃ m h a b c QL, m.H = H ∧ R K m h ∧ VRel K m a o ∧ VRel K m b i ∧ VRel K m c v ∧ l a b c h QL ∧ CH K m QL Q
theorem PSet.weak {X : Cx} {r r' : TSet} (h : PSet X r) (i : ∀ x y z H Q, r' x y z H Q → r x y z H Q) : PSet X r' :=
  fun pins s σ H o i' v ov iv u Q I r1 r2 r3 q => h pins s σ H o i' v ov iv u Q I r1 r2 r3 (i _ _ _ _ _ q)
theorem PSet.or {X : Cx} {r r' : TSet} (h : PSet X r) (h' : PSet X r') : PSet X (fun x y z H Q => r x y z H Q ∨ r' x y z H Q) :=
  fun pins s σ H o i' v ov iv u Q I r1 r2 r3 q => q.elim (h pins s σ H o i' v ov iv u Q I r1 r2 r3) (h' pins s σ H o i' v ov iv u Q I r1 r2 r3)
section
variable {X : Cx}
theorem set_dict (hu : X.A.units + 1 < cLine) : PSet X (fun o i v H Q => ∃ a H', o = .ref a ∧ DPut H a i v H' ∧ Q H') := by
  intro pins s σ H o i v ov iv u Q I ro ri rv h
  obtain ⟨a, H', rfl, g, q⟩ := h
  cases ro
  exact d_setItem hu I g ri rv fun s' I' => ⟨H', I', q⟩
theorem li_set (hu : X.A.units + 1 < cLine) : PSet X (upSet X.K lSet) := PSet.weak (PSet.or set_list (set_dict hu)) fun x y z H Q hq => by
  obtain ⟨m, h, a, b, cv, QL, e1, r, ra, rb, rc, q, c⟩ := hq
  subst e1
  cases a with
  | loc n k =>
    obtain ⟨p, e2, e3⟩ := ra
    simp only [lSet] at q
    unfold setO at q
    split at q
    · rename_i v' xs hn
      obtain ⟨rfl, q⟩ := q
      cases b <;> try exact q.elim
      cases (show y = _ from rb)
      obtain ⟨j, hj, q⟩ := optM.of q
      obtain ⟨vs, e5, q1⟩ := r.lst hn e3
      obtain ⟨ex, r2⟩ := r.write hn e3 (o' := .lst (xs.set j cv)) ⟨_, rfl, q1.set rc j⟩
      exact .inl ⟨p, vs, _, j, e2, rfl, e5, by rw [q1.length]; exact hj, c _ _ ex r2 q⟩
    · rename_i v' kvs hn
      obtain ⟨rfl, q⟩ := q
      obtain ⟨kz, hk, hl, q⟩ := optM.of q
      obtain ⟨vs, e5, q1⟩ := r.dK hn e3
      rw [keyOf.v hk rb]
      obtain ⟨ex, r2⟩ := r.write hn e3 (o' := .dK (putK kvs kz cv)) ⟨_, rfl, q1.putk rc⟩
      exact .inr ⟨p, _, e2, DPut.k e5 (by rw [q1.length]; exact hl), c _ _ ex r2 q⟩
    · rename_i v' kvs hn
      obtain ⟨rfl, q⟩ := q
      obtain ⟨kz, hk, hl, q⟩ := optM.of q
      obtain ⟨vs, e5, q1⟩ := r.dT hn e3
      obtain ⟨bb, rfl, eb⟩ := keysOf.v hk rb
      obtain ⟨ex, r2⟩ := r.write hn e3 (o' := .dT (putK kvs kz cv)) ⟨_, rfl, q1.putk rc⟩
      exact .inr ⟨p, _, e2, DPut.t e5 eb (by rw [q1.length]; exact hl), c _ _ ex r2 q⟩
    · exact q.elim
  | _ => exact q.elim
end

/-! ### built-in functions by values -/
/-- len -/
def lenO (h : LH) (Q : LQ) : Option (Nat × LO) → Nat → Prop
  | some (v', .lst ys), v => v' = v ∧ Q (.int ys.length) h
  | some (v', .dK ys), v => v' = v ∧ Q (.int ys.length) h
  | _, _ => False
def lLen : LRA
  | [.tup ys], h, Q => Q (.int ys.length) h
  | [.rol ns], h, Q => Q (.int ns.length) h
  | [.loc n v], h, Q => lenO h Q (h n) v
  | _, _, _ => False
def lInt : LRA
  | [.int i], h, Q => Q (.int i) h
  | [.bl b], h, Q => Q (.int (if b then 1 else 0)) h
  | _, _, _ => False
def lAbs : LRA
  | [.int i], h, Q => Q (.int (if i < 0 then -i else i)) h
  | _, _, _ => False
def lMax : LRA
  | [.int i, .int j], h, Q => Q (.int (max i j)) h
  | _, _, _ => False
def lMin : LRA
  | [.int i, .int j], h, Q => Q (.int (min i j)) h
  | _, _, _ => False
/-- list(..): a new list; tuple(..) -/
def listO (h : LH) (Q : LQ) : Option (Nat × LO) → Nat → Prop
  | some (v', .lst ys), v => v' = v ∧ Alloc h (.lst ys) Q
  | _, _ => False
def lList : LRA
  | [.tup ys], h, Q => Alloc h (.lst ys) Q
  | [.loc n v], h, Q => listO h Q (h n) v
  | _, _, _ => False
def tupO (h : LH) (Q : LQ) : Option (Nat × LO) → Nat → Prop
  | some (v', .lst ys), v => v' = v ∧ Q (.tup ys) h
  | _, _ => False
def lTuple : LRA
  | [.tup ys], h, Q => Q (.tup ys) h
  | [.loc n v], h, Q => tupO h Q (h n) v
  | _, _, _ => False
section
variable {X : Cx}
theorem VRels.one {K : PySem.W.Frag} {m : Lay} {x : LV} {vs : List V} (h : VRels K m [x] vs) : ∃ v, vs = [v] ∧ VRel K m x v := by
  obtain ⟨v, ws, e, q, t⟩ := h
  cases (show ws = [] from t)
  exact ⟨v, e, q⟩
theorem VRels.two {K : PySem.W.Frag} {m : Lay} {x y : LV} {vs : List V} (h : VRels K m [x, y] vs) : ∃ v w, vs = [v, w] ∧ VRel K m x v ∧ VRel K m y w := by
  obtain ⟨v, ws, e, q, t⟩ := h
  obtain ⟨w, e2, q2⟩ := VRels.one t
  subst e2
  exact ⟨v, w, e, q, q2⟩
theorem call_len_dict : CallR X (.builtin "len") (fun xs H Q => ∃ a kvs, xs = [.ref a] ∧ H a = some (.dK kvs) ∧ Q (.int kvs.length) H) := by
  intro pins s σ H xs us Q I r h
  obtain ⟨a, kvs, rfl, e, q⟩ := h
  obtain ⟨u, rfl, ru⟩ := vals1 r
  obtain rfl : u = Value.ref a := ru
  exact d_len I (.inl e) fun t s' I' => ⟨.int kvs.length, H, I', ⟨t, rfl⟩, q⟩
theorem li_len : CallR X (.builtin "len") (upRA X.K lLen) := CallR.weak (call_len_seq.or call_len_dict) fun x H Q hq => by
  obtain ⟨m, h, as, QL, e1, r, ra, q, c⟩ := hq
  subst e1
  unfold lLen at q
  split at q
  · rename_i ys
    obtain ⟨v, rfl, p, vs, rfl, e2, q1⟩ := ra.one
    exact .inl ⟨p, vs, rfl, .inr (SqT.of e2), by rw [q1.length]; exact c.int r q⟩
  · rename_i ns
    obtain ⟨v, rfl, p, rfl, e2⟩ := ra.one
    exact .inl ⟨p, _, rfl, .inl e2.sq, by rw [List.length_map]; exact c.int r q⟩
  · rename_i n v
    obtain ⟨w, rfl, p, rfl, e2⟩ := ra.one
    unfold lenO at q
    split at q
    · rename_i v' ys hn
      obtain ⟨rfl, q⟩ := q
      obtain ⟨vs, e3, q1⟩ := r.lst hn e2
      exact .inl ⟨p, vs, rfl, .inl (SqL.of e3), by rw [q1.length]; exact c.int r q⟩
    · rename_i v' ys hn
      obtain ⟨rfl, q⟩ := q
      obtain ⟨vs, e3, q1⟩ := r.dK hn e2
      exact .inr ⟨p, vs, rfl, e3, by rw [q1.length]; exact c.int r q⟩
    · exact q.elim
  · exact q.elim
theorem li_int : CallR X (.type "int") (upRA X.K lInt) := CallR.weak call_int1 fun x H Q hq => by
  obtain ⟨m, h, as, QL, e1, r, ra, q, c⟩ := hq
  subst e1
  unfold lInt at q
  split at q
  · obtain ⟨v, rfl, e⟩ := ra.one
    cases (show v = _ from e)
    exact .inl ⟨_, rfl, c.int r q⟩
  · obtain ⟨v, rfl, e⟩ := ra.one
    cases (show v = _ from e)
    exact .inr ⟨_, rfl, c.int r q⟩
  · exact q.elim
theorem li_abs : CallR X (.builtin "abs") (upRA X.K lAbs) := CallR.weak call_abs fun x H Q hq => by
  obtain ⟨m, h, as, QL, e1, r, ra, q, c⟩ := hq
  subst e1
  unfold lAbs at q
  split at q
  · obtain ⟨v, rfl, e⟩ := ra.one
    cases (show v = _ from e)
    exact ⟨_, rfl, c.int r q⟩
  · exact q.elim
theorem li_max (hc : X.calm = true) : CallR X (.builtin "max") (upRA X.K lMax) := CallR.weak (call_max2 hc) fun x H Q hq => by
  obtain ⟨m, h, as, QL, e1, r, ra, q, c⟩ := hq
  subst e1
  unfold lMax at q
  split at q
  · obtain ⟨v, w, rfl, e, e2⟩ := ra.two
    cases (show v = _ from e)
    cases (show w = _ from e2)
    refine ⟨_, _, rfl, ?_⟩
    rename_i i j
    rw [show (if j > i then j else i) = max i j by split <;> omega]
    exact c.int r q
  · exact q.elim
theorem li_min (hc : X.calm = true) : CallR X (.builtin "min") (upRA X.K lMin) := CallR.weak (call_min2 hc) fun x H Q hq => by
  obtain ⟨m, h, as, QL, e1, r, ra, q, c⟩ := hq
  subst e1
  unfold lMin at q
  split at q
  · obtain ⟨v, w, rfl, e, e2⟩ := ra.two
    cases (show v = _ from e)
    cases (show w = _ from e2)
    refine ⟨_, _, rfl, ?_⟩
    rename_i i j
    rw [show (if j < i then j else i) = min i j by split <;> omega]
    exact c.int r q
  · exact q.elim
theorem li_list : CallR X (.type "list") (upRA X.K lList) := CallR.weak call_list_of fun x H Q hq => by
  obtain ⟨m, h, as, QL, e1, r, ra, q, c⟩ := hq
  subst e1
  unfold lList at q
  split at q
  · rename_i ys
    obtain ⟨v, rfl, p, vs, rfl, e2, q1⟩ := ra.one
    exact ⟨p, vs, rfl, .inr (SqT.of e2), fun l hl => q.up r c hl fun m' ex => ⟨vs, rfl, q1.mono ex⟩⟩
  · rename_i n v
    obtain ⟨w, rfl, p, rfl, e2⟩ := ra.one
    unfold listO at q
    split at q
    · rename_i v' ys hn
      obtain ⟨rfl, q⟩ := q
      obtain ⟨vs, e3, q1⟩ := r.lst hn e2
      exact ⟨p, vs, rfl, .inl (SqL.of e3), fun l hl => q.up r c hl fun m' ex => ⟨vs, rfl, q1.mono ex⟩⟩
    · exact q.elim
  · exact q.elim
theorem li_tuple : CallR X (.type "tuple") (upRA X.K lTuple) := CallR.weak call_tuple_of fun x H Q hq => by
  obtain ⟨m, h, as, QL, e1, r, ra, q, c⟩ := hq
  subst e1
  unfold lTuple at q
  split at q
  · rename_i ys
    obtain ⟨v, rfl, p, vs, rfl, e2, q1⟩ := ra.one
    exact ⟨p, vs, rfl, .inr ⟨SqT.of e2, c.val r (x := .tup ys) ⟨p, vs, rfl, e2, q1⟩ q⟩⟩
  · rename_i n v
    obtain ⟨w, rfl, p, rfl, e2⟩ := ra.one
    unfold tupO at q
    split at q
    · rename_i v' ys hn
      obtain ⟨rfl, q⟩ := q
      obtain ⟨vs, e3, q1⟩ := r.lst hn e2
      refine ⟨p, vs, rfl, .inl ⟨SqL.of e3, fun l hl => ?_⟩⟩
      obtain ⟨ex2, r3⟩ := r.grown (ex_upd (o := .tup vs) hl)
      exact c ⟨m.l, upd m.H l (.tup vs)⟩ h (.tup ys) _ ex2 r3 ⟨l, vs, rfl, upd_same, q1.mono ex2⟩ q
    · exact q.elim
  · exact q.elim
end

/-! ### isinstance -/
/-- the name of a value's type; of an instance none -/
def tyOf (h : LH) : LV → Option String
  | .non => some "NoneType"
  | .bl _ => some "bool"
  | .int _ => some "int"
  | .str _ => some "str"
  | .tup _ => some "tuple"
  | .loc n v => match h n with
    | some (v', .lst _) => if v' = v then some "list" else none
    | some (v', .dK _) => if v' = v then some "dict" else none
    | some (v', .dT _) => if v' = v then some "dict" else none
    | _ => none
  | _ => none
def lIsi : LRA
  | [x, .ty n], h, Q => ∃ t b, tyOf h x = some t ∧ kitB t n = some b ∧ Q (.bl b) h
  | _, _, _ => False
section
variable {X : Cx}
theorem tyOf.of {K : PySem.W.Frag} {m : Lay} {h : LH} (r : R K m h) : ∀ {x : LV} {v : V} {t : String}, tyOf h x = some t → VRel K m x v → TyX K m.H v (.type t)
  | .non, v, t, e, rv => by cases (show v = _ from rv); cases e; exact .base .non
  | .bl b, v, t, e, rv => by cases (show v = _ from rv); cases e; exact .base (.bl b)
  | .int b, v, t, e, rv => by cases (show v = _ from rv); cases e; exact .base (.int b)
  | .str b, v, t, e, rv => by cases (show v = _ from rv); cases e; exact .base (.str b)
  | .tup b, v, t, e, ⟨p, vs, e1, e2, q1⟩ => by subst e1; cases e; exact .base (.tup e2)
  | .loc n k, v, t, e, ⟨p, e1, e2⟩ => by
    subst e1
    unfold tyOf at e
    simp only at e
    split at e
    · rename_i v' ys hn
      split at e
      · rename_i z; subst z; cases e
        obtain ⟨vs, e3, q1⟩ := r.lst hn e2
        exact .base (.lst e3)
      · cases e
    · rename_i v' ys hn
      split at e
      · rename_i z; subst z; cases e
        obtain ⟨vs, e3, q1⟩ := r.dK hn e2
        exact .base (.dK e3)
      · cases e
    · rename_i v' ys hn
      split at e
      · rename_i z; subst z; cases e
        obtain ⟨vs, e3, q1⟩ := r.dT hn e2
        exact .base (.dT e3)
      · cases e
    · cases e
  | .rol _, _, _, e, _ => by cases e
  | .ref _, _, _, e, _ => by cases e
  | .ty _, _, _, e, _ => by cases e
theorem li_isi : CallR X (.builtin "isinstance") (upRA X.K lIsi) := CallR.weak call_isi fun x H Q hq => by
  obtain ⟨m, h, as, QL, e1, r, ra, q, c⟩ := hq
  subst e1
  unfold lIsi at q
  split at q
  · obtain ⟨v, w, rfl, e, e2⟩ := ra.two
    cases (show w = _ from e2)
    obtain ⟨t, b, h1, h2, q⟩ := q
    exact ⟨v, _, .type t, _, b, rfl, .ty _, tyOf.of r h1 e, kit_ty h2, c.bl r q⟩
  · exact q.elim
end
end LL

namespace LL
open PySem L2

/-! ### methods of lists -/
def lAppend : LRM
  | .loc n v, [y], h, Q => ∃ ys, h n = some (v, .lst ys) ∧ ys.length < sizeLine ∧ Q .non (h.set n v (.lst (ys ++ [y])))
  | _, _, _, _ => False
def lExtend : LRM
  | .loc n v, [.loc n' v'], h, Q => ∃ ys zs, h n = some (v, .lst ys) ∧ h n' = some (v', .lst zs) ∧ ys.length + zs.length ≤ sizeLine ∧ Q .non (h.set n v (.lst (ys ++ zs)))
  | _, _, _, _ => False
def lPop : LRM
  | .loc n v, [], h, Q => ∃ ys y, h n = some (v, .lst ys) ∧ ys[ys.length - 1]? = some y ∧ Q y (h.set n v (.lst ys.dropLast))
  | _, _, _, _ => False
def lPopAt : LRM
  | .loc n v, [.int i], h, Q => ∃ ys k y, h n = some (v, .lst ys) ∧ -(2 ^ 63) ≤ i ∧ i < 2 ^ 63 ∧ seqIndex? i ys.length = some k ∧ ys[k]? = some y ∧ Q y (h.set n v (.lst (ys.eraseIdx k)))
  | _, _, _, _ => False
def lReverse : LRM
  | .loc n v, [], h, Q => ∃ ys, h n = some (v, .lst ys) ∧ Q .non (h.set n v (.lst ys.reverse))
  | _, _, _, _ => False
def lClear : LRM
  | .loc n v, [], h, Q => ∃ ys, h n = some (v, .lst ys) ∧ Q .non (h.set n v (.lst []))
  | _, _, _, _ => False
section
variable {X : Cx}
theorem VRels.dropLast {K : PySem.W.Frag} {m : Lay} {xs : List LV} {vs : List V} (h : VRels K m xs vs) : VRels K m xs.dropLast vs.dropLast := by
  rw [List.dropLast_eq_take, List.dropLast_eq_take, h.length]; exact h.take _
theorem lm_append : MtR X "list.append" (upRM X.K lAppend) := MtR.weak mt_append fun x xs H Q hq => by
  obtain ⟨m, h, a, as, QL, e1, r, ra, rs, q, c⟩ := hq
  subst e1
  unfold lAppend at q
  split at q
  · obtain ⟨p, e2, e3⟩ := ra
    obtain ⟨v, rfl, rv⟩ := rs.one
    obtain ⟨ys, hn, hl, q⟩ := q
    obtain ⟨vs, e5, q1⟩ := r.lst hn e3
    obtain ⟨ex, r2⟩ := r.write hn e3 (o' := .lst _) ⟨_, rfl, q1.append (.cons rv .nil)⟩
    exact ⟨p, vs, v, e2, rfl, e5, by rw [q1.length]; exact hl, c _ _ .non _ ex r2 rfl q⟩
  · exact q.elim
theorem lm_extend : MtR X "list.extend" (upRM X.K lExtend) := MtR.weak mt_extend fun x xs H Q hq => by
  obtain ⟨m, h, a, as, QL, e1, r, ra, rs, q, c⟩ := hq
  subst e1
  unfold lExtend at q
  split at q
  · obtain ⟨p, e2, e3⟩ := ra
    obtain ⟨v, rfl, p', e4, e6⟩ := rs.one
    subst e4
    obtain ⟨ys, zs, hn, hn', hl, q⟩ := q
    obtain ⟨vs, e5, q1⟩ := r.lst hn e3
    obtain ⟨ws, e7, q2⟩ := r.lst hn' e6
    obtain ⟨ex, r2⟩ := r.write hn e3 (o' := .lst _) ⟨_, rfl, q1.append q2⟩
    exact ⟨p, p', vs, ws, e2, rfl, e5, e7, by rw [q1.length, q2.length]; exact hl, c _ _ .non _ ex r2 rfl q⟩
  · exact q.elim
theorem lm_pop : MtR X "list.pop" (upRM X.K lPop) := MtR.weak mt_pop fun x xs H Q hq => by
  obtain ⟨m, h, a, as, QL, e1, r, ra, rs, q, c⟩ := hq
  subst e1
  unfold lPop at q
  split at q
  · obtain ⟨p, e2, e3⟩ := ra
    cases (show xs = [] from rs)
    obtain ⟨ys, y, hn, hl, q⟩ := q
    obtain ⟨vs, e5, q1⟩ := r.lst hn e3
    obtain ⟨w, hw, rw'⟩ := q1.get hl
    obtain ⟨ex, r2⟩ := r.write hn e3 (o' := .lst _) ⟨_, rfl, q1.dropLast⟩
    exact ⟨p, vs, w, e2, rfl, e5, by rw [q1.length]; exact hw, c _ _ y _ ex r2 (rw'.mono ex) q⟩
  · exact q.elim
theorem lm_popAt : MtR X "list.pop" (upRM X.K lPopAt) := MtR.weak mt_popAt fun x xs H Q hq => by
  obtain ⟨m, h, a, as, QL, e1, r, ra, rs, q, c⟩ := hq
  subst e1
  unfold lPopAt at q
  split at q
  · obtain ⟨p, e2, e3⟩ := ra
    obtain ⟨v, rfl, rv⟩ := rs.one
    cases (show v = _ from rv)
    obtain ⟨ys, k, y, hn, h1, h2, h3, hl, q⟩ := q
    obtain ⟨vs, e5, q1⟩ := r.lst hn e3
    obtain ⟨w, hw, rw'⟩ := q1.get hl
    obtain ⟨ex, r2⟩ := r.write hn e3 (o' := .lst _) ⟨_, rfl, q1.eraseIdx k⟩
    exact ⟨p, vs, _, k, w, e2, rfl, e5, h1, h2, by rw [q1.length]; exact h3, hw, c _ _ y _ ex r2 (rw'.mono ex) q⟩
  · exact q.elim
theorem lm_reverse : MtR X "list.reverse" (upRM X.K lReverse) := MtR.weak mt_reverse fun x xs H Q hq => by
  obtain ⟨m, h, a, as, QL, e1, r, ra, rs, q, c⟩ := hq
  subst e1
  unfold lReverse at q
  split at q
  · obtain ⟨p, e2, e3⟩ := ra
    cases (show xs = [] from rs)
    obtain ⟨ys, hn, q⟩ := q
    obtain ⟨vs, e5, q1⟩ := r.lst hn e3
    obtain ⟨ex, r2⟩ := r.write hn e3 (o' := .lst _) ⟨_, rfl, q1.reverse⟩
    exact ⟨p, vs, e2, rfl, e5, c _ _ .non _ ex r2 rfl q⟩
  · exact q.elim
theorem lm_clear : MtR X "list.clear" (upRM X.K lClear) := MtR.weak mt_clear fun x xs H Q hq => by
  obtain ⟨m, h, a, as, QL, e1, r, ra, rs, q, c⟩ := hq
  subst e1
  unfold lClear at q
  split at q
  · obtain ⟨p, e2, e3⟩ := ra
    cases (show xs = [] from rs)
    obtain ⟨ys, hn, q⟩ := q
    obtain ⟨vs, e5, q1⟩ := r.lst hn e3
    obtain ⟨ex, r2⟩ := r.write hn e3 (o' := .lst []) ⟨_, rfl, .nil⟩
    exact ⟨p, vs, e2, rfl, e5, c _ _ .non _ ex r2 rfl q⟩
  · exact q.elim
end
/-- what kind of object stands there -/
inductive Kd where | lst | dct | ins (C : Addr) (fs : List (Str × LV)) | oth
def kdO : Option (Nat × LO) → Nat → Kd
  | some (v', .lst _), v => if v' = v then .lst else .oth
  | some (v', .dK _), v => if v' = v then .dct else .oth
  | some (v', .dT _), v => if v' = v then .dct else .oth
  | some (v', .ins C fs), v => if v' = v then .ins C fs else .oth
  | _, _ => .oth
def kd : LH → LV → Kd
  | h, .loc n v => kdO (h n) v
  | _, _ => .oth
section
variable {K : PySem.W.Frag} {m : Lay} {h : LH}
theorem kd.lst (r : R K m h) {x : LV} {v : V} (e : kd h x = .lst) (rv : VRel K m x v) : tyV K "list" v m.H := by
  unfold kd at e
  split at e
  · rename_i n k
    obtain ⟨p, e1, e2⟩ := rv
    subst e1
    unfold kdO at e
    split at e
    · rename_i v' ys hn
      split at e
      · rename_i z; subst z
        obtain ⟨vs, e5, q1⟩ := r.lst hn e2
        exact .inl ⟨rfl, vs, SqL.of e5⟩
      · cases e
    · split at e <;> cases e
    · split at e <;> cases e
    · split at e <;> cases e
    · cases e
  · cases e
theorem kd.dct (r : R K m h) {x : LV} {v : V} (e : kd h x = .dct) (rv : VRel K m x v) : tyV K "dict" v m.H := by
  unfold kd at e
  split at e
  · rename_i n k
    obtain ⟨p, e1, e2⟩ := rv
    subst e1
    unfold kdO at e
    split at e
    · split at e <;> cases e
    · rename_i v' ys hn
      split at e
      · rename_i z; subst z
        obtain ⟨vs, e5, q1⟩ := r.dK hn e2
        exact .inr (.inr (.inl ⟨rfl, .inl ⟨vs, e5⟩⟩))
      · cases e
    · rename_i v' ys hn
      split at e
      · rename_i z; subst z
        obtain ⟨vs, e5, q1⟩ := r.dT hn e2
        exact .inr (.inr (.inl ⟨rfl, .inr ⟨vs, e5⟩⟩))
      · cases e
    · split at e <;> cases e
    · cases e
  · cases e
theorem kd.ins {x : LV} {C : Addr} {fs : List (Str × LV)} (e : kd h x = .ins C fs) : InsAt h x C fs := by
  unfold kd at e
  split at e
  · rename_i n k
    unfold kdO at e
    split at e
    · split at e <;> cases e
    · split at e <;> cases e
    · split at e <;> cases e
    · rename_i v' C' fs' hn
      split at e
      · rename_i z; subst z; cases e; exact hn
      · cases e
    · cases e
  · cases e
end
/-- a method of a built-in type -/
structure BM (X : Cx) (T : String) (name : Str) (r : LRM) : Prop where
  ex : ∃ id, PlainAttrs T ∧ Slot T name id ∧ typeOf (.builtin id) = pure (.type "method_descriptor") ∧ MtR X id (upRM X.K r)
/-- o.m(..): of a list, of a dict, of an instance -/
def wMeth (G : Glob) (mt : Str) (im : Bool) (rl rd : Option LRM) (ta : LTE) (tas : LTA) : LTE := fun s h Q X => ta s h (fun x h1 => match kd h1 x with
  | .lst => match rl with
    | some r => tas s h1 (fun xs h2 => r x xs h2 Q) X
    | none => False
  | .dct => match rd with
    | some r => tas s h1 (fun xs h2 => r x xs h2 Q) X
    | none => False
  | .ins C fs => im = true ∧ ∃ sp, G.meth C mt = some sp ∧ fs.lookup mt = none ∧ tas s h1 (fun xs h2 => sp (x :: xs) h2 Q X) X
  | .oth => False) X
section
variable {X : Cx} {W : WX} {G : Glob} {T : Tab} {k : Nat} {e o : Expr} {es : List Expr} {pos apos : Pos} {ta : LTE} {tas : LTA} {mt : Str} {rl rd : Option LRM} {im : Bool} {pl : Sem Bool}
theorem le_mth (tk : Takes X W) (g : GOk G T k X.prog X.w X.K X.mg X.base) (hr : Room k X.A) (hl : ∀ r, rl = some r → BM X "list" mt r) (hd : ∀ r, rd = some r → BM X "dict" mt r)
    {n : Nat} (hi : im = true → ∃ lv, T.meth mt = some (lv, n) ∧ lv ≤ k) (ho : PE X o (upE X.K W ta)) (ha : PA X (e :: es) (upA X.K W n tas))
    (he : starEach (e :: es) X.env = (false, eval e X.env) :: starEach es X.env) (hpl : (backTo pos (starEach es X.env)).any (·.1) = false)
    (hev : eval (.Call (.Attribute o mt apos) (e :: es) [] pos) X.env = (do
      let ov ← eval o X.env
      standAt apos.atName
      let (f, first) ← holding [ov] (getMethod ov mt pl)
      callWith pos f first (backTo pos (starEach (e :: es) X.env)) (backToKw pos (keywordEach [] X.env)))) : PE X (.Call (.Attribute o mt apos) (e :: es) [] pos) (upE X.K W (wMeth G mt im rl rd ta tas)) := by
  refine ⟨fun pins s σ H Q I hq => ?_⟩
  obtain ⟨m, h, ls, QL, XL, e1, r1, rs, q, c, ce⟩ := hq
  refine PySem.W.methodCall_KW (pl := pl) (thn (ho.run pins s σ H (Mid X.K m _) I ⟨m, h, ls, _, XL, e1, r1, rs, q, fun m1 h1 x v ex1 r2 rx q1 => ⟨m1, h1, x, rfl, ex1, r2, rx, q1⟩, ce⟩) fun u s1 ⟨v, H1, I1, ru, m1, h1, x, e2, ex1, r2, rx, q1⟩ => ?_) hev
  subst e2
  have bm : ∀ (T : String) (r : LRM), BM X T mt r → tyV X.K T v m1.H → tas ls h1 (fun xs h2 => r x xs h2 QL) XL →
      wpAny (model X.prog X.w) X.A (getMethod u mt pl) (fun fx s₂ => wpAny (model X.prog X.w) X.A (callWith pos fx.1 fx.2 (backTo pos (starEach (e :: es) X.env)) (backToKw pos (keywordEach [] X.env))) (EP X pins σ Q) X.xe s₂) X.xe s1 := by
    rintro T r ⟨id, pa, sl, hty, M⟩ ty q2
    obtain ⟨z1, z2⟩ := tyV_is I1 ru ty
    refine getMethod_builtin z1 pa sl hty z2 ?_
    have hA := ha.run pos pins s1 σ m1.H (fun vs H2 => upRM X.K r v vs H2 Q) I1 ⟨m1, h1, ls, _, XL, rfl, r2, rs.mono ex1, q2, fun m2 h2 xs vs ex2 r3 rxs _ q3 => ⟨m2, h2, x, xs, QL, rfl, r3, rx.mono ex2, rxs, q3, c.mono (ex1.trans ex2)⟩, ce.mono ex1⟩
    rw [he] at hA ⊢
    refine Calls.callWith_builtin (by show (false || (backTo pos (starEach es X.env)).any (·.1)) = false; rw [hpl] <;> rfl) (Calls.evalArgs_plain ?_)
    exact thn hA fun us s2 ⟨vs, H2, I2, r, q2⟩ => M pins s2 σ H2 v vs u us Q I2 ru r q2
  simp only at q1
  split at q1
  · rename_i hk
    split at q1
    · exact bm _ _ (hl _ rfl) (kd.lst r2 hk rx) q1
    · exact q1.elim
  · rename_i hk
    split at q1
    · exact bm _ _ (hd _ rfl) (kd.dct r2 hk rx) q1
    · exact q1.elim
  · rename_i C fs hk
    obtain ⟨him, sp, gm, hno, q1⟩ := q1
    obtain ⟨lv, ht, hlv⟩ := hi him
    obtain ⟨p, dx, vs, rfl, hH, kv⟩ := (kd.ins hk).ins r2 rx
    obtain rfl : u = Value.ref p := ru
    obtain ⟨f, cl, M, fd, ps, F, B⟩ := g.meth C mt sp lv n gm ht hlv
    refine getmeth_ok I1 hH cl M (kv.lnone hno) ?_
    refine PySem.W.callWith_K (first := [.ref p]) (h₀ := X.base) I.ok.mod.kin M.kp (thn (ha.run pos pins s1 σ m1.H (fun vs H2 => liftSp X.K (n + 1) sp (.ref p :: vs) H2 Q (WE W σ)) I1 ⟨m1, h1, ls, _, XL, rfl, r2, rs.mono ex1, q1, fun m2 h2 xs vs ex2 r3 rxs hn q2 =>
      lift_of r3 (.cons (rx.mono ex2) rxs) (by rw [List.length_cons, hn]) q2 (c.mono (ex1.trans ex2)) (ce.mono (ex1.trans ex2)), ce.mono ex1⟩) fun us s2 ⟨vs, H2, I2, r, q2⟩ => ⟨I2.kIn, ?_⟩) he hpl
    exact run_fnS (us := .ref p :: us) (vs := .ref p :: vs) F (hr.mono hlv) B (passAt tk σ) I2 (.cons rfl r) q2
  · exact q1.elim
theorem le_mth0 (tk : Takes X W) (g : GOk G T k X.prog X.w X.K X.mg X.base) (hr : Room k X.A) (hl : ∀ r, rl = some r → BM X "list" mt r) (hd : ∀ r, rd = some r → BM X "dict" mt r)
    (hi : im = true → ∃ lv, T.meth mt = some (lv, 0) ∧ lv ≤ k) (ho : PE X o (upE X.K W ta))
    (hev : eval (.Call (.Attribute o mt apos) [] [] pos) X.env = (do
      let ov ← eval o X.env
      standAt apos.atName
      let (f, first) ← holding [ov] (getMethod ov mt pl)
      callWith pos f first (backTo pos (starEach [] X.env)) (backToKw pos (keywordEach [] X.env)))) : PE X (.Call (.Attribute o mt apos) [] [] pos) (upE X.K W (wMeth G mt im rl rd ta wNil)) := by
  refine ⟨fun pins s σ H Q I hq => ?_⟩
  obtain ⟨m, h, ls, QL, XL, e1, r1, rs, q, c, ce⟩ := hq
  refine PySem.W.methodCall_KW (pl := pl) (thn (ho.run pins s σ H (Mid X.K m _) I ⟨m, h, ls, _, XL, e1, r1, rs, q, fun m1 h1 x v ex1 r2 rx q1 => ⟨m1, h1, x, rfl, ex1, r2, rx, q1⟩, ce⟩) fun u s1 ⟨v, H1, I1, ru, m1, h1, x, e2, ex1, r2, rx, q1⟩ => ?_) hev
  subst e2
  have bm : ∀ (T : String) (r : LRM), BM X T mt r → tyV X.K T v m1.H → r x [] h1 QL →
      wpAny (model X.prog X.w) X.A (getMethod u mt pl) (fun fx s₂ => wpAny (model X.prog X.w) X.A (callWith pos fx.1 fx.2 (backTo pos (starEach [] X.env)) (backToKw pos (keywordEach [] X.env))) (EP X pins σ Q) X.xe s₂) X.xe s1 := by
    rintro T r ⟨id, pa, sl, hty, M⟩ ty q2
    obtain ⟨z1, z2⟩ := tyV_is I1 ru ty
    refine getMethod_builtin z1 pa sl hty z2 ?_
    exact Calls.callWith_builtin rfl (PySem.evalArgs_none (M pins s1 σ m1.H v [] u [] Q I1 ru .nil ⟨m1, h1, x, [], QL, rfl, r2, rx, rfl, q2, c.mono ex1⟩))
  simp only at q1
  split at q1
  · rename_i hk
    split at q1
    · exact bm _ _ (hl _ rfl) (kd.lst r2 hk rx) q1
    · exact q1.elim
  · rename_i hk
    split at q1
    · exact bm _ _ (hd _ rfl) (kd.dct r2 hk rx) q1
    · exact q1.elim
  · rename_i C fs hk
    obtain ⟨him, sp, gm, hno, q1⟩ := q1
    obtain ⟨lv, ht, hlv⟩ := hi him
    obtain ⟨p, dx, vs, rfl, hH, kv⟩ := (kd.ins hk).ins r2 rx
    obtain rfl : u = Value.ref p := ru
    obtain ⟨f, cl, M, fd, ps, F, B⟩ := g.meth C mt sp lv 0 gm ht hlv
    refine getmeth_ok I1 hH cl M (kv.lnone hno) ?_
    exact PySem.W.callWith_K0 (first := [.ref p]) I1.kIn M.kp (run_fnS (us := [.ref p]) (vs := [.ref p]) F (hr.mono hlv) B (passAt tk σ) I1 (.cons rfl .nil) (lift_of r2 (.cons rx .nil) rfl q1 (c.mono ex1) (ce.mono ex1)))
  · exact q1.elim
/-- how a method's call is run -/
theorem hev_of {env : Env} {args : List Expr} (hb : attributeBase o mt env (eval o env) = eval o env) (hf : methodCallForm (args.length + 0) (backTo pos (starEach args env)) (backToKw pos (keywordEach [] env)) = true) (hl : (apos.endLine == pos.line) = true) :
    eval (.Call (.Attribute o mt apos) args [] pos) env = (do
      let ov ← eval o env
      standAt apos.atName
      let (f, first) ← holding [ov] (getMethod ov mt (do return (← importBound o env).getD true))
      callWith pos f first (backTo pos (starEach args env)) (backToKw pos (keywordEach [] env))) := by
  have hp : methodCallPos true o env apos pos = pure pos := by unfold methodCallPos; simp [hl]
  rw [PySem.arm_eval_Call, hb]
  show (eval o env >>= fun ov => standAt apos.atName >>= fun _ => methodCall o mt apos pos env ov (args.length + 0) (backTo pos (starEach args env)) (backToKw pos (keywordEach [] env))) = _
  unfold methodCall
  rw [hf, hp]
  rfl
end
end LL

namespace LL
open PySem L2

/-! ### statements -/
abbrev LXS := Addr → LSt → LH → Prop
structure LEnds where
  nx : LSt → LH → Prop
  rt : LV → LH → Prop
  bk : LSt → LH → Prop := fun _ _ => False
  ct : LSt → LH → Prop := fun _ _ => False
  xc : LXS := fun _ _ _ => False
abbrev LTS := LEnds → LSt → LH → Prop
section
variable (K : PySem.W.Frag) (m : Lay)
def CS (QL : LSt → LH → Prop) (Q : St → Hp → Prop) : Prop := ∀ m' h' s σ, Ext m m' → R K m' h' → SRel K m' s σ → QL s h' → Q σ m'.H
def CXS (XL : LXS) (W : WX) : Prop := ∀ m' h' s σ c, Ext m m' → R K m' h' → SRel K m' s σ → XL c s h' → W (.ref c) none σ m'.H
structure EC (W : WX) (DL : LEnds) (D : Ends) : Prop where
  nx : CS K m DL.nx D.nx
  rt : CQ K m DL.rt D.rt
  bk : CS K m DL.bk D.bk
  ct : CS K m DL.ct D.ct
  xc : CXS K m DL.xc W
end
def upS (K : PySem.W.Frag) (W : WX) (t : LTS) : TS := fun D σ H => ∃ m h s DL, m.H = H ∧ R K m h ∧ SRel K m s σ ∧ t DL s h ∧ EC K m W DL D
section
variable {K : PySem.W.Frag} {m m' : Lay} {W : WX}
theorem CS.mono {QL : LSt → LH → Prop} {Q : St → Hp → Prop} (c : CS K m QL Q) (e : Ext m m') : CS K m' QL Q := fun m2 h2 s σ e2 => c m2 h2 s σ (e.trans e2)
theorem CXS.mono {XL : LXS} (c : CXS K m XL W) (e : Ext m m') : CXS K m' XL W := fun m2 h2 s σ x e2 => c m2 h2 s σ x (e.trans e2)
theorem EC.mono {DL : LEnds} {D : Ends} (c : EC K m W DL D) (e : Ext m m') : EC K m' W DL D := ⟨c.nx.mono e, c.rt.mono e, c.bk.mono e, c.ct.mono e, c.xc.mono e⟩
theorem CXS.at {XL : LXS} (c : CXS K m XL W) {s : LSt} {σ : St} (rs : SRel K m s σ) : CE K m (fun x h => XL x s h) (WE W σ) := fun m2 h2 x e2 r2 q => c m2 h2 s σ x e2 r2 (rs.mono e2) q
end

def wSkip : LTS := fun D s h => D.nx s h
def wSeq (t u : LTS) : LTS := fun D s h => t { D with nx := u D } s h
def wDrop (te : LTE) : LTS := fun D s h => te s h (fun _ h1 => D.nx s h1) fun c h1 => D.xc c s h1
def wRet (te : LTE) : LTS := fun D s h => te s h D.rt fun c h1 => D.xc c s h1
def wRetN : LTS := fun D _ h => D.rt .non h
def wBrk : LTS := fun D s h => D.bk s h
def wCnt : LTS := fun D s h => D.ct s h
def wIfS (c : LTT) (t u : LTS) : LTS := fun D s h => c s h (fun b h1 => if b = true then t D s h1 else u D s h1) fun c h1 => D.xc c s h1
abbrev LTG := LV → LSt → LH → (LSt → LH → Prop) → LXS → Prop
abbrev LTGs := List LV → LSt → LH → (LSt → LH → Prop) → LXS → Prop
def vName (i : Nat) : LTG := fun x s h Q _ => Q (s.set i (some x)) h
def vNil : LTGs := fun xs s h Q _ => xs = [] ∧ Q s h
def vCons (g : LTG) (r : LTGs) : LTGs := fun xs s h Q X => match xs with
  | x :: ys => g x s h (fun s1 h1 => r ys s1 h1 Q X) X
  | [] => False
def vTup (n : Nat) (g : LTGs) : LTG := fun x s h Q X => match x with
  | .tup xs => xs.length = n ∧ g xs s h Q X
  | _ => False
def vSub (to ti : LTE) : LTG := fun x s h Q X => to s h (fun o h1 => ti s h1 (fun i h2 => lSet o i x h2 fun h3 => Q s h3) fun c h2 => X c s h2) fun c h1 => X c s h1
def wAsg (te : LTE) (g : LTG) : LTS := fun D s h => te s h (fun x h1 => g x s h1 D.nx D.xc) fun c h1 => D.xc c s h1
def addI : LV → LV → (LV → Prop) → Prop
  | .int i, .int j, Q => Q (.int (i + j))
  | _, _, _ => False
/-- o.f = value -/
def setF : LV → Addr → Str → List (Str × LV) → LV → LH → (LH → Prop) → Prop
  | .loc n v, C, f, fs, y, h, Q => fs.length < 1000 ∧ Q (h.set n v (.ins C (putL f y fs)))
  | _, _, _, _, _, _, _ => False
def wFldS (G : Glob) (f : Str) (ta tv : LTE) : LTS := fun D s h => tv s h (fun y h1 => ta s h1 (fun x h2 => InsM h2 x fun C fs => G.attr C f = true ∧ setF x C f fs y h2 fun h3 => D.nx s h3) fun c h2 => D.xc c s h2) fun c h1 => D.xc c s h1
/-- o.f += value -/
def wFldA (G : Glob) (f : Str) (ta tv : LTE) : LTS := fun D s h => ta s h (fun x h1 => InsM h1 x fun C fs => G.attr C f = true ∧ optM (fs.lookup f) fun z =>
  tv s h1 (fun y h2 => InsM h2 x fun C' fs' => C' = C ∧ addI z y fun u => setF x C f fs' u h2 fun h4 => D.nx s h4) fun c h2 => D.xc c s h2) fun c h1 => D.xc c s h1
/-- up to what is forgotten -/
def Fgt (P : LSt → LH → Prop) : LSt → LH → Prop := fun s h => ∃ s0 h0, LSt.le s0 s ∧ LH.le h0 h ∧ P s0 h0
theorem LSt.le_refl (s : LSt) : LSt.le s s := ⟨rfl, fun _ _ e => e⟩
theorem fgt {P : LSt → LH → Prop} {s : LSt} {h : LH} (p : P s h) : Fgt P s h := ⟨s, h, LSt.le_refl s, LH.le_refl h, p⟩
def wWhile (c : LTT) (tb : LTS) : LTS := fun D s h => ∃ Wl : Nat → LSt → LH → Prop, (∃ n, Wl n s h) ∧ ∀ n s h, Wl n s h → c s h (fun b h1 => if b = true then
  ∃ N : LSt → LH → Prop, (∀ s' h', N s' h' → ∃ n', n' < n ∧ Wl n' s' h') ∧ tb { D with nx := Fgt N, ct := Fgt N, bk := D.nx } s h1 else D.nx s h1) fun x h1 => D.xc x s h1

def upG (K : PySem.W.Frag) (W : WX) (g : LTG) : TG := fun v σ H Q => ∃ m h x s QL XL, m.H = H ∧ R K m h ∧ VRel K m x v ∧ SRel K m s σ ∧ g x s h QL XL ∧ CS K m QL Q ∧ CXS K m XL W
def upGs (K : PySem.W.Frag) (W : WX) (g : LTGs) : TGs := fun vs σ H Q => ∃ m h xs s QL XL, m.H = H ∧ R K m h ∧ VRels K m xs vs ∧ SRel K m s σ ∧ g xs s h QL XL ∧ CS K m QL Q ∧ CXS K m XL W
theorem _root_.L2.PG.weak {X : Cx} {e : Expr} {t t' : TG} (h : PG X e t) (i : ∀ v σ H Q, t' v σ H Q → t v σ H Q) : PG X e t' := ⟨fun pins s σ H v u Q I r q => h.run pins s σ H v u Q I r (i _ _ _ _ q)⟩
theorem _root_.L2.PGs.weak {X : Cx} {e : List Expr} {t t' : TGs} (h : PGs X e t) (i : ∀ v σ H Q, t' v σ H Q → t v σ H Q) : PGs X e t' := ⟨fun pins s σ H v u Q I r q => h.run pins s σ H v u Q I r (i _ _ _ _ q)⟩

section
variable {X : Cx} {W : WX} {G : Glob} {T : Tab} {k : Nat} {a b c e o i value : Expr} {es : List Expr} {pos pos' tpos : Pos} {ta tb te tv to ti : LTE} {t u : LTT} {tas : LTA} {st : Stmt} {sts body body' : List Stmt} {ls lr : LTS} {g : LTG} {gs : LTGs} {f : Str}
theorem ls_nil : PSs X [] (upS X.K W wSkip) := pss_nil.weak fun D σ H ⟨m, h, s, DL, e1, r1, rs, q, ec⟩ => by subst e1; exact ec.nx m h s σ (Ext.refl m) r1 rs q
theorem ls_cons (h1 : PS X st (upS X.K W ls)) (h2 : PSs X sts (upS X.K W lr)) : PSs X (st :: sts) (upS X.K W (wSeq ls lr)) :=
  (pss_cons h1 h2).weak fun D σ H ⟨m, h, s, DL, e1, r1, rs, q, ec⟩ => ⟨m, h, s, _, e1, r1, rs, q, ⟨fun m1 h1 s1 σ1 ex1 r2 rs1 q1 => ⟨m1, h1, s1, DL, rfl, r2, rs1, q1, ec.mono ex1⟩, ec.rt, ec.bk, ec.ct, ec.xc⟩⟩
theorem ls_pass : PS X (.Pass pos) (upS X.K W wSkip) := ps_pass.weak fun D σ H ⟨m, h, s, DL, e1, r1, rs, q, ec⟩ => by subst e1; exact ec.nx m h s σ (Ext.refl m) r1 rs q
theorem ls_brk : PS X (.Break pos) (upS X.K W wBrk) := ps_break.weak fun D σ H ⟨m, h, s, DL, e1, r1, rs, q, ec⟩ => by subst e1; exact ec.bk m h s σ (Ext.refl m) r1 rs q
theorem ls_cnt : PS X (.Continue pos) (upS X.K W wCnt) := ps_continue.weak fun D σ H ⟨m, h, s, DL, e1, r1, rs, q, ec⟩ => by subst e1; exact ec.ct m h s σ (Ext.refl m) r1 rs q
theorem ls_expr (he : PE X e (upE X.K W te)) (hs : swapsWith e none pos.line X.env = pure false) : PS X (.Expr e pos) (upS X.K W (wDrop te)) :=
  (ps_expr he hs).weak fun D σ H ⟨m, h, s, DL, e1, r1, rs, q, ec⟩ => ⟨m, h, s, _, _, e1, r1, rs, q, fun m1 h1 x v ex1 r2 rx q1 => ec.nx m1 h1 s σ ex1 r2 (rs.mono ex1) q1, ec.xc.at rs⟩
theorem ls_ret (he : PE X e (upE X.K W te)) : PS X (.Return (some e) pos) (upS X.K W (wRet te)) :=
  (ps_ret he).weak fun D σ H ⟨m, h, s, DL, e1, r1, rs, q, ec⟩ => ⟨m, h, s, _, _, e1, r1, rs, q, ec.rt, ec.xc.at rs⟩
theorem ls_retN : PS X (.Return none pos) (upS X.K W wRetN) := ps_retN.weak fun D σ H ⟨m, h, s, DL, e1, r1, rs, q, ec⟩ => by subst e1; exact ec.rt.non r1 q
theorem ls_if (hc : PT X c (upT X.K W t)) (ha : PSs X body (upS X.K W ls)) (hb : PSs X body' (upS X.K W lr)) : PS X (.If c body body' pos) (upS X.K W (wIfS t ls lr)) :=
  (ps_if hc ha hb).weak fun D σ H ⟨m, h, s, DL, e1, r1, rs, q, ec⟩ => ⟨m, h, s, _, _, e1, r1, rs, q, fun m1 h1 b ex1 r2 q1 => by
    cases b
    · rw [if_neg Bool.false_ne_true] at q1 ⊢; exact ⟨m1, h1, s, DL, rfl, r2, rs.mono ex1, q1, ec.mono ex1⟩
    · rw [if_pos rfl] at q1 ⊢; exact ⟨m1, h1, s, DL, rfl, r2, rs.mono ex1, q1, ec.mono ex1⟩, ec.xc.at rs⟩
theorem lg_name {j : Nat} {x : Str} (h : PG X (.Name x pos) (gName j)) : PG X (.Name x pos) (upG X.K W (vName j)) :=
  h.weak fun v σ H Q ⟨m, h, x, s, QL, XL, e1, r1, rx, rs, q, c, cx⟩ => by subst e1; exact c m h _ _ (Ext.refl m) r1 (rs.set rx j) q
theorem lgs_nil : PGs X [] (upGs X.K W vNil) := pgs_nil.weak fun v σ H Q ⟨m, h, xs, s, QL, XL, e1, r1, rx, rs, ⟨e2, q⟩, c, cx⟩ => by
  subst e1 e2; cases (show v = [] from rx); exact ⟨rfl, c m h _ _ (Ext.refl m) r1 rs q⟩
theorem lgs_cons {h : PG X e (upG X.K W g) → PGs X es (upGs X.K W gs) → PGs X (e :: es) (gCons (upG X.K W g) (upGs X.K W gs))} (h1 : PG X e (upG X.K W g)) (h2 : PGs X es (upGs X.K W gs)) : PGs X (e :: es) (upGs X.K W (vCons g gs)) :=
  (h h1 h2).weak fun v σ H Q ⟨m, h, xs, s, QL, XL, e1, r1, rx, rs, q, c, cx⟩ => by
    cases xs with
    | nil => exact q.elim
    | cons x ys =>
      obtain ⟨w, ws, rfl, q1, q2⟩ := rx
      exact ⟨w, ws, rfl, m, h, x, s, _, XL, e1, r1, q1, rs, q, fun m1 h1 s1 σ1 ex1 r2 rs1 q3 => ⟨m1, h1, ys, s1, QL, XL, rfl, r2, q2.mono ex1, rs1, q3, c.mono ex1, cx.mono ex1⟩, cx⟩
theorem lg_tup {n kk : Nat} (h : PG X (.Tuple es kk pos) (gTup X.K n (upGs X.K W gs))) : PG X (.Tuple es kk pos) (upG X.K W (vTup n gs)) :=
  h.weak fun v σ H Q ⟨m, h, x, s, QL, XL, e1, r1, rx, rs, q, c, cx⟩ => by
    cases x <;> try exact q.elim
    obtain ⟨a, vs, rfl, e2, q1⟩ := rx
    subst e1
    exact ⟨a, vs, rfl, SqT.of e2, by rw [q1.length]; exact q.1, m, h, _, s, QL, XL, rfl, r1, q1, rs, q.2, c, cx⟩
theorem lg_sub (hu : X.A.units + 1 < cLine) (ho : PE X o (upE X.K W to)) (hi : PE X i (upE X.K W ti)) (h : PE X o (upE X.K W to) → PE X i (upE X.K W ti) → PSet X (upSet X.K lSet) → PG X (.Subscript o i pos) (gSub (upE X.K W to) (upE X.K W ti) (upSet X.K lSet))) : PG X (.Subscript o i pos) (upG X.K W (vSub to ti)) :=
  (h ho hi (li_set hu)).weak fun v σ H Q ⟨m, h, x, s, QL, XL, e1, r1, rx, rs, q, c, cx⟩ => ⟨m, h, s, _, _, e1, r1, rs, q, fun m1 h1 y u ex1 r2 ry q1 =>
    ⟨m1, h1, s, _, _, rfl, r2, rs.mono ex1, q1, fun m2 h2 z w ex2 r3 rz q2 => ⟨m2, h2, y, z, x, _, rfl, r3, ry.mono ex2, rz, rx.mono (ex1.trans ex2), q2, fun m3 h3 ex3 r4 q3 =>
      c m3 h3 s σ (ex1.trans (ex2.trans ex3)) r4 (rs.mono (ex1.trans (ex2.trans ex3))) q3⟩, (cx.at rs).mono ex1⟩, cx.at rs⟩
theorem ls_asg {tg : Expr} (he : PE X e (upE X.K W te)) (hg : PG X tg (upG X.K W g)) (hs : swapsWithSole [tg] e pos.line X.env = pure false) (hw : swappedStores [tg] e X.env = pure none) (h1 : (assignEach [tg] X.env).map (·.2) = [assign tg X.env]) : PS X (.Assign [tg] e pos) (upS X.K W (wAsg te g)) :=
  (ps_asg he hg hs hw h1).weak fun D σ H ⟨m, h, s, DL, e1, r1, rs, q, ec⟩ => ⟨m, h, s, _, _, e1, r1, rs, q, fun m1 h1 x v ex1 r2 rx q1 => ⟨m1, h1, x, s, _, _, rfl, r2, rx, rs.mono ex1, q1, ec.nx.mono ex1, ec.xc.mono ex1⟩, ec.xc.at rs⟩
theorem setF.of {K : PySem.W.Frag} {m : Lay} {h : LH} {x y : LV} {v u : V} {C : Addr} {fs : List (Str × LV)} {Q : LH → Prop} (q : setF x C f fs y h Q) (hi : InsAt h x C fs) (r : R K m h) (rx : VRel K m x v) (ry : VRel K m y u) :
    ∃ a dx vs, v = .ref a ∧ m.H a = some (.ins C dx vs) ∧ vs.length < 1000 ∧ ∃ h', Ext m ⟨m.l, upd m.H a (.ins C dx (putF f u vs))⟩ ∧ R K ⟨m.l, upd m.H a (.ins C dx (putF f u vs))⟩ h' ∧ Q h' := by
  cases x <;> try exact q.elim
  obtain ⟨hl, q⟩ := q
  have hn : h _ = some (_, .ins C fs) := hi
  obtain ⟨a, rfl, e2⟩ := rx
  obtain ⟨dx, vs, e3, kv⟩ := r.ins hn e2
  obtain ⟨ex, r2⟩ := r.write hn e2 (o' := .ins C (putL f y fs)) ⟨dx, _, rfl, kv.put ry⟩
  exact ⟨a, dx, vs, rfl, e3, by rw [kv.length]; exact hl, _, ex, r2, q⟩
theorem ls_fld (gk : GOk G T k X.prog X.w X.K X.mg X.base) (ha : PE X o (upE X.K W ta)) (hv : PE X value (upE X.K W tv)) (hs : swapsWith value (some (.Attribute o f pos')) pos.line X.env = pure false) : PS X (.Assign [.Attribute o f pos'] value pos) (upS X.K W (wFldS G f ta tv)) :=
  (ps_fld ha hv hs).weak fun D σ H ⟨m, h, s, DL, e1, r1, rs, q, ec⟩ => ⟨m, h, s, _, _, e1, r1, rs, q, fun m1 h1 y v ex1 r2 ry q1 =>
    ⟨m1, h1, s, _, _, rfl, r2, rs.mono ex1, q1, fun m2 h2 x u ex2 r3 rx q2 => by
      obtain ⟨C, fs, hi, ga, q2⟩ := InsM.of q2
      obtain ⟨a, dx, vs, rfl, e3, hl, h3, ex3, r4, q3⟩ := q2.of hi r3 rx (ry.mono ex2)
      obtain ⟨cl, na⟩ := gk.attr _ _ ga
      have ex := ex1.trans (ex2.trans ex3)
      exact ⟨a, C, dx, vs, rfl, e3, cl, na, hl, ec.nx _ _ s σ ex r4 (rs.mono ex) q3⟩, (ec.xc.at rs).mono ex1⟩, ec.xc.at rs⟩
theorem ls_flda (gk : GOk G T k X.prog X.w X.K X.mg X.base) (ha : PE X o (upE X.K W ta)) (hv : PE X value (upE X.K W tv)) : PS X (.AugAssign (.Attribute o f tpos) .Add value pos) (upS X.K W (wFldA G f ta tv)) :=
  (ps_fldaug ha hv in_add).weak fun D σ H ⟨m, h, s, DL, e1, r1, rs, q, ec⟩ => ⟨m, h, s, _, _, e1, r1, rs, q, fun m1 h1 x v ex1 r2 rx q1 => by
    obtain ⟨C, fs, hi, ga, q1⟩ := InsM.of q1
    obtain ⟨z, hlk, q1⟩ := q1.of
    obtain ⟨a, dx, vs, rfl, e3, kv⟩ := hi.ins r2 rx
    obtain ⟨cl, na⟩ := gk.attr _ _ ga
    rcases kv.lookup f with ⟨z, _⟩ | ⟨y', w, z1, z2, rv⟩
    · rw [z] at hlk; cases hlk
    · rw [hlk] at z1; cases z1
      refine ⟨a, C, dx, vs, _, rfl, e3, cl, na, z2, m1, h1, s, _, _, rfl, r2, rs.mono ex1, q1, fun m2 h2 y u ex2 r3 ry q2 => ?_, (ec.xc.at rs).mono ex1⟩
      obtain ⟨C', fs', hi', rfl, q2⟩ := InsM.of q2
      have hz : ∃ i j, z = .int i ∧ y = .int j := by
        cases z <;> cases y <;> first | exact q2.elim | exact ⟨_, _, rfl, rfl⟩
      obtain ⟨i, j, rfl, rfl⟩ := hz
      cases (show w = _ from rv)
      cases (show u = _ from ry)
      obtain ⟨a', dx', vs', ea, e4, hl, h3, ex3, r4, q3⟩ := q2.of hi' r3 (rx.mono ex2) (show VRel X.K m2 (.int (i + j)) _ from rfl)
      cases ea
      have ex := ex1.trans (ex2.trans ex3)
      exact ⟨_, _, rfl, rfl, dx', vs', e4, hl, ec.nx _ _ s σ ex r4 (rs.mono ex) q3⟩, ec.xc.at rs⟩
end
end LL

namespace LL
open PySem L2

/-! ### loops -/
section
variable {X : Cx} {W : WX} {c : Expr} {body : List Stmt} {pos : Pos} {t : LTT} {tb : LTS}
theorem ls_while (hp : PassesOwn (model X.prog X.w) X.A X.env X.xe) (hc : PT X c (upT X.K W t)) (hb : PSs X body (upS X.K W tb)) : PS X (.While c body [] pos) (upS X.K W (wWhile t tb)) :=
  (ps_while hp hc hb).weak fun D σ H ⟨m, h, s, DL, e1, r1, rs, ⟨Wl, ⟨n0, w0⟩, turn⟩, ec⟩ => by
    refine ⟨fun n σ' H' => ∃ m1 h1 s1, m1.H = H' ∧ Ext m m1 ∧ R X.K m1 h1 ∧ SRel X.K m1 s1 σ' ∧ Wl n s1 h1, ⟨n0, m, h, s, e1, Ext.refl m, r1, rs, w0⟩, ?_⟩
    rintro n σ' H' ⟨m1, h1, s1, e2, ex1, r2, rs1, w1⟩
    refine ⟨m1, h1, s1, _, _, e2, r2, rs1, turn n s1 h1 w1, fun m2 h2 b ex2 r3 q => ?_, (ec.xc.mono ex1).at rs1⟩
    have ex := ex1.trans ex2
    cases b
    · rw [if_neg Bool.false_ne_true] at q; exact iteF (ec.nx m2 h2 s1 _ ex r3 (rs1.mono ex2) q)
    · rw [if_pos rfl] at q
      obtain ⟨N, hN, q⟩ := q
      refine iteT ⟨fun σ' H' => ∃ m', m' < n ∧ ∃ m1 h1 s1, m1.H = H' ∧ Ext m m1 ∧ R X.K m1 h1 ∧ SRel X.K m1 s1 σ' ∧ Wl m' s1 h1, fun σ' H' z => z, m2, h2, s1, _, rfl, r3, rs1.mono ex2, q, ?_⟩
      have again : CS X.K m2 (Fgt N) fun σ' H' => ∃ m', m' < n ∧ ∃ m1 h1 s1, m1.H = H' ∧ Ext m m1 ∧ R X.K m1 h1 ∧ SRel X.K m1 s1 σ' ∧ Wl m' s1 h1 :=
        fun m3 h3 s3 σ3 ex3 r4 rs3 ⟨s0, h0, ls, lh, z⟩ => let ⟨n', hn, w3⟩ := hN _ _ z; ⟨n', hn, m3, h0, s0, rfl, ex.trans ex3, r4.le lh, rs3.le ls, w3⟩
      exact ⟨again, ec.rt.mono ex, ec.nx.mono ex, again, ec.xc.mono ex⟩
end
/-- what comes at a turn: nothing any more, or a value -/
abbrev LIt := Nat → LH → Option (Option LV)
structure ItOk (K : PySem.W.Frag) (m0 : Lay) (J : It) (L : LIt) : Prop where
  go : ∀ m h i x, Ext m0 m → R K m h → L i h = some (some x) → J.go i m.H ∧ ∀ v H', J.yld i m.H v H' → ∃ m', m'.H = H' ∧ Ext m m' ∧ R K m' h ∧ VRel K m' x v
  stop : ∀ m h i, Ext m0 m → R K m h → L i h = some none → J.stop i m.H
abbrev LTI := LSt → LH → (LIt → LH → Prop) → LX → Prop
def upIt (K : PySem.W.Frag) (W : WX) (t : LTI) : TI := fun σ H Rr => ∃ m h s RL XL, m.H = H ∧ R K m h ∧ SRel K m s σ ∧ t s h RL XL ∧ (∀ m' h' L J, Ext m m' → R K m' h' → ItOk K m' J L → RL L h' → Rr J m'.H) ∧ CE K m XL (WE W σ)
theorem _root_.L2.PI.weak {X : Cx} {tg e : Expr} {t t' : TI} (h : PI X tg e t) (i : ∀ σ H Q, t' σ H Q → t σ H Q) : PI X tg e t' := ⟨fun pins s σ H Q I q => h.run pins s σ H Q I (i _ _ _ q)⟩
def wFor (ti : LTI) (g : LTG) (tb : LTS) : LTS := fun D s h => ti s h (fun L h1 => ∃ Wl : Nat → Nat → LSt → LH → Prop, (∃ n, Wl 0 n s h1) ∧ ∀ i n s h, Wl i n s h →
  (L i h = some none ∧ D.nx s h) ∨ ∃ x, L i h = some (some x) ∧ ∃ N : LSt → LH → Prop, (∀ s' h', N s' h' → ∃ n', n' < n ∧ Wl (i + 1) n' s' h') ∧ g x s h (fun s2 h2 => tb { D with nx := Fgt N, ct := Fgt N, bk := D.nx } s2 h2) D.xc) fun c h1 => D.xc c s h1
section
variable {X : Cx} {W : WX} {iter tg : Expr} {body : List Stmt} {pos : Pos} {ti : LTI} {g : LTG} {tb : LTS}
theorem ls_for (hp : PassesOwn (model X.prog X.w) X.A X.env X.xe) (hc : X.calm = true) (hi : PI X tg iter (upIt X.K W ti)) (hg : PG X tg (upG X.K W g)) (hb : PSs X body (upS X.K W tb)) (hs : ∀ x, foldedSetIterable iter X.env x = pure x) : PS X (.For tg iter body [] pos) (upS X.K W (wFor ti g tb)) :=
  (ps_for hp hc hi hg hb hs).weak fun D σ H ⟨m, h, s, DL, e1, r1, rs, q, ec⟩ => by
    refine ⟨m, h, s, _, _, e1, r1, rs, q, fun m1 h1 L J ex1 r2 ok q1 => ?_, ec.xc.at rs⟩
    obtain ⟨Wl, ⟨n0, w0⟩, turn⟩ := q1
    refine ⟨fun i n σ' H' => ∃ m2 h2 s2, m2.H = H' ∧ Ext m1 m2 ∧ R X.K m2 h2 ∧ SRel X.K m2 s2 σ' ∧ Wl i n s2 h2, ⟨n0, m1, h1, s, rfl, Ext.refl m1, r2, rs.mono ex1, w0⟩, ?_⟩
    rintro i n σ' H' ⟨m2, h2, s2, e2, ex2, r3, rs2, w2⟩
    subst e2
    rcases turn i n s2 h2 w2 with ⟨st, q2⟩ | ⟨x, gx, N, hN, q2⟩
    · exact .inl ⟨ok.stop m2 h2 i ex2 r3 st, ec.nx m2 h2 s2 _ (ex1.trans ex2) r3 rs2 q2⟩
    · obtain ⟨go, yl⟩ := ok.go m2 h2 i x ex2 r3 gx
      refine .inr ⟨go, fun σ' H' => ∃ n', n' < n ∧ ∃ m2 h2 s2, m2.H = H' ∧ Ext m1 m2 ∧ R X.K m2 h2 ∧ SRel X.K m2 s2 σ' ∧ Wl (i + 1) n' s2 h2, fun σ' H' z => z, fun v H3 y => ?_⟩
      obtain ⟨m3, e3, ex3, r4, rv⟩ := yl v H3 y
      subst e3
      have ex13 := ex2.trans ex3
      refine ⟨m3, h2, x, s2, _, _, rfl, r4, rv, rs2.mono ex3, q2, fun m4 h4 s4 σ4 ex4 r5 rs4 q4 => ⟨m4, h4, s4, _, rfl, r5, rs4, q4, ?_⟩, (ec.xc.mono (ex1.trans ex13))⟩
      have ex := ex13.trans ex4
      have again : CS X.K m4 (Fgt N) fun σ' H' => ∃ n', n' < n ∧ ∃ m2 h2 s2, m2.H = H' ∧ Ext m1 m2 ∧ R X.K m2 h2 ∧ SRel X.K m2 s2 σ' ∧ Wl (i + 1) n' s2 h2 :=
        fun m5 h5 s5 σ5 ex5 r6 rs5 ⟨s0, h0, ls, lh, z⟩ => let ⟨n', hn, w5⟩ := hN _ _ z; ⟨n', hn, m5, h0, s0, rfl, ex.trans ex5, r6.le lh, rs5.le ls, w5⟩
      exact ⟨again, ec.rt.mono (ex1.trans ex), ec.nx.mono (ex1.trans ex), again, ec.xc.mono (ex1.trans ex)⟩
end

/-! ### what is walked -/
def listIt (n : Nm) (v : Nat) : LIt := fun i h => match h n with
  | some (v', .lst xs) => if v' = v then some xs[i]? else none
  | _ => none
def valsIt (xs : List LV) : LIt := fun i _ => some xs[i]?
def rngIt (lo : Int) (n : Nat) : LIt := fun i _ => if i < n then some (some (.int (lo + i))) else some none
def lstO : Option (Nat × LO) → Nat → Prop → Prop
  | some (v', .lst _), v, P => v' = v ∧ P
  | _, _, _ => False
theorem lstO.of {o : Option (Nat × LO)} {v : Nat} {P : Prop} (q : lstO o v P) : (∃ xs, o = some (v, .lst xs)) ∧ P := by
  unfold lstO at q
  split at q
  · obtain ⟨rfl, q⟩ := q; exact ⟨⟨_, rfl⟩, q⟩
  · exact q.elim
def seqM : LV → LH → (LIt → LH → Prop) → Prop
  | .loc n v, h, RL => lstO (h n) v (RL (listIt n v) h)
  | .tup xs, h, RL => RL (valsIt xs) h
  | .rol ns, h, RL => RL (valsIt (ns.map LV.int)) h
  | _, _, _ => False
def rngM : List LV → LH → (LIt → LH → Prop) → Prop
  | [.int j], h, RL => (-(2 ^ 62) ≤ j ∧ j < 2 ^ 62) ∧ RL (rngIt 0 j.toNat) h
  | [.int i, .int j], h, RL => (-(2 ^ 62) ≤ i ∧ i < 2 ^ 62 ∧ -(2 ^ 62) ≤ j ∧ j < 2 ^ 62) ∧ RL (rngIt i (j - i).toNat) h
  | _, _, _ => False
def wSeqI (ta : LTE) : LTI := fun s h RL X => ta s h (fun x h1 => seqM x h1 RL) X
def wRng (tas : LTA) : LTI := fun s h RL X => tas s h (fun xs h1 => rngM xs h1 RL) X
section
variable {X : Cx} {W : WX} {a b iter tg : Expr} {ta : LTE} {tas : LTA} {p pos : Pos}
theorem rng_ok {K : PySem.W.Frag} {m0 : Lay} (lo : Int) (n : Nat) : ItOk K m0 (Itr lo n) (rngIt lo n) where
  go := fun m h i x _ r e => by
    unfold rngIt at e
    split at e
    · rename_i hi
      cases e
      exact ⟨hi, fun v H' ⟨e1, e2⟩ => ⟨m, e1.symm, Ext.refl m, r, e2⟩⟩
    · cases e
  stop := fun m h i _ r e => by
    unfold rngIt at e
    split at e
    · cases e
    · rename_i hi; exact Nat.le_of_not_lt hi
theorem lit_ok {K : PySem.W.Frag} {m0 : Lay} {n : Nm} {v : Nat} {p : Addr} (e : m0.l (n, v) = some p) : ItOk K m0 (Itl K p) (listIt n v) where
  go := fun m h i x ex r g => by
    unfold listIt at g
    split at g
    · rename_i v' xs hn
      split at g
      · rename_i z; subst z
        obtain ⟨vs, e3, q⟩ := r.lst hn (ex.l _ _ e)
        have g : xs[i]? = some x := Option.some.inj g
        obtain ⟨w, hw, rv⟩ := q.get g
        refine ⟨⟨vs, w, SqL.of e3, hw⟩, fun u H' ⟨e1, e2⟩ => ⟨m, e1.symm, Ext.refl m, r, ?_⟩⟩
        have := e2 vs (SqL.of e3)
        rw [hw] at this; cases this; exact rv
      · cases g
    · cases g
  stop := fun m h i ex r g => by
    unfold listIt at g
    split at g
    · rename_i v' xs hn
      split at g
      · rename_i z; subst z
        obtain ⟨vs, e3, q⟩ := r.lst hn (ex.l _ _ e)
        have g : xs[i]? = none := Option.some.inj g
        exact ⟨vs, SqL.of e3, by rw [q.length]; exact List.getElem?_eq_none_iff.mp g⟩
      · cases g
    · cases g
theorem tit_ok {K : PySem.W.Frag} {m0 : Lay} {xs : List LV} {vs : List V} {p : Addr} (e : m0.H p = some (.tup vs)) (q : VRels K m0 xs vs) : ItOk K m0 (Itt K p) (valsIt xs) where
  go := fun m h i x ex r g => by
    have g : xs[i]? = some x := Option.some.inj g
    obtain ⟨w, hw, rv⟩ := (q.mono ex).get g
    have e3 := SqT.of (K := K) (ex.t _ _ e)
    refine ⟨⟨vs, w, e3, hw⟩, fun u H' ⟨e1, e2⟩ => ⟨m, e1.symm, Ext.refl m, r, ?_⟩⟩
    have := e2 vs e3
    rw [hw] at this; cases this; exact rv
  stop := fun m h i ex r g => by
    have g : xs[i]? = none := Option.some.inj g
    exact ⟨vs, SqT.of (ex.t _ _ e), by rw [q.length]; exact List.getElem?_eq_none_iff.mp g⟩
theorem rit_ok {K : PySem.W.Frag} {m0 : Lay} {ns : List Int} {p : Addr} (e : RoL K m0.H p (ns.map V.int)) : ItOk K m0 (Itl K p) (valsIt (ns.map LV.int)) where
  go := fun m h i x ex r g => by
    have g : (ns.map LV.int)[i]? = some x := Option.some.inj g
    obtain ⟨w, hw, rv⟩ := (VRels.ints (K := K) (m := m) ns).get g
    have e3 := (e.mono ex).sq
    refine ⟨⟨_, w, e3, hw⟩, fun u H' ⟨e1, e2⟩ => ⟨m, e1.symm, Ext.refl m, r, ?_⟩⟩
    have := e2 _ e3
    rw [hw] at this; cases this; exact rv
  stop := fun m h i ex r g => by
    have g : (ns.map LV.int)[i]? = none := Option.some.inj g
    exact ⟨_, (e.mono ex).sq, by rw [List.length_map]; simpa using List.getElem?_eq_none_iff.mp g⟩
/-- a list or a tuple, found at run time -/
theorem pi_any {tl : TE} (hl : PE X iter tl) : PI X tg iter (fun σ H Rr => tl σ H fun x H1 => ∃ a, x = .ref a ∧ ((∃ xs, SqL X.K H1 a xs ∧ Rr (Itl X.K a) H1) ∨ ∃ xs, SqT X.K H1 a xs ∧ Rr (Itt X.K a) H1)) := by
  refine ⟨fun pins s σ H Rr I hq => thn (hl.run pins s σ H _ I hq) fun v s1 ⟨x, H1, I1, rx, a, e, q⟩ => ?_⟩
  subst e
  cases rx
  have fp : ∀ b, b ∈ [s1.heap.objs.size] → FpOk X pins H1 b := fun b hb => by
    rw [List.mem_singleton.mp hb]
    exact I1.fpOk (Nat.le_refl _) (I1.hok.fresh (Nat.le_refl _))
  rcases q with ⟨xs, hq, q⟩ | ⟨xs, hq, q⟩
  · obtain ⟨its, _, pl, _⟩ := I1.list hq
    exact wpAny_pyIter_list pl.isList ⟨_, _, _, _, H1, rfl, I1.kept (t' := s1.toks) (fun _ _ => Heap.get?_push_of_some _), turn_list a _, ⟨_, Heap.get?_push_size _ rfl, rfl, rfl⟩, fp, q⟩
  · obtain ⟨its, _, pl, _⟩ := I1.tuple hq
    exact wpAny_pyIter_tuple (show s1.heap.IsTuple a its.toArray from pl) ⟨_, _, _, _, H1, rfl, I1.kept (t' := s1.toks) (fun _ _ => Heap.get?_push_of_some _), turn_tuple a _, ⟨_, Heap.get?_push_size _ rfl, rfl, rfl⟩, fp, q⟩
theorem lj_seq (ha : PE X iter (upE X.K W ta)) : PI X tg iter (upIt X.K W (wSeqI ta)) := (pi_any ha).weak fun σ H Rr ⟨m, h, s, RL, XL, e1, r1, rs, q, hR, ce⟩ =>
  ⟨m, h, s, _, _, e1, r1, rs, q, fun m1 h1 x v ex1 r2 rx q1 => by
    cases x with
    | loc n k =>
      obtain ⟨⟨xs, hn⟩, q1⟩ := lstO.of q1
      obtain ⟨p, rfl, e2⟩ := rx
      obtain ⟨vs, e3, q2⟩ := r2.lst hn e2
      exact ⟨p, rfl, .inl ⟨vs, SqL.of e3, hR m1 h1 _ _ ex1 r2 (lit_ok e2) q1⟩⟩
    | tup xs =>
      obtain ⟨p, vs, rfl, e2, q2⟩ := rx
      exact ⟨p, rfl, .inr ⟨vs, SqT.of e2, hR m1 h1 _ _ ex1 r2 (tit_ok e2 q2) q1⟩⟩
    | rol ns =>
      obtain ⟨p, rfl, e2⟩ := rx
      exact ⟨p, rfl, .inl ⟨_, e2.sq, hR m1 h1 _ _ ex1 r2 (rit_ok e2) q1⟩⟩
    | _ => exact q1.elim, ce⟩
theorem lj_rng1 (hg : Gl X "range") (hm : X.mg "range" = none) (ha : PA X [a] (upA X.K W 1 tas)) (hs : starEach [a] X.env = [(false, eval a X.env)]) : PI X tg (.Call (.Name "range" p) [a] [] pos) (upIt X.K W (wRng tas)) :=
  (pi_range1 hg hm ha hs).weak fun σ H Rr ⟨m, h, s, RL, XL, e1, r1, rs, q, hR, ce⟩ => ⟨m, h, s, _, _, e1, r1, rs, q, fun m1 h1 xs vs ex1 r2 rx hn q1 => by
    replace q1 : rngM xs h1 RL := q1
    unfold rngM at q1
    split at q1
    · rename_i j
      obtain ⟨v, rfl, rv⟩ := rx.one
      cases (show v = _ from rv)
      exact ⟨_, rfl, q1.1.1, q1.1.2, hR m1 h1 _ _ ex1 r2 (rng_ok 0 _) q1.2⟩
    · simp at hn
    · exact q1.elim, ce⟩
theorem lj_rng2 (hg : Gl X "range") (hm : X.mg "range" = none) (ha : PA X [a, b] (upA X.K W 2 tas)) (hs : starEach [a, b] X.env = [(false, eval a X.env), (false, eval b X.env)]) (hs2 : starEach [b] X.env = [(false, eval b X.env)]) :
    PI X tg (.Call (.Name "range" p) [a, b] [] pos) (upIt X.K W (wRng tas)) :=
  (pi_range2 hg hm ha hs hs2).weak fun σ H Rr ⟨m, h, s, RL, XL, e1, r1, rs, q, hR, ce⟩ => ⟨m, h, s, _, _, e1, r1, rs, q, fun m1 h1 xs vs ex1 r2 rx hn q1 => by
    replace q1 : rngM xs h1 RL := q1
    unfold rngM at q1
    split at q1
    · simp at hn
    · rename_i i j
      obtain ⟨v, w, rfl, rv, rw'⟩ := rx.two
      cases (show v = _ from rv)
      cases (show w = _ from rw')
      exact ⟨_, _, rfl, q1.1, hR m1 h1 _ _ ex1 r2 (rng_ok _ _) q1.2⟩
    · exact q1.elim, ce⟩
end
end LL

namespace LL
open PySem L2

/-! ### enumerate -/
def enumIt (L : LIt) : LIt := fun i h => match L i h with
  | some (some x) => some (some (.tup [.int (i : Nat), x]))
  | some none => some none
  | none => none
def enumM : LV → LH → (LIt → LH → Prop) → Prop
  | .loc n v, h, RL => lstO (h n) v (RL (enumIt (listIt n v)) h)
  | .rol ns, h, RL => RL (enumIt (valsIt (ns.map LV.int))) h
  | _, _, _ => False
def enum1 : List LV → LH → (LIt → LH → Prop) → Prop
  | [x], h, RL => enumM x h RL
  | _, _, _ => False
def wEnum (tas : LTA) : LTI := fun s h RL X => tas s h (fun xs h1 => enum1 xs h1 RL) X
theorem enum_ok {K : PySem.W.Frag} {m0 : Lay} {p : Addr} {L : LIt} (ok : ItOk K m0 (Itl K p) L) : ItOk K m0 (Ite K p) (enumIt L) where
  go := fun m h i x ex r g => by
    unfold enumIt at g
    split at g
    · rename_i y e
      cases g
      obtain ⟨g1, y1⟩ := ok.go m h i y ex r e
      refine ⟨g1, ?_⟩
      rintro v H' ⟨T, x1, rfl, hT, rfl, hx⟩
      obtain ⟨xs, x2, hq, hx2⟩ := g1
      obtain ⟨m', e2, ex2, r2, rv⟩ := y1 x1 m.H ⟨rfl, fun ys hy => hx ys hy⟩
      obtain ⟨e1, r1⟩ := r2.grown (ex_upd (o := .tup [.int (i : Nat), x1]) (by rw [e2]; exact hT))
      exact ⟨_, by show upd m'.H T _ = _; rw [e2], ex2.trans e1, r1, T, _, rfl, upd_same, .cons rfl (.cons (rv.mono e1) .nil)⟩
    · cases g
    · cases g
  stop := fun m h i ex r g => by
    unfold enumIt at g
    split at g
    · cases g
    · rename_i e; exact ok.stop m h i ex r e
    · cases g
section
variable {X : Cx} {W : WX} {a : Expr} {tas : LTA} {p pos : Pos}
theorem lj_enum {elts : List Expr} {kk : Nat} {tpos : Pos} (hg : Gl X "enumerate") (hm : X.mg "enumerate" = none) (ha : PA X [a] (upA X.K W 1 tas)) (hs : starEach [a] X.env = [(false, eval a X.env)]) :
    PI X (.Tuple elts kk tpos) (.Call (.Name "enumerate" p) [a] [] pos) (upIt X.K W (wEnum tas)) :=
  (pi_enum hg hm ha hs).weak fun σ H Rr ⟨m, h, s, RL, XL, e1, r1, rs, q, hR, ce⟩ => ⟨m, h, s, _, _, e1, r1, rs, q, fun m1 h1 xs vs ex1 r2 rx hn q1 => by
    replace q1 : enum1 xs h1 RL := q1
    unfold enum1 at q1
    split at q1
    · rename_i x
      obtain ⟨v, rfl, rv⟩ := rx.one
      cases x <;> try exact q1.elim
      · rename_i n k
        obtain ⟨⟨xs, hn⟩, q1⟩ := lstO.of q1
        obtain ⟨p, rfl, e2⟩ := rv
        obtain ⟨vs, e3, q2⟩ := r2.lst hn e2
        exact ⟨p, vs, rfl, SqL.of e3, hR m1 h1 _ _ ex1 r2 (enum_ok (lit_ok e2)) q1⟩
      · obtain ⟨p, rfl, e2⟩ := rv
        exact ⟨p, _, rfl, e2.sq, hR m1 h1 _ _ ex1 r2 (enum_ok (rit_ok e2)) q1⟩
    · exact q1.elim, ce⟩
end

/-! ### a list made in place -/
/-- a target of names alone -/
inductive Nt where
  | one (i : Nat) | many (is : List Nat)
def setAll : LSt → List Nat → List LV → LSt
  | s, i :: is, x :: xs => setAll (s.set i (some x)) is xs
  | s, _, _ => s
def ntM (g : Nt) (x : LV) (s : LSt) (P : LSt → Prop) : Prop := match g, x with
  | .one i, x => P (s.set i (some x))
  | .many is, .tup xs => xs.length = is.length ∧ P (setAll s is xs)
  | .many _, _ => False
def Nt.slots : Nt → List Nat
  | .one i => [i]
  | .many is => is
def wipeL (s : LSt) : List Nat → LSt
  | [] => s
  | v :: vs => (wipeL s vs).set v none
def gMany : List Nat → TGs
  | [] => gNil
  | i :: is => gCons (gName i) (gMany is)
def gNt (K : PySem.W.Frag) : Nt → TG
  | .one i => gName i
  | .many is => gTup K is.length (gMany is)
def LcK (tt : LTT) (g : Nt) (te : LTE) (vs : List Nat) (s : LSt) (L : LIt) (d : LV) (Q : LQ) (h2 : LH) : Prop := ∃ Wl : Nat → Nat → LH → Prop, (∃ k, Wl 0 k h2) ∧ ∀ i k h, Wl i k h →
  (L i h = some none ∧ Q d h) ∨ ∃ x, L i h = some (some x) ∧ ∃ N : LH → Prop, (∀ h', N h' → ∃ k', k' < k ∧ Wl (i + 1) k' h') ∧ ntM g x (wipeL s vs) fun s2 => tt s2 h (fun b h3 =>
    if b = true then te s2 h3 (fun y h4 => ∃ n v acc, d = .loc n v ∧ h4 n = some (v, .lst acc) ∧ acc.length < sizeLine ∧ N (h4.set n v (.lst (acc ++ [y])))) (fun _ _ => False) else N h3) fun _ _ => False
def wLc (wi : LTI) (g : Nt) (tt : LTT) (te : LTE) (vs : List Nat) : LTE := fun s h Q X => wi s h (fun L h1 => Alloc h1 (.lst []) fun d h2 => LcK tt g te vs s L d Q h2) X
theorem wipe_set (σ : St) (i : Nat) (y : Option V) : ∀ vs : List Nat, i ∈ vs → wipe (σ.set i y) vs = wipe σ vs
  | [], h => by cases h
  | v :: vs, h => by
    unfold wipe
    by_cases hv : i ∈ vs
    · rw [wipe_set σ i y vs hv]
    · have e : v = i := by
        rcases List.mem_cons.mp h with e | e
        · exact e.symm
        · exact absurd e hv
      subst e
      have : ∀ ws : List Nat, v ∉ ws → wipe (σ.set v y) ws = (wipe σ ws).set v y := by
        intro ws
        induction ws with
        | nil => intro _; rfl
        | cons w ws ih =>
          intro hw
          simp only [List.mem_cons, not_or] at hw
          unfold wipe
          rw [ih hw.2, List.set_comm _ _ hw.1]
      rw [this vs hv, List.set_set]
theorem wipe_wipe (σ : St) (vs : List Nat) : wipe (wipe σ vs) vs = wipe σ vs := by
  have : ∀ ws : List Nat, (∀ w ∈ ws, w ∈ vs) → wipe (wipe σ ws) vs = wipe σ vs := by
    intro ws
    induction ws with
    | nil => intro _; rfl
    | cons w ws ih =>
      intro h
      show wipe ((wipe σ ws).set w none) vs = _
      rw [wipe_set _ _ _ _ (h w (.head _)), ih fun z hz => h z (.tail _ hz)]
  exact this vs fun _ z => z
theorem srel_wipe {K : PySem.W.Frag} {m : Lay} {s : LSt} {σ : St} (r : SRel K m s σ) : ∀ vs : List Nat, SRel K m (wipeL s vs) (wipe σ vs)
  | [] => r
  | v :: vs => (srel_wipe r vs).forget v none
theorem many_ok {K : PySem.W.Frag} {m : Lay} {H : Hp} {vs : List Nat} : ∀ (is : List Nat) (xs : List LV) (us : List V) (s : LSt) (σ : St) (Q : St → Hp → Prop), (∀ i ∈ is, i ∈ vs) → xs.length = is.length → VRels K m xs us → SRel K m s σ → (∀ σ2, wipe σ2 vs = wipe σ vs → SRel K m (setAll s is xs) σ2 → Q σ2 H) → gMany is us σ H Q
  | [], xs, us, s, σ, Q, _, hl, r, rs, q => by
    cases xs with
    | nil => cases (show us = [] from r); exact ⟨rfl, q σ rfl rs⟩
    | cons => simp at hl
  | i :: is, xs, us, s, σ, Q, hm, hl, r, rs, q => by
    cases xs with
    | nil => simp at hl
    | cons x xs =>
      obtain ⟨v, ws, rfl, rv, rt⟩ := r
      refine ⟨v, ws, rfl, many_ok is xs ws _ _ Q (fun j hj => hm j (.tail _ hj)) (by simpa using hl) rt (rs.set rv i) fun σ2 e rs2 => q σ2 (e.trans (wipe_set _ _ _ _ (hm i (.head _)))) rs2⟩
theorem nt_ok {K : PySem.W.Frag} {m : Lay} {vs : List Nat} {g : Nt} {x : LV} {v : V} {s : LSt} {σ : St} {P : LSt → Prop} {Q : St → Hp → Prop} (hm : ∀ i ∈ g.slots, i ∈ vs) (rv : VRel K m x v) (rs : SRel K m s σ) (p : ntM g x s P) (q : ∀ σ2 s2, wipe σ2 vs = wipe σ vs → SRel K m s2 σ2 → P s2 → Q σ2 m.H) : gNt K g v σ m.H Q := by
  cases g with
  | one i => exact q _ _ (wipe_set _ _ _ _ (hm i (.head _))) (rs.set rv i) p
  | many is =>
    cases x <;> try exact p.elim
    obtain ⟨hl, p⟩ := p
    obtain ⟨a, us, rfl, e2, r2⟩ := rv
    exact ⟨a, us, rfl, SqT.of e2, by rw [r2.length, hl], many_ok is _ us s σ Q hm hl r2 rs fun σ2 e rs2 => q σ2 _ e rs2 p⟩
theorem Alloc.up2 {K : PySem.W.Frag} {m : Lay} {h : LH} {o : LO} {p : Addr} {u : HO} {QL : LQ} (A : Alloc h o QL) (r : R K m h) (hp : m.H p = none) (ho : ∀ m', Ext m m' → ORel K m' o u) : ∃ m' n v, m'.H = upd m.H p u ∧ Ext m m' ∧ R K m' (h.set n v o) ∧ m'.l (n, v) = some p ∧ QL (.loc n v) (h.set n v o) := by
  rcases A with ⟨n, hn, q⟩ | q
  · obtain ⟨m', v, e1, ex, r', el⟩ := r.new (n := n) hn hp ho
    exact ⟨m', n, v, e1, ex, r', el, q v⟩
  · obtain ⟨k, hk⟩ := r.fresh
    obtain ⟨m', v, e1, ex, r', el⟩ := r.new (n := .a k) hk hp ho
    exact ⟨m', .a k, v, e1, ex, r', el, q k hk v⟩
section
variable {X : Cx} {W : WX}
def noX : WX := fun _ _ _ _ => False
theorem lc_up {wi : LTI} {g : Nt} {tt : LTT} {te : LTE} {vs : List Nat} (hm : ∀ i ∈ g.slots, i ∈ vs) {σ : St} {H : Hp} {Q : VK} : upE X.K W (wLc wi g tt te vs) σ H Q → tLc (upIt X.K W wi) (gNt X.K g) (upT X.K noX tt) (upE X.K noX te) vs σ H Q :=
  fun ⟨m, h, s, QL, XL, e1, r1, rs, q, c, ce⟩ => by
    refine ⟨m, h, s, _, _, e1, r1, rs, q, fun m1 h1 L J ex1 r2 ok q1 => ?_, ce⟩
    intro D hD
    obtain ⟨m2, n, v, e2, ex2, r3, el, Wl, ⟨k0, w0⟩, turn⟩ := Alloc.up2 (u := .lst []) q1 r2 hD fun m' _ => ⟨[], rfl, .nil⟩
    refine ⟨fun i k H' => ∃ m3 h3, m3.H = H' ∧ Ext m2 m3 ∧ R X.K m3 h3 ∧ Wl i k h3, ⟨k0, m2, _, e2, Ext.refl m2, r3, w0⟩, ?_⟩
    rintro i k H' ⟨m3, h3, rfl, ex3, r4, w⟩
    have ex03 := ex2.trans ex3
    rcases turn i k h3 w with ⟨st, q2⟩ | ⟨x, gx, N, hN, q2⟩
    · exact .inl ⟨ok.stop m3 h3 i ex03 r4 st, c m3 h3 (.loc n v) (.ref D) (ex1.trans ex03) r4 ⟨D, rfl, ex3.l _ _ el⟩ q2⟩
    · obtain ⟨go, yl⟩ := ok.go m3 h3 i x ex03 r4 gx
      refine .inr ⟨go, fun H' => ∃ k', k' < k ∧ ∃ m3 h3, m3.H = H' ∧ Ext m2 m3 ∧ R X.K m3 h3 ∧ Wl (i + 1) k' h3, fun H' z => z, fun u H4 y => ?_⟩
      obtain ⟨m4, rfl, ex4, r5, rv⟩ := yl u H4 y
      refine nt_ok hm rv (srel_wipe (rs.mono (ex1.trans (ex03.trans ex4))) vs) q2 fun σ2 s2 we rs2 q3 => ⟨we.trans (wipe_wipe _ _), ?_⟩
      refine ⟨m4, h3, s2, _, _, rfl, r5, rs2, q3, fun m5 h5 b ex5 r6 q4 => ?_, fun _ _ _ _ _ z => z⟩
      have ex25 := ex3.trans (ex4.trans ex5)
      cases b
      · rw [if_neg Bool.false_ne_true] at q4
        obtain ⟨k', hk, w'⟩ := hN _ q4
        exact iteF ⟨k', hk, m5, h5, rfl, ex25, r6, w'⟩
      · rw [if_pos rfl] at q4
        refine iteT ⟨m5, h5, s2, _, _, rfl, r6, rs2.mono ex5, q4, fun m6 h6 z u6 ex6 r7 rz ⟨n', v', acc, e7, hn, hl, q5⟩ => ?_, fun _ _ _ _ _ z => z⟩
        cases e7
        have el6 := (ex25.trans ex6).l _ _ el
        obtain ⟨us, e8, ra⟩ := r7.lst hn el6
        obtain ⟨ex7, r8⟩ := r7.write (o' := .lst (acc ++ [z])) (u := .lst (us ++ [u6])) hn el6 ⟨_, rfl, ra.append (.cons rz .nil)⟩
        obtain ⟨k', hk, w'⟩ := hN _ q5
        exact ⟨us, e8, by rw [ra.length]; exact hl, k', hk, _, _, rfl, ex25.trans (ex6.trans ex7), r8, w'⟩
theorem le_lc {wi : LTI} {g : Nt} {tt : LTT} {te : LTE} {vs : List Nat} {elt : Expr} {gs : List Comprehension} {scope : Scope} {pos : Pos} (h : PE X (.ListComp elt gs scope pos) (tLc (upIt X.K W wi) (gNt X.K g) (upT X.K noX tt) (upE X.K noX te) vs)) (hm : ∀ i ∈ g.slots, i ∈ vs) :
    PE X (.ListComp elt gs scope pos) (upE X.K W (wLc wi g tt te vs)) := h.weak fun _ _ _ => lc_up hm
theorem ls_setLc {wi : LTI} {g : Nt} {tt : LTT} {te : LTE} {vs : List Nat} {i : Nat} {st : Stmt} (h : PS X st (tAsg (tLc (upIt X.K W wi) (gNt X.K g) (upT X.K noX tt) (upE X.K noX te) vs) (gName i))) (hm : ∀ i ∈ g.slots, i ∈ vs) :
    PS X st (upS X.K W (wAsg (wLc wi g tt te vs) (vName i))) :=
  h.weak fun D σ H ⟨m, h, s, DL, e1, r1, rs, q, ec⟩ => lc_up hm ⟨m, h, s, _, _, e1, r1, rs, q, fun m1 h1 x v ex1 r2 rx q1 => ec.nx m1 h1 _ _ ex1 r2 ((rs.mono ex1).set rx i) q1, ec.xc.at rs⟩
end

/-! ### slices -/
def cutL {α : Type} (xs : List α) (lo hi : Option Int) : List α := (xs.drop (HT.sIx xs.length 0 lo)).take (HT.sIx xs.length xs.length hi - HT.sIx xs.length 0 lo)
theorem cut_rel {K : PySem.W.Frag} {m : Lay} {xs : List LV} {vs : List V} (r : VRels K m xs vs) (lo hi : Option Int) : VRels K m (cutL xs lo hi) (cutV vs lo hi) := by
  unfold cutL cutV
  rw [r.length]
  exact (r.drop _).take _
def slM (o : Option (Nat × LO)) (v : Nat) (lo hi : Option Int) (h : LH) (Q : LQ) : Prop := match o with
  | some (v', .lst xs) => v' = v ∧ Alloc h (.lst (cutL xs lo hi)) Q
  | _ => False
def lSl : LV → Option Int → Option Int → LH → LQ → Prop
  | .loc n v, lo, hi, h, Q => slM (h n) v lo hi h Q
  | .rol ns, lo, hi, h, Q => Alloc h (.lst (cutL (ns.map LV.int) lo hi)) Q
  | .tup xs, lo, hi, h, Q => Q (.tup (cutL xs lo hi)) h
  | _, _, _, _, _ => False
def isI : LV → (Int → Prop) → Prop
  | .int i, P => P i
  | _, _ => False
def wPart : Option LTE → LSt → LH → (Option Int → LH → Prop) → LX → Prop
  | none, _, h, k, _ => k none h
  | some t, s, h, k, X => t s h (fun x h1 => isI x fun i => k (some i) h1) X
def wSl (te : LTE) (tl th : Option LTE) : LTE := fun s h Q X => te s h (fun x h1 => wPart tl s h1 (fun lo h2 => wPart th s h2 (fun hi h3 => lSl x lo hi h3 Q) X) X) X
def upR3 (K : PySem.W.Frag) : V → Option Int → Option Int → Hp → VK → Prop := fun x lo hi H Q => ∃ m h a QL, m.H = H ∧ R K m h ∧ VRel K m a x ∧ lSl a lo hi h QL ∧ CQ K m QL Q
def upO (K : PySem.W.Frag) (W : WX) (t : Option LTE) : TO := fun σ H Q => ∃ m h s QL XL, m.H = H ∧ R K m h ∧ SRel K m s σ ∧ wPart t s h QL XL ∧ (∀ m' h' o, Ext m m' → R K m' h' → QL o h' → Q o m'.H) ∧ CE K m XL (WE W σ)
section
variable {X : Cx} {W : WX}
theorem slr_weak {r r' : V → Option Int → Option Int → Hp → VK → Prop} (h : SlR X r) (i : ∀ x lo hi H Q, r' x lo hi H Q → r x lo hi H Q) : SlR X r' := fun pins s σ H x v vl vu lo hi sl Q I rx hs pl pu q => h pins s σ H x v vl vu lo hi sl Q I rx hs pl pu (i _ _ _ _ _ q)
theorem li_sl : SlR X (upR3 X.K) := slr_weak (sl_list.or sl_tupA) fun x lo hi H Q ⟨m, h, a, QL, e1, r, ra, q, c⟩ => by
  subst e1
  cases a <;> try exact q.elim
  · rename_i xs
    obtain ⟨p, vs, rfl, e2, rv⟩ := ra
    have q : QL (.tup (cutL xs lo hi)) h := q
    refine .inr ⟨p, vs, rfl, SqT.of e2, fun w => ?_, fun _ y hy => ?_⟩
    · have e3 : cutL xs lo hi = xs := by
        unfold cutL
        rw [← rv.length, w.1, w.2, List.drop_zero, rv.length]
        exact List.take_length
      rw [e3] at q
      exact c m h (.tup xs) (.ref p) (Ext.refl m) r ⟨p, vs, rfl, e2, rv⟩ q
    · obtain ⟨ex, r'⟩ := r.grown (ex_upd (o := .tup (cutV vs lo hi)) hy)
      exact c ⟨m.l, upd m.H y (.tup (cutV vs lo hi))⟩ h (.tup (cutL xs lo hi)) (.ref y) ex r' ⟨y, _, rfl, upd_same, (cut_rel rv lo hi).mono ex⟩ q
  · rename_i n k
    replace q : slM (h n) k lo hi h QL := q
    unfold slM at q
    split at q
    · rename_i v' xs hn
      obtain ⟨rfl, q⟩ := q
      obtain ⟨p, rfl, e2⟩ := ra
      obtain ⟨vs, e3, rv⟩ := r.lst hn e2
      exact .inl ⟨p, vs, rfl, SqL.of e3, fun y hy => q.up r c hy fun m' ex => ⟨_, rfl, (cut_rel rv lo hi).mono ex⟩⟩
    · exact q.elim
  · obtain ⟨p, rfl, e2⟩ := ra
    exact .inl ⟨p, _, rfl, e2.sq, fun y hy => Alloc.up q r c hy fun m' ex => ⟨_, rfl, (cut_rel (VRels.ints _) lo hi).mono ex⟩⟩
theorem po_weak {e : Option Expr} {t t' : TO} (h : PO X e t) (i : ∀ σ H Q, t' σ H Q → t σ H Q) : PO X e t' := ⟨fun pins s σ H Q I q => h.run pins s σ H Q I (i _ _ _ q)⟩
theorem lo_none : PO X none (upO X.K W none) := po_weak po_none fun σ H Q ⟨m, h, s, QL, XL, e1, r, rs, q, c, ce⟩ => by subst e1; exact c m h none (Ext.refl m) r q
theorem lo_some {e : Expr} {t : LTE} (h : PE X e (upE X.K W t)) : PO X (some e) (upO X.K W (some t)) := po_weak (po_some h) fun σ H Q ⟨m, h, s, QL, XL, e1, r, rs, q, c, ce⟩ =>
  ⟨m, h, s, _, XL, e1, r, rs, q, fun m1 h1 x v ex1 r1 rx q1 => by
    cases x <;> try exact q1.elim
    exact ⟨_, rx, c m1 h1 _ ex1 r1 q1⟩, ce⟩
theorem le_sl {e : Expr} {lo hi : Option Expr} {te : LTE} {tl th : Option LTE} {p2 pos : Pos} (he : PE X e (upE X.K W te)) (hl : PO X lo (upO X.K W tl)) (hh : PO X hi (upO X.K W th)) : PE X (.Subscript e (.Slice lo hi none p2) pos) (upE X.K W (wSl te tl th)) :=
  (pe_slice li_sl he hl hh).weak fun σ H Q ⟨m, h, s, QL, XL, e1, r, rs, q, c, ce⟩ =>
    ⟨m, h, s, _, XL, e1, r, rs, q, fun m1 h1 x v ex1 r1 rx q1 => ⟨m1, h1, s, _, XL, rfl, r1, rs.mono ex1, q1, fun m2 h2 o ex2 r2 q2 => ⟨m2, h2, s, _, XL, rfl, r2, rs.mono (ex1.trans ex2), q2, fun m3 h3 o3 ex3 r3 q3 =>
      ⟨m3, h3, x, QL, rfl, r3, rx.mono (ex2.trans ex3), q3, c.mono (ex1.trans (ex2.trans ex3))⟩, ce.mono (ex1.trans ex2)⟩, ce.mono ex1⟩, ce⟩
end

/-! ### {} -/
def wDnew : LTE := fun _ h Q _ => Alloc h (.dK []) Q ∨ Alloc h (.dT []) Q
theorem le_dnew {X : Cx} {W : WX} {pos : Pos} : PE X (.Dict [] [] pos) (upE X.K W wDnew) := (pe_dnewK.or pe_dnewT).weak fun σ H Q ⟨m, h, s, QL, XL, e1, r, rs, q, c, ce⟩ => by
  subst e1
  rcases q with q | q
  · exact .inl fun p hp => q.up r c hp fun m' ex => ⟨[], rfl, rfl⟩
  · exact .inr fun p hp => q.up r c hp fun m' ex => ⟨[], rfl, rfl⟩

/-! ### len of an object with __len__ -/
section
variable {X : Cx} {C : Addr} {pins : List (Addr × Obj)} {σ : St} {H : Hp} {s : Shared} {f : Addr} {fd : FuncData} {ps : List Str} {sp : Sp} {n : Nat}
theorem olen_run {Q : VK} {a dx : Addr} {fs : List (Str × V)} (F : FnOk X.prog X.w X.K X.mg X.base (L2.CX X.prog X.w) n f fd ps sp) (hr : Room (n + 1) X.A) (b : Binds X.K fd ps []) (I : Inv X pins σ H s) (ha : H a = some (.ins C dx fs)) (hm : Meth X.K C "__len__" f)
    (hsp : sp [.ref a] H (fun v H' => ∃ i, v = .int i ∧ (0 ≤ i ∧ i < 2 ^ 63) ∧ Q (.int i) H') fun _ _ _ => False) : wpAny (model X.prog X.w) X.A (call (.builtin "len") [.ref a]) (EP X pins σ Q) X.xe s := by
  obtain ⟨mA, J, _⟩ := ins_get I.hok ha
  obtain ⟨od, J, _⟩ := J.look
  obtain ⟨m, hF⟩ := I.fr
  refine PySem.W.len_K hF I.ok.mod.kin J hm.at_ hm.fn ?_
  have hl := F.len _ _ _ _ hsp
  have r2 : Vals [V.ref a] [Value.ref a] := .cons rfl .nil
  refine wpAny_call (codeAny_mono (F.run X.A.in1 X.stack s H ⟨[.ref a], []⟩ [.ref a] [.ref a] _ _ hr.in1 I.env0.in1 (by
    have := b s [.ref a] I.kIn (by simpa using hl)
    simpa using this) r2 hsp) fun r s' hq => ?_)
  cases r with
  | error e =>
    obtain ⟨_, _, _, _, _, _, _, _, _, _, _, _, z⟩ := hq
    exact z.elim
  | ok fl =>
    cases fl with
    | ret u =>
      obtain ⟨v, H', I', rv, i, rfl, hi, q⟩ := I.after hq
      obtain ⟨t, rfl⟩ := rv
      exact ⟨hi, .int i, H', I'.tok _, ⟨_, rfl⟩, q⟩
    | next => exact False.elim hq
    | brk => exact False.elim hq
    | cont => exact False.elim hq
end
def olM (G : Glob) (x : LV) (h : LH) (Q : LQ) : Addr → List (Str × LV) → Prop := fun C _ => optM (G.meth C "__len__") fun sp => sp [x] h (fun y h2 => isI y fun i => (0 ≤ i ∧ i < 2 ^ 63) ∧ Q (.int i) h2) fun _ _ => False
def wOlen (G : Glob) (ta : LTE) : LTE := fun s h Q X => ta s h (fun x h1 => InsM h1 x fun C fs => olM G x h1 Q C fs) X
section
variable {G : Glob} {T : Tab} {k : Nat} {X : Cx} {W : WX} {a : Expr} {ta : LTE} {p pos : Pos}
theorem le_olen (g : GOk G T k X.prog X.w X.K X.mg X.base) (hr : Room k X.A) {lv : Nat} (ht : T.meth "__len__" = some (lv, 0)) (hk : lv + 1 ≤ k) (hg : Gl X "len") (hm : X.mg "len" = none) (ha : PE X a (upE X.K W ta)) (he : starEach [a] X.env = [(false, eval a X.env)]) :
    PE X (.Call (.Name "len" p) [a] [] pos) (upE X.K W (wOlen G ta)) := by
  refine ⟨fun pins s σ H Q I hq => ?_⟩
  obtain ⟨m, h, ls, QL, XL, e1, r1, rs, q, c, ce⟩ := hq
  refine wpAny_Call_Name_kw (ld_blt I hg hm PySem.boot_len ?_ (by decide) (by decide))
  refine PyProof.Rows.callWith_builtin1 (thn ((pa_cons ha pa_nil he).run pos pins s σ H (fun vs H1 => ∃ m1 h1 x v, vs = [v] ∧ m1.H = H1 ∧ Ext m m1 ∧ R X.K m1 h1 ∧ VRel X.K m1 x v ∧ InsM h1 x fun C fs => olM G x h1 QL C fs) I
    ⟨m, h, ls, _, XL, e1, r1, rs, q, fun m1 h1 x v ex1 r2 rx q1 => ⟨m1, h1, x, v, rfl, rfl, ex1, r2, rx, q1⟩, ce⟩) fun us s1 ⟨vs, H1, I1, ru, m1, h1, x, v, e2, e3, ex1, r2, rx, q1⟩ => ?_) he rfl
  subst e2 e3
  obtain ⟨C, fs, hi, q1⟩ := InsM.of q1
  obtain ⟨pa, dx, vs, rfl, hH, kv⟩ := hi.ins r2 rx
  obtain ⟨sp, gm, q2⟩ := optM.of q1
  obtain ⟨f, cl, hme, fd, ps, F, B⟩ := g.meth C _ sp lv 0 gm ht (by omega)
  cases ru with
  | cons ru rn =>
    cases rn
    obtain rfl : _ = Value.ref pa := ru
    refine olen_run F (hr.mono hk) B I1 hH hme ⟨m1, h1, [x], _, fun _ _ => False, rfl, r2, ⟨_, _, rfl, rx, rfl⟩, rfl, q2, fun m2 h2 y w ex2 r3 ry q3 => ?_, fun _ _ _ _ _ z => z⟩
    cases y <;> try exact q3.elim
    rename_i i
    exact ⟨i, ry, q3.1, c m2 h2 (.int i) (.int i) (ex1.trans ex2) r3 rfl q3.2⟩
end
end LL

namespace LL
open PySem L2

/-! ### the program's text, in short -/
inductive Op where | add | sub | mul | fdiv | mod | pow
inductive Cp where | eq | ne | lt | le | gt | ge | is | isn
inductive Blt where | len | int | abs | max | min | list | tuple | isi
inductive Ik where | seq | rng | enum
inductive Bm where | none | append | extend | pop | reverse | clear
mutual
inductive E where
  | var (i : Nat) | con (x : Str) | ty (n : String) | int (i : Int) | bl (b : Bool) | non | str (x : Str)
  | tup (es : Es) | lst (es : Es) | bin (o : Op) (a b : E) | neg (a : E) | cmp (o : Cp) (a b : E) | chain (o o' : Cp) (a b c : E)
  | and (es : Es) | or (es : Es) | not (a : E) | ife (c a b : E) | fld (a : E) (f : Str) | ix (a b : E)
  | call (x : Str) (es : Es) | make (x : Str) (es : Es) | blt (b : Blt) (es : Es) | meth (a : E) (m : Str) (b : Bm) (es : Es)
  | lc (vs : List Nat) (g : Nt) (k : Ik) (is cs : Es) (e : E) | sl (a : E) (lo hi : Es) | dnew | olen (a : E)
inductive Es where
  | nil | cons (e : E) (r : Es)
end
def Es.len : Es → Nat
  | .nil => 0
  | .cons _ r => r.len + 1
def seq1 : List LV → LH → (LIt → LH → Prop) → Prop
  | [x], h, RL => seqM x h RL
  | _, _, _ => False
def wSeqA (tas : LTA) : LTI := fun s h RL X => tas s h (fun xs h1 => seq1 xs h1 RL) X
def wIk : Ik → LTA → LTI
  | .seq => wSeqA | .rng => wRng | .enum => wEnum
def wYes : LTT := fun _ h Q _ => Q true h
def Es.cond (t : LTT) : Es → LTT
  | .nil => wYes
  | .cons _ _ => t
def Es.part (t : LTE) : Es → Option LTE
  | .nil => none
  | .cons _ _ => some t
mutual
inductive Tg where
  | name (i : Nat) | tup (n : Nat) (gs : Tgs) | sub (o i : E)
inductive Tgs where
  | nil | cons (g : Tg) (r : Tgs)
end
inductive Iz where
  | seq (e : E) | rng (es : Es) | enum (es : Es)
mutual
inductive S where
  | expr (e : E) | ret (e : E) | retN | asg (g : Tg) (e : E) | fld (o : E) (f : Str) (e : E) | flda (o : E) (f : Str) (e : E)
  | ifs (c : E) (a b : Ss) | whl (c : E) (b : Ss) | for (g : Tg) (i : Iz) (b : Ss) | brk | cnt | pass | rais (x : Str)
inductive Ss where
  | nil | cons (s : S) (r : Ss)
end

/-! ### what it asks -/
def opR : Op → LR2
  | .add => lAdd | .sub => lSub | .mul => lMul | .fdiv => lFDiv | .mod => lMod | .pow => lPow
def cpR : Cp → LR2
  | .eq => lEq | .ne => lNe
  | .lt => lCmp fun i j => decide (i < j) | .le => lCmp fun i j => decide (i ≤ j) | .gt => lCmp fun i j => decide (j < i) | .ge => lCmp fun i j => decide (j ≤ i)
  | .is => lIsN | .isn => lNotN
def bltR : Blt → LRA
  | .len => lLen | .int => lInt | .abs => lAbs | .max => lMax | .min => lMin | .list => lList | .tuple => lTuple | .isi => lIsi
def lstM : Bm → Nat → Option LRM
  | .append, 1 => some lAppend | .extend, 1 => some lExtend | .pop, 0 => some lPop | .pop, 1 => some lPopAt | .reverse, 0 => some lReverse | .clear, 0 => some lClear
  | _, _ => none
def wRais (G : Glob) (x : Str) : LTS := fun D s h => ∃ C, G.exc x = some C ∧ D.xc C s h
def wFalse : LTE := fun _ _ _ _ => False
/-- a value, and as a test; arguments, and what and | or of them are -/
structure SE where
  v : LTE
  t : LTT
structure SA where
  a : LTA
  av : LTE
  ov : LTE
  at_ : LTT
  ot : LTT
abbrev SE.of (v : LTE) : SE := ⟨v, wTru v⟩
def SA.nil : SA := ⟨wNil, wFalse, wFalse, fun _ _ _ _ => False, fun _ _ _ _ => False⟩
def SA.one (e : SE) : SA := ⟨wCons e.v wNil, e.v, e.v, e.t, e.t⟩
def SA.cons (e : SE) (r : SA) : SA := ⟨wCons e.v r.a, wAndV e.v r.av, wOrV e.v r.ov, wAndT e.t r.at_, wOrT e.t r.ot⟩
section
variable (G : Glob) (T : Tab)
mutual
def sem : E → SE
  | .var i => .of (wVar i)
  | .con x => .of fun _ h Q _ => ∃ v, G.con x = some v ∧ Q v h
  | .ty n => .of (wC (.ty n))
  | .int i => .of (wC (.int i))
  | .bl b => .of (wC (.bl b))
  | .non => .of (wC .non)
  | .str x => .of (wC (.str x))
  | .tup es => .of (wTup (sems es).a)
  | .lst es => .of (wLst (sems es).a)
  | .bin o a b => .of (wBin (opR o) (sem a).v (sem b).v)
  | .neg a => .of (wUn lNeg (sem a).v)
  | .cmp o a b => ⟨wBin (cpR o) (sem a).v (sem b).v, wTst (wBin (cpR o) (sem a).v (sem b).v)⟩
  | .chain o o' a b c => ⟨wChain (cpR o) (cpR o') (sem a).v (sem b).v (sem c).v, wTst (wChain (cpR o) (cpR o') (sem a).v (sem b).v (sem c).v)⟩
  | .and es => ⟨(sems es).av, (sems es).at_⟩
  | .or es => ⟨(sems es).ov, (sems es).ot⟩
  | .not a => ⟨wNotV (sem a).v, wNotT (sem a).t⟩
  | .ife c a b => ⟨wIf (sem c).t (sem a).v (sem b).v, fun _ _ _ _ => False⟩
  | .fld a f => .of (wFld G (sem a).v f)
  | .ix a b => .of (wIx (sem a).v (sem b).v)
  | .call x es => .of fun s h Q X => ∃ sp, G.fn x = some sp ∧ wCall sp (sems es).a s h Q X
  | .make x es => .of fun s h Q X => ∃ C sp, G.cls x = some (C, sp) ∧ wMake C sp (sems es).a s h Q X
  | .blt b es => .of (wCB (bltR b) (sems es).a)
  | .meth a m b es => .of (wMeth G m (T.meth m).isSome (lstM b es.len) none (sem a).v (sems es).a)
  | .lc vs g k is cs e => .of (wLc (wIk k (sems is).a) g (cs.cond (sems cs).at_) (sem e).v vs)
  | .dnew => .of wDnew
  | .olen a => .of (wOlen G (sem a).v)
  | .sl a lo hi => .of (wSl (sem a).v (lo.part (sems lo).av) (hi.part (sems hi).av))
def sems : Es → SA
  | .nil => .nil
  | .cons e r => match r with
    | .nil => .one (sem e)
    | .cons e' r' => .cons (sem e) (sems (.cons e' r'))
end
abbrev wpE (e : E) : LTE := (sem G T e).v
abbrev wpT (e : E) : LTT := (sem G T e).t
abbrev wpA (es : Es) : LTA := (sems G T es).a
mutual
def wpG : Tg → LTG
  | .name i => vName i
  | .tup n gs => vTup n (wpGs gs)
  | .sub o i => vSub (wpE G T o) (wpE G T i)
def wpGs : Tgs → LTGs
  | .nil => vNil
  | .cons g r => vCons (wpG g) (wpGs r)
end
def wpI : Iz → LTI
  | .seq e => wSeqI (wpE G T e)
  | .rng es => wRng (wpA G T es)
  | .enum es => wEnum (wpA G T es)
mutual
def wpS : S → LTS
  | .expr e => wDrop (wpE G T e)
  | .ret e => wRet (wpE G T e)
  | .retN => wRetN
  | .asg g e => wAsg (wpE G T e) (wpG G T g)
  | .fld o f e => wFldS G f (wpE G T o) (wpE G T e)
  | .flda o f e => wFldA G f (wpE G T o) (wpE G T e)
  | .ifs c a b => wIfS (wpT G T c) (wpSs a) (wpSs b)
  | .whl c b => wWhile (wpT G T c) (wpSs b)
  | .for g i b => wFor (wpI G T i) (wpG G T g) (wpSs b)
  | .brk => wBrk
  | .cnt => wCnt
  | .pass => wSkip
  | .rais x => wRais G x
def wpSs : Ss → LTS
  | .nil => wSkip
  | .cons s r => wSeq (wpS s) (wpSs r)
end
end
example (G : Glob) (T : Tab) (a b : E) : wpE G T (.bin .add a b) = wBin lAdd (wpE G T a) (wpE G T b) := rfl
end LL

namespace LL
open PySem L2

/-! ### the text as it stands: does it say this? -/
structure Ck where
  N : List Str
  nm : List (Str × NameKind)
  T : Tab
  k : Nat
  calm : Bool
def Ck.vis (c : Ck) (x : Str) : Bool := match c.nm.lookup x with
  | some .local => true | some .cell => true | some .free => true | _ => false
def Ck.gl (c : Ck) (x : Str) : Bool := match c.nm.lookup x with
  | some .globalImplicit => true | _ => false
def Ck.loc (c : Ck) (x : Str) : Bool := match c.nm.lookup x with
  | some .local => true | some .cell => true | _ => false
def Ck.cap (c : Ck) (x : Str) : Bool := match c.nm.lookup x with
  | some .cell => true | some .free => true | _ => false
def plainName (x : Str) : Bool := !(x == ("__debug__" : Str)) && !(x == ("__classdict__" : Str)) && !(x == ("__name__" : Str))
def opOk : Op → Operator → Bool
  | .add, .Add => true | .sub, .Sub => true | .mul, .Mult => true | .fdiv, .FloorDiv => true | .mod, .Mod => true | .pow, .Pow => true
  | _, _ => false
def cpOk : Cp → CmpOp → Bool
  | .eq, .Eq => true | .ne, .NotEq => true | .lt, .Lt => true | .le, .LtE => true | .gt, .Gt => true | .ge, .GtE => true | .is, .Is => true | .isn, .IsNot => true
  | _, _ => false
def bltNm : Blt → Str
  | .len => "len" | .int => "int" | .abs => "abs" | .max => "max" | .min => "min" | .list => "list" | .tuple => "tuple" | .isi => "isinstance"
def bltCalm : Blt → Bool
  | .max => true | .min => true | _ => false
def tyOk (n : String) : Bool := n == "int" || n == "bool" || n == "str" || n == "list" || n == "tuple" || n == "dict"
def bmNm : Bm → Str
  | .none => "" | .append => "append" | .extend => "extend" | .pop => "pop" | .reverse => "reverse" | .clear => "clear"
def bmIs : Bm → Bool
  | .none => true | _ => false
/-- no call without arguments of a name ahead of a dot -/
def baseOk : Expr → Bool
  | .Call (.Name _ _) [] [] _ => false
  | _ => true
def noSlice : Expr → Bool
  | .Slice .. => false
  | _ => true
/-- the places of a target of names alone -/
def ntOk (c : Ck) : Nt → Expr → Bool
  | .one i, .Name y _ => decide (c.N[i]? = some y) && c.loc y
  | .many is, .Tuple xs _ _ => decide (is.length = xs.length) && (is.zip xs).all fun p => match p.2 with | .Name y _ => decide (c.N[p.1]? = some y) && c.loc y | _ => false
  | _, _ => false
def seqOk : Expr → Option (List Expr)
  | .ListComp .. => none | .SetComp .. => none | .DictComp .. => none | .Set .. => none | .Starred .. => none | .Tuple .. => none
  | x => some [x]
def rngOk (c : Ck) (x : Expr) : Option (List Expr) := match x with
  | .Call (.Name y _) ys [] _ => if decide (y = ("range" : Str)) && c.gl y && c.T.blt y && (decide (ys.length = 1) || decide (ys.length = 2)) then some ys else none
  | _ => none
def isTup : Expr → Bool
  | .Tuple .. => true
  | _ => false
def enumOk (c : Ck) (tg x : Expr) : Option (List Expr) := match x with
  | .Call (.Name y _) [a] [] _ => if decide (y = ("enumerate" : Str)) && c.gl y && c.T.blt y && isTup tg then some [a] else none
  | _ => none
def iterOk (c : Ck) (tg : Expr) : Ik → Expr → Option (List Expr)
  | .seq => seqOk
  | .rng => rngOk c
  | .enum => enumOk c tg
/-- the block's own names, with their places -/
def ownOf (N : List Str) (vs : List Nat) : List (Str × Nat) := vs.map fun i => (N.getD i "", i)
def Ck.blk (c : Ck) (names : List (Str × NameKind)) : Ck := ⟨c.N, names, c.T, c.k, c.calm⟩
def blkD (c : Ck) (scope : Scope) (own : List (Str × Nat)) : Bool :=
  (match scope.kind with | .function => true | _ => false) && (scope.names.all fun y => decide (scope.names.lookup y.1 = some y.2)) && (own.all fun p => decide (c.N[p.2]? = some p.1)) &&
    (scope.names.all fun y => match y.2 with
      | .free => c.cap y.1
      | .local => decide (y.1 ∈ own.map (·.1)) || decide (y.1 ∉ c.N)
      | .cell => decide (y.1 ∈ own.map (·.1)) || decide (y.1 ∉ c.N)
      | _ => true)
def partOk : Option Expr → List Expr
  | none => []
  | some e => [e]
section
mutual
def okE : Ck → E → Expr → Bool
  | c, .var i, e => match e with
    | .Name x _ => decide (c.N[i]? = some x) && c.vis x && plainName x
    | _ => false
  | c, .con x, e => match e with
    | .Name y _ => decide (x = y) && c.gl x && plainName x
    | _ => false
  | c, .ty n, e => match e with
    | .Name y _ => decide (Str.ofString n = y) && c.gl y && plainName y && tyOk n && c.T.blt y
    | _ => false
  | c, .int i, e => match e with
    | .Constant (.int j) _ _ => decide (i = j)
    | _ => false
  | c, .bl b, e => match e with
    | .Constant (.bool j) _ _ => decide (b = j)
    | _ => false
  | c, .non, e => match e with
    | .Constant .none _ _ => true
    | _ => false
  | c, .str x, e => match e with
    | .Constant (.str y) _ _ => decide (x = y)
    | _ => false
  | c, .tup es, e => match e with
    | .Tuple xs _ _ => okA c es xs
    | _ => false
  | c, .lst es, e => match e with
    | .List xs _ => okA c es xs
    | _ => false
  | c, .bin o a b, e => match e with
    | .BinOp x p y _ => opOk o p && okE c a x && okE c b y
    | _ => false
  | c, .neg a, e => match e with
    | .UnaryOp .USub x _ => okE c a x
    | _ => false
  | c, .cmp o a b, e => match e with
    | .Compare x [p] [y] _ => cpOk o p && okE c a x && okE c b y
    | _ => false
  | c, .chain o o' a b d, e => match e with
    | .Compare x [p, p'] [y, z] _ => cpOk o p && cpOk o' p' && okE c a x && okE c b y && okE c d z
    | _ => false
  | c, .and es, e => match e with
    | .BoolOp .And xs _ => okA c es xs
    | _ => false
  | c, .or es, e => match e with
    | .BoolOp .Or xs _ => okA c es xs
    | _ => false
  | c, .not a, e => match e with
    | .UnaryOp .Not x _ => okE c a x
    | _ => false
  | c, .ife a b d, e => match e with
    | .IfExp x y z _ => okE c a x && okE c b y && okE c d z
    | _ => false
  | c, .fld a f, e => match e with
    | .Attribute x g _ => decide (f = g) && baseOk x && okE c a x && (match c.T.prop f with | some lv => decide (lv + 1 ≤ c.k) | none => true)
    | _ => false
  | c, .ix a b, e => match e with
    | .Subscript x y _ => noSlice y && okE c a x && okE c b y
    | _ => false
  | c, .call x es, e => match e with
    | .Call (.Name y _) ys [] _ => decide (x = y) && c.gl x && plainName x && okA c es ys && (match c.T.fn x with | some (lv, n) => decide (lv ≤ c.k) && decide (n = es.len) | none => false)
    | _ => false
  | c, .make x es, e => match e with
    | .Call (.Name y _) ys [] _ => decide (x = y) && c.gl x && plainName x && okA c es ys && (match c.T.cls x with | some (lv, n) => decide (lv + 1 ≤ c.k) && decide (n = es.len) | none => false)
    | _ => false
  | c, .blt b es, e => match e with
    | .Call (.Name y _) ys [] _ => decide (bltNm b = y) && c.gl y && plainName y && c.T.blt y && okA c es ys && decide (0 < es.len) && (!bltCalm b || c.calm)
    | _ => false
  | c, .meth a m b es, e => match e with
    | .Call (.Attribute x g ap) ys [] p => decide (m = g) && baseOk x && okE c a x && okA c es ys && decide (es.len < 29) && (ap.endLine == p.line) && (bmIs b || decide (bmNm b = m)) &&
      (match c.T.meth m with | some (lv, n) => decide (lv ≤ c.k) && decide (n = es.len) | none => true)
    | _ => false
  | c, .lc vs g k is cs el, e => match e with
    | .ListComp x [⟨t, i, ifs, a⟩] scope _ => c.calm && decide (a = 0) && blkD c scope (ownOf c.N vs) && (g.slots.all fun j => decide (j ∈ vs)) && ntOk (c.blk scope.names) g t && okE (c.blk scope.names) el x && okA (c.blk scope.names) cs ifs && decide (cs.len ≤ 1) &&
      (match iterOk c t k i with | some ys => okA c is ys | none => false)
    | _ => false
  | _, .dnew, e => match e with
    | .Dict [] [] _ => true
    | _ => false
  | c, .olen a, e => match e with
    | .Call (.Name y _) [x] [] _ => decide (y = ("len" : Str)) && c.gl y && c.T.blt y && okE c a x && (match c.T.meth "__len__" with | some (lv, n) => decide (lv + 1 ≤ c.k) && decide (n = 0) | none => false)
    | _ => false
  | c, .sl a lo hi, e => match e with
    | .Subscript x (.Slice l h none _) _ => okE c a x && okA c lo (partOk l) && okA c hi (partOk h)
    | _ => false
def okA : Ck → Es → List Expr → Bool
  | c, .nil, xs => xs.isEmpty
  | c, .cons e r, xs => match xs with
    | x :: ys => okE c e x && okA c r ys
    | [] => false
end
end
/-- what a place in the program gives -/
structure XOk (G : Glob) (c : Ck) (X : Cx) (W : WX) : Prop where
  N : X.N = c.N
  nd : X.N.Nodup
  vis : ∀ x, c.vis x = true → Vis X.env.scope x
  gl : ∀ x, c.gl x = true → Gl X x
  loc : ∀ x, c.loc x = true → Loc X.env.scope x ∧ (X.fn x = true ∨ X.env.scope.names.lookup x = some .local)
  cap : ∀ x, c.cap x = true → X.env.scope.names.lookup x = some .cell ∨ X.env.scope.names.lookup x = some .free
  calm : c.calm = true → X.calm = true
  room : Room c.k X.A
  tk : Takes X W
  gok : GOk G c.T c.k X.prog X.w X.K X.mg X.base
  own : PassesOwn (model X.prog X.w) X.A X.env X.xe
  prp : ∀ C f sp, G.prop C f = some sp → (c.T.prop f).isSome = true

theorem okE_star {c : Ck} : ∀ (e : E) (x : Expr) (p : Pos), okE c e (.Starred x p) = false := by
  intro e x p; cases e <;> rfl
theorem star_of {c : Ck} {e : E} {x : Expr} {r : List Expr} {env : Env} (h : okE c e x = true) : starEach (x :: r) env = (false, eval x env) :: starEach r env := by
  cases x <;> first | rfl | (rw [okE_star] at h; cases h)
theorem starA {c : Ck} : ∀ (es : Es) (xs : List Expr) (env : Env), okA c es xs = true → starEach xs env = xs.map fun x => (false, eval x env)
  | .nil, xs, env, h => by
    cases xs with
    | nil => rfl
    | cons => cases h
  | .cons e r, xs, env, h => by
    cases xs with
    | nil => cases h
    | cons x ys =>
      have h : (okE c e x && okA c r ys) = true := h
      rw [Bool.and_eq_true] at h
      rw [star_of h.1, starA r ys env h.2]; rfl
theorem lenA {c : Ck} : ∀ (es : Es) (xs : List Expr), okA c es xs = true → xs.length = es.len
  | .nil, xs, h => by
    cases xs with
    | nil => rfl
    | cons => cases h
  | .cons e r, xs, h => by
    cases xs with
    | nil => cases h
    | cons x ys =>
      have h : (okE c e x && okA c r ys) = true := h
      rw [Bool.and_eq_true] at h
      show ys.length + 1 = r.len + 1
      rw [lenA r ys h.2]
theorem plain_backTo {pos : Pos} {env : Env} : ∀ xs : List Expr, (backTo pos (xs.map fun x => (false, eval x env))).any (·.1) = false
  | [] => rfl
  | _ :: r => plain_backTo r
theorem plain_form {pos : Pos} {env : Env} : ∀ xs : List Expr, (backTo pos (xs.map fun x => (false, eval x env))).all (!·.1) = true
  | [] => rfl
  | _ :: r => plain_form r
theorem form_of {c : Ck} {es : Es} {xs : List Expr} {pos : Pos} {env : Env} (h : okA c es xs = true) (hl : es.len < 29) : methodCallForm (xs.length + 0) (backTo pos (starEach xs env)) (backToKw pos (keywordEach [] env)) = true := by
  rw [starA es xs env h]
  unfold methodCallForm
  rw [plain_form]
  show (true && true && decide (xs.length + 0 + 0 < 30)) = true
  rw [lenA es xs h]
  simp only [Bool.and_self, Bool.true_and, decide_eq_true_eq]; omega
theorem base_of {x : Expr} {f : Str} {env : Env} (h : baseOk x = true) : ∀ w, attributeBase x f env w = w := by
  intro w
  cases x with
  | Call g as ks p =>
    cases g with
    | Name y q =>
      cases as with
      | nil =>
        cases ks with
        | nil => cases h
        | cons => rfl
      | cons => rfl
    | _ => rfl
  | _ => rfl
theorem plain_of {x : Str} (h : plainName x = true) : (x == ("__debug__" : Str)) = false ∧ (x == ("__classdict__" : Str)) = false ∧ x ≠ "__name__" := by
  unfold plainName at h
  simp only [Bool.and_eq_true, Bool.not_eq_true'] at h
  exact ⟨h.1.1, h.1.2, fun z => by rw [z] at h; exact absurd h.2 (by decide)⟩
theorem ty_boot {n : String} (h : tyOk n = true) : bootBuiltins (Str.ofString n) = some (.type n) := by
  unfold tyOk at h
  simp only [Bool.or_eq_true, beq_iff_eq] at h
  rcases h with ((((h | h) | h) | h) | h) | h <;> subst h <;> decide +kernel
end LL

namespace LL
open PySem L2

theorem pe_false {X : Cx} {W : WX} {e : Expr} : PE X e (upE X.K W wFalse) := ⟨fun _ _ _ _ _ _ ⟨_, _, _, _, _, _, _, _, q, _⟩ => q.elim⟩
theorem pt_false {X : Cx} {W : WX} {e : Expr} : PT X e (upT X.K W fun _ _ _ _ => False) := ⟨fun _ _ _ _ _ _ ⟨_, _, _, _, _, _, _, _, q, _⟩ => q.elim⟩
theorem pw_false {X : Cx} {W : WX} {e : Expr} : PW X e (upT X.K W fun _ _ _ _ => False) := ⟨fun _ _ _ _ _ _ _ ⟨_, _, _, _, _, _, _, _, q, _⟩ => q.elim⟩
theorem le_ex {X : Cx} {W : WX} {e : Expr} {α : Type} {f : α → LTE} (h : ∀ a, PE X e (upE X.K W (f a))) : PE X e (upE X.K W fun s h Q XL => ∃ a, f a s h Q XL) :=
  ⟨fun pins s σ H Q I ⟨m, h', ls, QL, XL, e1, r, rs, ⟨a, q⟩, c, ce⟩ => (h a).run pins s σ H Q I ⟨m, h', ls, QL, XL, e1, r, rs, q, c, ce⟩⟩
theorem le_and_ {X : Cx} {W : WX} {e : Expr} {p : Prop} {f : LTE} (h : p → PE X e (upE X.K W f)) : PE X e (upE X.K W fun s h Q XL => p ∧ f s h Q XL) :=
  ⟨fun pins s σ H Q I ⟨m, h', ls, QL, XL, e1, r, rs, ⟨a, q⟩, c, ce⟩ => (h a).run pins s σ H Q I ⟨m, h', ls, QL, XL, e1, r, rs, q, c, ce⟩⟩
theorem opOk.of {X : Cx} : ∀ {o : Op} {p : Operator}, opOk o p = true → OpR X (binaryOp p) (upR2 X.K (opR o))
  | .add, p, h => by cases p <;> first | (cases h; done) | exact lo_add
  | .sub, p, h => by cases p <;> first | (cases h; done) | exact li_sub
  | .mul, p, h => by cases p <;> first | (cases h; done) | exact li_mul
  | .fdiv, p, h => by cases p <;> first | (cases h; done) | exact li_fdiv
  | .mod, p, h => by cases p <;> first | (cases h; done) | exact li_mod
  | .pow, p, h => by cases p <;> first | (cases h; done) | exact li_pow
theorem cpOk.of {X : Cx} (hu : X.A.units + 64 < cLine) : ∀ {o : Cp} {p : CmpOp}, cpOk o p = true → OpR X (compareOp p) (upR2 X.K (cpR o))
  | .eq, p, h => by cases p <;> first | (cases h; done) | exact li_eq hu
  | .ne, p, h => by cases p <;> first | (cases h; done) | exact li_ne hu
  | .lt, p, h => by cases p <;> first | (cases h; done) | exact li_cmp op_lt
  | .le, p, h => by cases p <;> first | (cases h; done) | exact li_cmp op_le
  | .gt, p, h => by cases p <;> first | (cases h; done) | exact li_cmp op_gt
  | .ge, p, h => by cases p <;> first | (cases h; done) | exact li_cmp op_ge
  | .is, p, h => by cases p <;> first | (cases h; done) | exact li_isN
  | .isn, p, h => by cases p <;> first | (cases h; done) | exact li_notN
theorem cpOk.mark {o : Cp} {p : CmpOp} (h : cpOk o p = true) (b : Expr) : behindInMarks p b = false := by
  cases o <;> cases p <;> first | (cases h; done) | rfl | exact nomark b
theorem cpOk.marks {o o' : Cp} {p p' : CmpOp} (h : cpOk o p = true) (h' : cpOk o' p' = true) (b d : Expr) : lastMarks [p, p'] [b, d] = false := cpOk.mark h' d
theorem bm_of {X : Cx} {m : Str} : ∀ (b : Bm) (n : Nat) (r : LRM), (bmIs b || decide (bmNm b = m)) = true → lstM b n = some r → BM X "list" m r
  | .none, n, r, _, e => by cases n with
    | zero => cases e
    | succ n => cases n <;> cases e
  | .append, n, r, h, e => by
    obtain rfl : bmNm .append = m := of_decide_eq_true (by simpa [bmIs] using h)
    match n, e with
    | 1, e => cases e; exact ⟨_, PySem.F.plainAttrs_list, PySem.F.slot_list_append, PySem.F.type_list_append, lm_append⟩
  | .extend, n, r, h, e => by
    obtain rfl : bmNm .extend = m := of_decide_eq_true (by simpa [bmIs] using h)
    match n, e with
    | 1, e => cases e; exact ⟨_, PySem.F.plainAttrs_list, PySem.F.slot_list_extend, PySem.F.type_list_extend, lm_extend⟩
  | .pop, n, r, h, e => by
    obtain rfl : bmNm .pop = m := of_decide_eq_true (by simpa [bmIs] using h)
    match n, e with
    | 0, e => cases e; exact ⟨_, PySem.F.plainAttrs_list, PySem.F.slot_list_pop, PySem.F.type_list_pop, lm_pop⟩
    | 1, e => cases e; exact ⟨_, PySem.F.plainAttrs_list, PySem.F.slot_list_pop, PySem.F.type_list_pop, lm_popAt⟩
  | .reverse, n, r, h, e => by
    obtain rfl : bmNm .reverse = m := of_decide_eq_true (by simpa [bmIs] using h)
    match n, e with
    | 0, e => cases e; exact ⟨_, PySem.F.plainAttrs_list, PySem.F.slot_list_reverse, PySem.F.type_list_reverse, lm_reverse⟩
  | .clear, n, r, h, e => by
    obtain rfl : bmNm .clear = m := of_decide_eq_true (by simpa [bmIs] using h)
    match n, e with
    | 0, e => cases e; exact ⟨_, PySem.F.plainAttrs_list, PySem.F.slot_list_clear, PySem.F.type_list_clear, lm_clear⟩
section
variable {G : Glob} {c : Ck} {X : Cx} {W : WX}
theorem bltOk.of (b : Blt) (hc : bltCalm b = true → X.calm = true) {y x : Expr} {es : List Expr} {n : Nat} {tas : LTA} {p pos : Pos} (hg : Gl X (bltNm b)) (hm : X.mg (bltNm b) = none) (ha : PA X (x :: es) (upA X.K W n tas))
    (he : starEach (x :: es) X.env = (false, eval x X.env) :: starEach es X.env) (hpl : (backTo pos (starEach es X.env)).any (·.1) = false) : PE X (.Call (.Name (bltNm b) p) (x :: es) [] pos) (upE X.K W (wCB (bltR b) tas)) := by
  cases b
  · exact le_cb li_len hg hm PySem.boot_len ha (by decide) (by decide) he hpl
  · exact le_ct li_int hg hm (by decide +kernel) ha (by decide) (by decide) he hpl
  · exact le_cb li_abs hg hm (by decide +kernel) ha (by decide) (by decide) he hpl
  · exact le_cb (li_max (hc rfl)) hg hm (by decide +kernel) ha (by decide) (by decide) he hpl
  · exact le_cb (li_min (hc rfl)) hg hm (by decide +kernel) ha (by decide) (by decide) he hpl
  · exact le_ct li_list hg hm (by decide +kernel) ha (by decide) (by decide) he hpl
  · exact le_ct li_tuple hg hm (by decide +kernel) ha (by decide) (by decide) he hpl
  · exact le_cb li_isi hg hm (by decide +kernel) ha (by decide) (by decide) he hpl
theorem XOk.hu (o : XOk G c X W) : X.A.units + 1 < cLine := by have := o.room.un; omega
theorem XOk.hu64 (o : XOk G c X W) : X.A.units + 64 < cLine := by have := o.room.un; omega
theorem plainSl {b : Expr} (h : noSlice b = true) : PlainIx b := by
  intro o i
  cases b <;> first | rfl | cases h
/-- what is shown of a piece of text -/
def Snd (G : Glob) (c : Ck) (X : Cx) (W : WX) (e : E) (x : Expr) : Prop := PE X x (upE X.K W (wpE G c.T e)) ∧ PT X x (upT X.K W (wpT G c.T e))
def SndA (G : Glob) (c : Ck) (X : Cx) (W : WX) (es : Es) (xs : List Expr) : Prop := PA X xs (upA X.K W es.len (sems G c.T es).a) ∧
  ∀ pos, (PE X (.BoolOp .And xs pos) (upE X.K W (sems G c.T es).av) ∧ PE X (.BoolOp .Or xs pos) (upE X.K W (sems G c.T es).ov)) ∧ PW X (.BoolOp .And xs pos) (upT X.K W (sems G c.T es).at_) ∧ PW X (.BoolOp .Or xs pos) (upT X.K W (sems G c.T es).ot)
/-- of one alone -/
def SndO (G : Glob) (c : Ck) (X : Cx) (W : WX) (es : Es) (xs : List Expr) : Prop := ∀ x, xs = [x] → PE X x (upE X.K W (sems G c.T es).av) ∧ PT X x (upT X.K W (sems G c.T es).at_)
theorem snd_of {e : E} {x : Expr} {t : LTE} (ht : sem G c.T e = .of t) (h : PE X x (upE X.K W t)) (he : ∀ whole, isTrue x X.env whole = (do let v ← whole; standAt x.pos; holding [v] (truthy v))) : Snd G c X W e x := by
  unfold Snd wpE wpT
  rw [ht]
  exact ⟨h, lt_tru h he⟩
theorem relS_lk {sc : Scope} {x : Str} : ∀ {names : List (Str × NameKind)}, (names.map fun (n, k) => if (k == NameKind.free && sc.kind == .function && sc.names.lookup n == some .cell) then (n, NameKind.cell) else (n, k)).lookup x =
    (names.lookup x).map fun k => if (k == NameKind.free && sc.kind == .function && sc.names.lookup x == some .cell) then NameKind.cell else k
  | [] => rfl
  | (n, k) :: r => by
    show List.lookup x ((if (k == NameKind.free && sc.kind == .function && sc.names.lookup n == some .cell) = true then (n, NameKind.cell) else (n, k)) :: (r.map _)) = _
    by_cases hc : (k == NameKind.free && sc.kind == .function && sc.names.lookup n == some .cell) = true
    · rw [if_pos hc]
      cases e : (x == n) with
      | true =>
        have := eq_of_beq e
        subst this
        simp only [List.lookup_cons, e, Option.map_some]
        rw [if_pos hc]
      | false =>
        simp only [List.lookup_cons, e]
        exact relS_lk
    · rw [if_neg hc]
      cases e : (x == n) with
      | true =>
        have := eq_of_beq e
        subst this
        simp only [List.lookup_cons, e, Option.map_some]
        rw [if_neg hc]
      | false =>
        simp only [List.lookup_cons, e]
        exact relS_lk
theorem kept_relS {sc : Scope} {names : List (Str × NameKind)} {x : Str} {k : NameKind} (h : names.lookup x = some k) (hk : k ≠ .free) :
    (names.map fun (n, k) => if (k == NameKind.free && sc.kind == .function && sc.names.lookup n == some .cell) then (n, NameKind.cell) else (n, k)).lookup x = some k := lookup_relS_keep hk h
theorem free_relS {sc : Scope} {names : List (Str × NameKind)} {x : Str} (h : names.lookup x = some .free) :
    (names.map fun (n, k) => if (k == NameKind.free && sc.kind == .function && sc.names.lookup n == some .cell) then (n, NameKind.cell) else (n, k)).lookup x = some .cell ∨
    (names.map fun (n, k) => if (k == NameKind.free && sc.kind == .function && sc.names.lookup n == some .cell) then (n, NameKind.cell) else (n, k)).lookup x = some .free := by
  rw [relS_lk, h, Option.map_some]
  split
  · exact .inl rfl
  · exact .inr rfl
theorem blk_ok (o : XOk G c X W) {scope : Scope} (_ : c.calm = true) (s : Shared) (H : Hp) (C : Addr) (cl : List (Str × Addr)) (fp : List Addr) : XOk G (c.blk scope.names) (X.blk s H scope (compEnvC scope cl C X.env) fp) noX where
  N := o.N
  nd := o.nd
  vis := fun x hx => by
    unfold Ck.vis Ck.blk at hx
    split at hx
    · rename_i e; exact .inl (kept_relS e (by decide))
    · rename_i e; exact .inr (.inl (kept_relS e (by decide)))
    · rename_i e; exact .inr (free_relS e)
    · cases hx
  gl := fun x hx => by
    unfold Ck.gl Ck.blk at hx
    split at hx
    · rename_i e; exact kept_relS e (by decide)
    · cases hx
  loc := fun x hx => by
    unfold Ck.loc Ck.blk at hx
    split at hx
    · rename_i e; exact ⟨.inl (kept_relS e (by decide)), .inr (kept_relS e (by decide))⟩
    · rename_i e; exact ⟨.inr (kept_relS e (by decide)), .inl (by show (scope.names.lookup x == some .cell) = true; rw [e]; rfl)⟩
    · cases hx
  cap := fun x hx => by
    unfold Ck.cap Ck.blk at hx
    split at hx
    · rename_i e; exact .inl (kept_relS e (by decide))
    · rename_i e; exact free_relS e
    · cases hx
  calm := o.calm
  room := o.room
  tk := fun u s' ⟨_, _, _, _, _, _, _, _, _, _, _, _, _, _, _, _, w⟩ => w.elim
  gok := o.gok
  own := PassesOwn.never
  prp := o.prp
theorem blkOk_of (o : XOk G c X W) {scope : Scope} {own : List (Str × Nat)} (h : blkD c scope own = true) : BlkOk X.N X.env.scope scope own := by
  unfold blkD at h
  simp only [Bool.and_eq_true, List.all_eq_true, decide_eq_true_eq] at h
  obtain ⟨⟨⟨h1, h2⟩, h3⟩, h4⟩ := h
  rw [← o.N] at h3 h4
  refine ⟨?_, h2, h3, fun y hy e => ?_, fun y hy e => ?_⟩
  · split at h1
    · assumption
    · cases h1
  · have q := h4 y hy
    simp only [e] at q
    exact o.cap _ q
  · have q := h4 y hy
    rcases e with e | e <;> (simp only [e, Bool.or_eq_true, decide_eq_true_eq] at q; exact q)
theorem pgs_nts (o : XOk G c X W) : ∀ (is : List Nat) (xs : List Expr), is.length = xs.length → ((is.zip xs).all fun p => match p.2 with | .Name y _ => decide (c.N[p.1]? = some y) && c.loc y | _ => false) = true →
    PGs X xs (gMany is) ∧ assignEach xs X.env = xs.map fun x => (false, assign x X.env)
  | [], xs, hl, h => by
    cases xs with
    | nil => exact ⟨pgs_nil, rfl⟩
    | cons => simp at hl
  | i :: is, xs, hl, h => by
    cases xs with
    | nil => simp at hl
    | cons x xs =>
      rw [List.zip_cons_cons, List.all_cons, Bool.and_eq_true] at h
      obtain ⟨h1, h2⟩ := h
      obtain ⟨p, e⟩ := pgs_nts o is xs (by simpa using hl) h2
      cases x <;> first | cases h1; done | skip
      simp only [Bool.and_eq_true, decide_eq_true_eq] at h1
      obtain ⟨l1, l2⟩ := o.loc _ h1.2
      refine ⟨pgs_cons (pg_name o.nd (by rw [o.N]; exact h1.1) l1 l2) p rfl, ?_⟩
      show (false, _) :: assignEach xs X.env = _
      rw [e]
      rfl
theorem pg_nt (o : XOk G c X W) {g : Nt} {t : Expr} (h : ntOk c g t = true) (hc : c.calm = true) : PG X t (gNt X.K g) := by
  unfold ntOk at h
  split at h
  · simp only [Bool.and_eq_true, decide_eq_true_eq] at h
    obtain ⟨l1, l2⟩ := o.loc _ h.2
    exact pg_name o.nd (by rw [o.N]; exact h.1) l1 l2
  · rename_i is xs _ _
    rw [Bool.and_eq_true, decide_eq_true_eq] at h
    obtain ⟨p, e⟩ := pgs_nts o is xs h.1 h.2
    exact pg_tup (o.calm hc) p (by rw [e, List.length_map, h.1]) (by
      rw [e]
      have : ∀ ys : List Expr, (ys.map fun x => (false, assign x X.env)).findIdx? (·.1) = none := by
        intro ys
        induction ys with
        | nil => rfl
        | cons y ys ih => simp [List.findIdx?_cons, ih]
      exact this xs)
  · cases h
theorem pts_weak {cs : List Expr} {t t' : TT} (h : PTs X cs t) (i : ∀ σ H Q, t' σ H Q → t σ H Q) : PTs X cs t' := ⟨fun pins s σ H Q I q => h.run pins s σ H Q I (i _ _ _ q)⟩
theorem pts_of (_ : XOk G c X W) {cs : Es} {xs : List Expr} (h : okA c cs xs = true) (hl : cs.len ≤ 1) (hs : SndO G c X W cs xs) : PTs X xs (upT X.K W (cs.cond (sems G c.T cs).at_)) := by
  have hx := lenA cs xs h
  cases cs with
  | nil =>
    cases xs with
    | nil => exact pts_weak pts_nil fun σ H Q ⟨m, h, s, QL, XL, e1, r, rs, q, c, ce⟩ => by subst e1; exact c m h true (Ext.refl m) r q
    | cons => cases hx
  | cons e r =>
    cases r with
    | nil =>
      match xs, hx with
      | [x], _ => exact pts_one (hs x rfl).2
    | cons => exact absurd hl (by simp [Es.len])
theorem po_of {e : Option Expr} {es : Es} (h : okA c es (partOk e) = true) (hs : SndO G c X W es (partOk e)) : PO X e (upO X.K W (es.part (sems G c.T es).av)) := by
  have hx := lenA es _ h
  cases e with
  | none =>
    cases es with
    | nil => exact lo_none
    | cons => cases hx
  | some x =>
    cases es with
    | nil => cases hx
    | cons e r => exact lo_some (hs x rfl).1
theorem star2 {is : Es} {ys : List Expr} {env : Env} (h : okA c is ys = true) {a b : Expr} (e : ys = [a, b]) : starEach [b] env = [(false, eval b env)] := by
  subst e
  cases is with
  | nil => cases h
  | cons e r =>
    have h : (okE c e a && okA c r [b]) = true := h
    rw [Bool.and_eq_true] at h
    exact starA r [b] env h.2
theorem it_ok (o : XOk G c X W) (tg : Expr) (k : Ik) {is : Es} {x : Expr} {ys : List Expr} (hy : iterOk c tg k x = some ys) (ha : PA X ys (upA X.K W is.len (sems G c.T is).a)) (h1 : ∀ z, ys = [z] → PE X z (upE X.K W (sems G c.T is).av))
    (st : starEach ys X.env = ys.map fun x => (false, eval x X.env)) (ln : ys.length = is.len) (st2 : ∀ {a b : Expr}, ys = [a, b] → starEach [b] X.env = [(false, eval b X.env)]) : PI X tg x (upIt X.K W (wIk k (sems G c.T is).a)) ∧ ∀ v, foldedSetIterable x X.env v = pure v := by
  cases k with
  | seq =>
    have e : ys = [x] ∧ ∀ v, foldedSetIterable x X.env v = pure v := by
      cases x <;> first | (cases hy; done) | (cases hy; exact ⟨rfl, fun _ => rfl⟩)
    obtain ⟨rfl, hf⟩ := e
    refine ⟨?_, hf⟩
    cases is with
    | nil => cases ln
    | cons e r =>
      cases r with
      | nil => exact lj_seq (h1 x rfl)
      | cons => cases ln
  | rng =>
    replace hy : rngOk c x = some ys := hy
    unfold rngOk at hy
    split at hy
    · rename_i y p zs pos
      split at hy
      · rename_i hc
        cases hy
        simp only [Bool.and_eq_true, decide_eq_true_eq, Bool.or_eq_true] at hc
        obtain ⟨⟨⟨rfl, h2⟩, h3⟩, h4⟩ := hc
        refine ⟨?_, fun _ => rfl⟩
        rcases h4 with h4 | h4
        · match ys, h4 with
          | [a], _ =>
            rw [← ln] at ha
            exact lj_rng1 (o.gl _ h2) (o.gok.blt _ h3) ha st
        · match ys, h4 with
          | [a, b], _ =>
            rw [← ln] at ha
            exact lj_rng2 (o.gl _ h2) (o.gok.blt _ h3) ha st (st2 rfl)
      · cases hy
    · cases hy
  | enum =>
    replace hy : enumOk c tg x = some ys := hy
    unfold enumOk at hy
    split at hy
    · rename_i y p a pos
      split at hy
      · rename_i hc
        cases hy
        simp only [Bool.and_eq_true, decide_eq_true_eq] at hc
        obtain ⟨⟨⟨rfl, h2⟩, h3⟩, h4⟩ := hc
        refine ⟨?_, fun _ => rfl⟩
        rw [← ln] at ha
        cases tg <;> first | (cases h4; done) | exact lj_enum (o.gl _ h2) (o.gok.blt _ h3) ha st
      · cases hy
    · cases hy
mutual
theorem soundE : ∀ {c : Ck} {X : Cx} {W : WX} (_ : XOk G c X W) (e : E) (x : Expr), okE c e x = true → Snd G c X W e x
  | c, X, W, o, .var i, x, h => by
    unfold okE at h
    split at h
    · simp only [Bool.and_eq_true, decide_eq_true_eq] at h
      obtain ⟨⟨h1, h2⟩, h3⟩ := h
      obtain ⟨p1, p2, p3⟩ := plain_of h3
      exact snd_of rfl (le_var (pe_var (by rw [o.N]; exact h1) (o.vis _ h2) p1 p2)) fun _ => rfl
    · cases h
  | c, X, W, o, .con y, x, h => by
    unfold okE at h
    split at h
    · simp only [Bool.and_eq_true, decide_eq_true_eq] at h
      obtain ⟨⟨rfl, h2⟩, h3⟩ := h
      obtain ⟨p1, p2, p3⟩ := plain_of h3
      refine snd_of rfl (le_ex fun v => le_and_ fun hv => ?_) fun _ => rfl
      obtain ⟨u, w, hm, rv, rl⟩ := o.gok.con _ _ hv
      exact le_c (x := v) (pe_glob (o.gl _ h2) hm rv p1) rl
    · cases h
  | c, X, W, o, .ty n, x, h => by
    unfold okE at h
    split at h
    · simp only [Bool.and_eq_true, decide_eq_true_eq] at h
      obtain ⟨⟨⟨⟨rfl, h2⟩, h3⟩, h4⟩, h5⟩ := h
      obtain ⟨p1, p2, p3⟩ := plain_of h3
      exact snd_of rfl (le_c (pe_bltn (v := .ty n) (o.gl _ h2) (o.gok.blt _ h5) (ty_boot h4) rfl p3 p1) fun _ => rfl) fun _ => rfl
    · cases h
  | c, X, W, o, .int i, x, h => by
    unfold okE at h
    split at h
    · obtain rfl := of_decide_eq_true h
      exact snd_of rfl (le_c pe_int fun _ => rfl) fun _ => rfl
    · cases h
  | c, X, W, o, .bl i, x, h => by
    unfold okE at h
    split at h
    · obtain rfl := of_decide_eq_true h
      exact snd_of rfl (le_c pe_bl fun _ => rfl) fun _ => rfl
    · cases h
  | c, X, W, o, .non, x, h => by
    unfold okE at h
    split at h
    · exact snd_of rfl (le_c pe_non fun _ => rfl) fun _ => rfl
    · cases h
  | c, X, W, o, .str i, x, h => by
    unfold okE at h
    split at h
    · obtain rfl := of_decide_eq_true h
      exact snd_of rfl (le_c pe_str fun _ => rfl) fun _ => rfl
    · cases h
  | c, X, W, o, .tup es, x, h => by
    unfold okE at h
    split at h
    · exact snd_of rfl (le_tup (soundA o es _ h).1.1) fun _ => rfl
    · cases h
  | c, X, W, o, .lst es, x, h => by
    unfold okE at h
    split at h
    · exact snd_of rfl (le_lst (soundA o es _ h).1.1) fun _ => rfl
    · cases h
  | c, X, W, o, .bin p a b, x, h => by
    unfold okE at h
    split at h
    · simp only [Bool.and_eq_true] at h
      obtain ⟨⟨h1, h2⟩, h3⟩ := h
      exact snd_of rfl (le_bin (opOk.of h1) (soundE o a _ h2).1 (soundE o b _ h3).1) fun _ => rfl
    · cases h
  | c, X, W, o, .neg a, x, h => by
    unfold okE at h
    split at h
    · exact snd_of rfl (le_un li_neg (soundE o a _ h).1) fun _ => rfl
    · cases h
  | c, X, W, o, .cmp p a b, x, h => by
    unfold okE at h
    split at h
    · simp only [Bool.and_eq_true] at h
      obtain ⟨⟨h1, h2⟩, h3⟩ := h
      exact ⟨le_cmp (cpOk.of o.hu64 h1) (soundE o a _ h2).1 (soundE o b _ h3).1 (cpOk.mark h1 _), lt_cmp (cpOk.of o.hu64 h1) (soundE o a _ h2).1 (soundE o b _ h3).1 (cpOk.mark h1 _)⟩
    · cases h
  | c, X, W, o, .chain p p' a b d, x, h => by
    unfold okE at h
    split at h
    · simp only [Bool.and_eq_true] at h
      obtain ⟨⟨⟨⟨h1, h2⟩, h3⟩, h4⟩, h5⟩ := h
      exact ⟨le_chain (cpOk.of o.hu64 h1) (cpOk.of o.hu64 h2) (soundE o a _ h3).1 (soundE o b _ h4).1 (soundE o d _ h5).1 fun x y z => pe_chain (cpOk.of o.hu64 h1) (cpOk.of o.hu64 h2) x y z (cpOk.marks h1 h2 _ _),
        lt_chain (cpOk.of o.hu64 h1) (cpOk.of o.hu64 h2) (soundE o a _ h3).1 (soundE o b _ h4).1 (soundE o d _ h5).1 (cpOk.marks h1 h2 _ _)⟩
    · cases h
  | c, X, W, o, .and es, x, h => by
    unfold okE at h
    split at h
    · rename_i xs pos
      obtain ⟨⟨h1, h2⟩, h3, h4⟩ := (soundA o es _ h).1.2 pos
      exact ⟨h1, h3.pt⟩
    · cases h
  | c, X, W, o, .or es, x, h => by
    unfold okE at h
    split at h
    · rename_i xs pos
      obtain ⟨⟨h1, h2⟩, h3, h4⟩ := (soundA o es _ h).1.2 pos
      exact ⟨h2, h4.pt⟩
    · cases h
  | c, X, W, o, .not a, x, h => by
    unfold okE at h
    split at h
    · exact ⟨le_not (soundE o a _ h).1, lt_not (soundE o a _ h).2⟩
    · cases h
  | c, X, W, o, .ife a b d, x, h => by
    unfold okE at h
    split at h
    · simp only [Bool.and_eq_true] at h
      obtain ⟨⟨h1, h2⟩, h3⟩ := h
      exact ⟨le_if (soundE o a _ h1).2 (soundE o b _ h2).1 (soundE o d _ h3).1, pt_false⟩
    · cases h
  | c, X, W, o, .fld a f, x, h => by
    unfold okE at h
    split at h
    · simp only [Bool.and_eq_true, decide_eq_true_eq] at h
      obtain ⟨⟨⟨rfl, h2⟩, h3⟩, h4⟩ := h
      refine snd_of rfl (le_fld o.gok o.room (fun C sp gp => ?_) (soundE o a _ h3).1 (base_of h2 _)) fun _ => rfl
      have z := o.prp C f sp gp
      split at h4
      · rename_i lv e; exact ⟨lv, e, of_decide_eq_true h4⟩
      · rename_i e; rw [e] at z; cases z
    · cases h
  | c, X, W, o, .ix a b, x, h => by
    unfold okE at h
    split at h
    · simp only [Bool.and_eq_true] at h
      obtain ⟨⟨h1, h2⟩, h3⟩ := h
      exact snd_of rfl (le_ix o.hu (soundE o a _ h2).1 (soundE o b _ h3).1 (plainSl h1)) fun _ => rfl
    · cases h
  | c, X, W, o, .call y es, x, h => by
    unfold okE at h
    split at h
    · rename_i z p ys pos
      simp only [Bool.and_eq_true, decide_eq_true_eq] at h
      obtain ⟨⟨⟨⟨rfl, h2⟩, h3⟩, h4⟩, h5⟩ := h
      obtain ⟨p1, p2, p3⟩ := plain_of h3
      have st := starA es ys X.env h4
      have ln := lenA es ys h4
      split at h5
      · rename_i lv n e
        simp only [Bool.and_eq_true, decide_eq_true_eq] at h5
        obtain ⟨h5, rfl⟩ := h5
        obtain ⟨sp, f, e1, e2, e3, F⟩ := o.gok.fn _ _ _ e h5
        refine snd_of rfl (le_ex fun sp' => le_and_ fun es' => ?_) fun _ => rfl
        rw [e1] at es'; cases es'
        cases ys with
        | nil =>
          cases es with
          | nil => exact le_call0 o.tk F (o.room.mono h5) (o.gl _ h2) e2 e3 p1
          | cons => cases ln
        | cons y0 ys =>
          refine le_call o.tk F (o.room.mono h5) (o.gl _ h2) e2 e3 (soundA o es _ h4).1.1 p1 ?_ ?_
          · cases es with
            | nil => cases ln
            | cons e0 r =>
              have h4 : (okE c e0 y0 && okA c r ys) = true := h4
              rw [Bool.and_eq_true] at h4
              exact star_of h4.1
          · cases es with
            | nil => cases ln
            | cons e0 r =>
              have h4 : (okE c e0 y0 && okA c r ys) = true := h4
              rw [Bool.and_eq_true] at h4
              rw [starA r ys X.env h4.2]; exact plain_backTo ys
      · cases h5
    · cases h
  | c, X, W, o, .make y es, x, h => by
    unfold okE at h
    split at h
    · rename_i z p ys pos
      simp only [Bool.and_eq_true, decide_eq_true_eq] at h
      obtain ⟨⟨⟨⟨rfl, h2⟩, h3⟩, h4⟩, h5⟩ := h
      obtain ⟨p1, p2, p3⟩ := plain_of h3
      have ln := lenA es ys h4
      split at h5
      · rename_i lv n e
        simp only [Bool.and_eq_true, decide_eq_true_eq] at h5
        obtain ⟨h5, rfl⟩ := h5
        obtain ⟨C, sp, f, e1, e2, M, F⟩ := o.gok.cls _ _ _ e h5
        refine snd_of rfl (le_ex fun C' => le_ex fun sp' => le_and_ fun es' => ?_) fun _ => rfl
        rw [e1] at es'; cases es'
        cases ys with
        | nil =>
          cases es with
          | nil => exact le_make0 o.tk M F (o.room.mono h5) (o.gl _ h2) e2 p1
          | cons => cases ln
        | cons y0 ys =>
          refine le_make o.tk M F (o.room.mono h5) (o.gl _ h2) e2 (soundA o es _ h4).1.1 p1 ?_ ?_
          · cases es with
            | nil => cases ln
            | cons e0 r =>
              have h4 : (okE c e0 y0 && okA c r ys) = true := h4
              rw [Bool.and_eq_true] at h4
              exact star_of h4.1
          · cases es with
            | nil => cases ln
            | cons e0 r =>
              have h4 : (okE c e0 y0 && okA c r ys) = true := h4
              rw [Bool.and_eq_true] at h4
              rw [starA r ys X.env h4.2]; exact plain_backTo ys
      · cases h5
    · cases h
  | c, X, W, o, .blt b es, x, h => by
    unfold okE at h
    split at h
    · rename_i z p ys pos
      simp only [Bool.and_eq_true, decide_eq_true_eq] at h
      obtain ⟨⟨⟨⟨⟨⟨rfl, h2⟩, h3⟩, h4⟩, h5⟩, h6⟩, h7⟩ := h
      have ln := lenA es ys h5
      cases ys with
      | nil => rw [← ln] at h6; cases h6
      | cons y0 ys =>
        cases es with
        | nil => cases ln
        | cons e0 r =>
          have h8 : (okE c e0 y0 && okA c r ys) = true := h5
          rw [Bool.and_eq_true] at h8
          refine snd_of rfl (bltOk.of b (fun z => ?_) (y := y0) (o.gl _ h2) (o.gok.blt _ h4) (soundA o (.cons e0 r) _ h5).1.1 (star_of h8.1) (by rw [starA r ys X.env h8.2]; exact plain_backTo ys)) fun _ => rfl
          rw [z] at h7
          exact o.calm (by simpa using h7)
    · cases h
  | c, X, W, o, .meth a m b es, x, h => by
    unfold okE at h
    split at h
    · rename_i z g ap ys pos
      simp only [Bool.and_eq_true, decide_eq_true_eq] at h
      obtain ⟨⟨⟨⟨⟨⟨⟨rfl, h2⟩, h3⟩, h4⟩, h5⟩, h6⟩, h7⟩, h8⟩ := h
      have ln := lenA es ys h4
      have hev := hev_of (mt := m) (pos := pos) (apos := ap) (base_of h2 (eval z X.env)) (form_of (pos := pos) (env := X.env) h4 h5) h6
      have hl : ∀ r, lstM b es.len = some r → BM X "list" m r := fun r e => bm_of b _ r (by simpa using h7) e
      have hi : (c.T.meth m).isSome = true → ∃ lv, c.T.meth m = some (lv, es.len) ∧ lv ≤ c.k := fun z => by
        split at h8
        · rename_i lv n e
          simp only [Bool.and_eq_true, decide_eq_true_eq] at h8
          exact ⟨lv, by rw [e, h8.2], h8.1⟩
        · rename_i e; rw [e] at z; cases z
      cases ys with
      | nil =>
        cases es with
        | nil => exact snd_of rfl (le_mth0 o.tk o.gok o.room hl (fun _ e => by cases e) hi (soundE o a _ h3).1 hev) fun _ => rfl
        | cons => cases ln
      | cons y0 ys =>
        cases es with
        | nil => cases ln
        | cons e0 r =>
          have h9 : (okE c e0 y0 && okA c r ys) = true := h4
          rw [Bool.and_eq_true] at h9
          exact snd_of rfl (le_mth o.tk o.gok o.room hl (fun _ e => by cases e) hi (soundE o a _ h3).1 (soundA o (.cons e0 r) _ h4).1.1 (star_of h9.1) (by rw [starA r ys X.env h9.2]; exact plain_backTo ys) hev) fun _ => rfl
    · cases h
  | c, X, W, o, .lc vs g k is cs el, x, h => by
    unfold okE at h
    split at h
    · rename_i y t i ifs a scope pos
      simp only [Bool.and_eq_true, decide_eq_true_eq, List.all_eq_true] at h
      obtain ⟨⟨⟨⟨⟨⟨⟨⟨h1, rfl⟩, h2⟩, h3⟩, h4⟩, h5⟩, h6⟩, h7⟩, h8⟩ := h
      split at h8
      · rename_i ys hy
        have hi := it_ok o t k hy (soundA o is ys h8).1.1 (fun z e => ((soundA o is ys h8).2 z e).1) (starA is ys X.env h8) (lenA is ys h8) (star2 h8)
        have e : (ownOf c.N vs).map (·.2) = vs := by unfold ownOf; rw [List.map_map]; exact List.map_id' vs
        refine snd_of rfl (le_lc ?_ h3) fun _ => rfl
        rw [← e]
        refine pe_lc (o.calm h1) o.nd hi.1 (blkOk_of o h2) (fun s H C cl fp => ?_) (fun s H C cl fp => ?_) (fun s H C cl fp => ?_) hi.2
        · exact pg_nt (blk_ok o h1 s H C cl fp) h4 h1
        · exact pts_of (blk_ok o h1 s H C cl fp) h6 h7 (soundA (blk_ok o h1 s H C cl fp) cs ifs h6).2
        · exact (soundE (blk_ok o h1 s H C cl fp) el _ h5).1
      · cases h8
    · cases h
  | c, X, W, o, .dnew, x, h => by
    unfold okE at h
    split at h
    · exact snd_of rfl le_dnew fun _ => rfl
    · cases h
  | c, X, W, o, .olen a, x, h => by
    unfold okE at h
    split at h
    · rename_i y p z pos
      simp only [Bool.and_eq_true, decide_eq_true_eq] at h
      obtain ⟨⟨⟨⟨rfl, h2⟩, h3⟩, h4⟩, h5⟩ := h
      split at h5
      · rename_i lv n e
        simp only [Bool.and_eq_true, decide_eq_true_eq] at h5
        obtain ⟨h5, rfl⟩ := h5
        exact snd_of rfl (le_olen o.gok o.room e h5 (o.gl _ h2) (o.gok.blt _ h3) (soundE o a z h4).1 (star_of h4)) fun _ => rfl
      · cases h5
    · cases h
  | c, X, W, o, .sl a lo hi, x, h => by
    unfold okE at h
    split at h
    · simp only [Bool.and_eq_true] at h
      obtain ⟨⟨h1, h2⟩, h3⟩ := h
      exact snd_of rfl (le_sl (soundE o a _ h1).1 (po_of h2 (soundA o lo _ h2).2) (po_of h3 (soundA o hi _ h3).2)) fun _ => rfl
    · cases h
theorem soundA : ∀ {c : Ck} {X : Cx} {W : WX} (_ : XOk G c X W) (es : Es) (xs : List Expr), okA c es xs = true → SndA G c X W es xs ∧ SndO G c X W es xs
  | c, X, W, o, .nil, xs, h => by
    cases xs with
    | nil => exact ⟨⟨la_nil, fun pos => ⟨⟨pe_false, pe_false⟩, pw_false, pw_false⟩⟩, fun _ z => nomatch z⟩
    | cons => cases h
  | c, X, W, o, .cons e r, xs, h => by
    cases xs with
    | nil => cases h
    | cons x ys =>
      have h : (okE c e x && okA c r ys) = true := h
      rw [Bool.and_eq_true] at h
      obtain ⟨he, ht⟩ := soundE o e x h.1
      obtain ⟨⟨ha, hb⟩, _⟩ := soundA o r ys h.2
      cases r with
      | nil =>
        cases ys with
        | nil => exact ⟨⟨la_cons he la_nil (star_of h.1), fun pos => ⟨⟨le_one he, le_one he⟩, lw_and1 ht, lw_or1 ht⟩⟩, fun z e => by cases e; exact ⟨he, ht⟩⟩
        | cons => exact absurd h.2 (by intro z; cases z)
      | cons e' r' =>
        cases ys with
        | nil => exact absurd h.2 (by intro z; cases z)
        | cons y ys => exact ⟨⟨la_cons he ha (star_of h.1), fun pos => ⟨⟨le_and he (hb pos).1.1, le_or he (hb pos).1.2⟩, lw_and ht (hb pos).2.1, lw_or ht (hb pos).2.2⟩⟩, fun z e => nomatch e⟩
end
end
end LL

namespace LL
open PySem L2

def Tgs.len : Tgs → Nat
  | .nil => 0
  | .cons _ r => r.len + 1
def noComp : Expr → Bool
  | .ListComp .. => false | .SetComp .. => false | .DictComp .. => false | .Set .. => false | .Starred .. => false | .Tuple .. => false
  | _ => true
/-- a comprehension is stored as any value is -/
def lcTg (c : Ck) : Expr → Expr → Bool
  | .Name t p, .ListComp _ _ _ q => !(decide (c.nm.lookup t = some .local)) || !(p.line == q.line)
  | .Subscript .., .ListComp .. => true
  | _, _ => false
/-- .. the name's store stands within it -/
def lcSw (c : Ck) : Expr → Expr → Bool
  | .Name t p, .ListComp _ [⟨_, _, _, _⟩] sc q => decide (c.nm.lookup t = some .local) && (p.line == q.line) && !(sc.names.any fun (n, k) => n == t && (k == .local || k == .cell))
  | _, _ => false
section
variable (c : Ck)
mutual
def okG : Tg → Expr → Bool
  | .name i, x => match x with
    | .Name y _ => decide (c.N[i]? = some y) && c.loc y
    | _ => false
  | .tup n gs, x => match x with
    | .Tuple xs _ _ => c.calm && decide (n = gs.len) && okGs gs xs
    | _ => false
  | .sub o i, x => match x with
    | .Subscript a b _ => noSlice b && okE c o a && okE c i b
    | _ => false
def okGs : Tgs → List Expr → Bool
  | .nil, xs => xs.isEmpty
  | .cons g r, xs => match xs with
    | x :: ys => okG g x && okGs r ys
    | [] => false
end
def okI (tg : Expr) : Iz → Expr → Bool
  | .seq e, x => noComp x && okE c e x
  | .enum es, x => match enumOk c tg x with
    | some ys => okA c es ys
    | none => false
  | .rng es, x => match x with
    | .Call (.Name y _) ys [] _ => decide (y = ("range" : Str)) && c.gl y && c.T.blt y && okA c es ys && (decide (es.len = 1) || decide (es.len = 2))
    | _ => false
mutual
def okS : S → Stmt → Bool
  | .expr e, x => match x with
    | .Expr y _ => noComp y && okE c e y
    | _ => false
  | .ret e, x => match x with
    | .Return (some y) _ => okE c e y
    | _ => false
  | .retN, x => match x with
    | .Return none _ => true
    | _ => false
  | .asg g e, x => match x with
    | .Assign [t] y _ => (noComp y || (match g, y with | .name _, .Tuple .. => true | .sub .., .Tuple .. => true | _, _ => false) || lcTg c t y || lcSw c t y) && okG c g t && okE c e y
    | _ => false
  | .fld o f e, x => match x with
    | .Assign [.Attribute a g _] y _ => (noComp y || (match y with | .Tuple .. => true | _ => false)) && decide (f = g) && okE c o a && okE c e y
    | _ => false
  | .flda o f e, x => match x with
    | .AugAssign (.Attribute a g _) .Add y _ => decide (f = g) && okE c o a && okE c e y
    | _ => false
  | .ifs e a b, x => match x with
    | .If y xs ys _ => okE c e y && okSs a xs && okSs b ys
    | _ => false
  | .whl e b, x => match x with
    | .While y xs [] _ => okE c e y && okSs b xs
    | _ => false
  | .for g i b, x => match x with
    | .For t y xs [] _ => c.calm && noComp y && okG c g t && okI c t i y && okSs b xs
    | _ => false
  | .brk, x => match x with
    | .Break _ => true
    | _ => false
  | .cnt, x => match x with
    | .Continue _ => true
    | _ => false
  | .pass, x => match x with
    | .Pass _ => true
    | _ => false
  | .rais y, x => match x with
    | .Raise (some (.Call (.Name z _) [.Constant (.str _) _ _] [] _)) none _ => decide (y = z) && c.gl z && plainName z && c.calm
    | _ => false
def okSs : Ss → List Stmt → Bool
  | .nil, xs => xs.isEmpty
  | .cons s r, xs => match xs with
    | x :: ys => okS s x && okSs r ys
    | [] => false
end
end
section
variable {G : Glob} {c : Ck} {X : Cx} {W : WX}
theorem nc_swaps {x : Expr} (h : noComp x = true) (tg : Option Expr) (l : Nat) (env : Env) : swapsWith x tg l env = pure false := by
  cases x <;> first | rfl | cases h
theorem tup_swaps {es : List Expr} {k : Nat} {p : Pos} (tg : Option Expr) (l : Nat) (env : Env) : swapsWith (.Tuple es k p) tg l env = pure false := rfl
theorem nc_stores {x t : Expr} (h : noComp x = true) (env : Env) : swappedStores [t] x env = pure none := by
  cases x <;> first | (cases h; done) | (cases t <;> rfl)
theorem nc_fold {x : Expr} (h : noComp x = true) (env : Env) : ∀ v, foldedSetIterable x env v = pure v := by
  intro v; cases x <;> first | rfl | cases h
theorem okG_star {g : Tg} {x : Expr} {p : Pos} : okG c g (.Starred x p) = false := by cases g <;> rfl
theorem asgn_one {g : Tg} {t : Expr} (h : okG c g t = true) (r : List Expr) (env : Env) : assignEach (t :: r) env = (false, assign t env) :: assignEach r env := by
  cases t <;> first | rfl | (rw [okG_star] at h; cases h)
theorem asgn_all : ∀ (gs : Tgs) (xs : List Expr) (env : Env), okGs c gs xs = true → assignEach xs env = xs.map fun x => (false, assign x env)
  | .nil, xs, env, h => by
    cases xs with
    | nil => rfl
    | cons => cases h
  | .cons g r, xs, env, h => by
    cases xs with
    | nil => cases h
    | cons x ys =>
      have h : (okG c g x && okGs c r ys) = true := h
      rw [Bool.and_eq_true] at h
      rw [asgn_one h.1, asgn_all r ys env h.2]; rfl
theorem asgn_len : ∀ (gs : Tgs) (xs : List Expr), okGs c gs xs = true → xs.length = gs.len
  | .nil, xs, h => by
    cases xs with
    | nil => rfl
    | cons => cases h
  | .cons g r, xs, h => by
    cases xs with
    | nil => cases h
    | cons x ys =>
      have h : (okG c g x && okGs c r ys) = true := h
      rw [Bool.and_eq_true] at h
      show ys.length + 1 = r.len + 1
      rw [asgn_len r ys h.2]
theorem find_plain (env : Env) : ∀ xs : List Expr, (xs.map fun x => (false, assign x env)).findIdx? (·.1) = none
  | [] => rfl
  | _ :: r => by simp [List.findIdx?_cons, find_plain env r]
mutual
theorem soundG (o : XOk G c X W) : ∀ (g : Tg) (x : Expr), okG c g x = true → PG X x (upG X.K W (wpG G c.T g))
  | .name i, x, h => by
    unfold okG at h
    split at h
    · simp only [Bool.and_eq_true, decide_eq_true_eq] at h
      obtain ⟨l1, l2⟩ := o.loc _ h.2
      exact lg_name (pg_name o.nd (by rw [o.N]; exact h.1) l1 l2)
    · cases h
  | .tup n gs, x, h => by
    unfold okG at h
    split at h
    · rename_i xs k p
      simp only [Bool.and_eq_true, decide_eq_true_eq] at h
      obtain ⟨⟨h1, rfl⟩, h3⟩ := h
      have e := asgn_all gs xs X.env h3
      exact lg_tup (pg_tup (o.calm h1) (soundGs o gs xs h3) (by rw [e, List.length_map]; exact asgn_len gs xs h3) (by rw [e]; exact find_plain _ xs))
    · cases h
  | .sub a b, x, h => by
    unfold okG at h
    split at h
    · rename_i y z p
      simp only [Bool.and_eq_true] at h
      obtain ⟨⟨h1, h2⟩, h3⟩ := h
      refine lg_sub o.hu (soundE o a _ h2).1 (soundE o b _ h3).1 fun p1 p2 p3 => pg_sub p1 p2 p3 ?_
      intro v
      cases z <;> first | rfl | cases h1
    · cases h
theorem soundGs (o : XOk G c X W) : ∀ (gs : Tgs) (xs : List Expr), okGs c gs xs = true → PGs X xs (upGs X.K W (wpGs G c.T gs))
  | .nil, xs, h => by
    cases xs with
    | nil => exact lgs_nil
    | cons => cases h
  | .cons g r, xs, h => by
    cases xs with
    | nil => cases h
    | cons x ys =>
      have h : (okG c g x && okGs c r ys) = true := h
      rw [Bool.and_eq_true] at h
      exact lgs_cons (h := fun p1 p2 => pgs_cons p1 p2 (by rw [asgn_one h.1]; rfl)) (soundG o g x h.1) (soundGs o r ys h.2)
end
theorem soundI (o : XOk G c X W) (tg : Expr) : ∀ (i : Iz) (x : Expr), okI c tg i x = true → PI X tg x (upIt X.K W (wpI G c.T i))
  | .seq e, x, h => by
    simp only [okI, Bool.and_eq_true] at h
    exact lj_seq (soundE o e x h.2).1
  | .enum es, x, h => by
    simp only [okI] at h
    split at h
    · rename_i ys hy
      exact (it_ok o tg .enum hy (soundA o es ys h).1.1 (fun z e => ((soundA o es ys h).2 z e).1) (starA es ys X.env h) (lenA es ys h) (star2 h)).1
    · cases h
  | .rng es, x, h => by
    simp only [okI] at h
    split at h
    · rename_i y p ys pos
      simp only [Bool.and_eq_true, decide_eq_true_eq, Bool.or_eq_true] at h
      obtain ⟨⟨⟨⟨rfl, h2⟩, h3⟩, h4⟩, h5⟩ := h
      have st := starA es ys X.env h4
      have ln := lenA es ys h4
      have ha := (soundA o es ys h4).1.1
      rcases h5 with h5 | h5
      · rw [h5] at ln ha
        match ys, ln with
        | [a], _ => exact lj_rng1 (o.gl _ h2) (o.gok.blt _ h3) ha st
      · rw [h5] at ln ha
        match ys, ln with
        | [a, b], _ => exact lj_rng2 (o.gl _ h2) (o.gok.blt _ h3) ha st (by
            have := st
            cases es with
            | nil => cases h5
            | cons e r =>
              have h4 : (okE c e a && okA c r [b]) = true := h4
              rw [Bool.and_eq_true] at h4
              exact starA r [b] X.env h4.2)
    · simp at h
theorem ls_rais {G : Glob} {T : Tab} {k : Nat} {X : Cx} {W : WX} {x m : Str} {j : Nat} {p p2 pos pos2 : Pos} (g : GOk G T k X.prog X.w X.K X.mg X.base) (tk : Takes X W) (hc : X.calm = true) (hg : Gl X x) (hdb : (x == ("__debug__" : Str)) = false) :
    PS X (.Raise (some (.Call (.Name x p) [.Constant (.str m) j p2] [] pos)) none pos2) (upS X.K W (wRais G x)) := by
  refine ⟨fun pins s σ H D I ⟨m', h, ls, DL, e1, r, rs, ⟨C, hC, q⟩, ec⟩ => ?_⟩
  obtain ⟨hm, ex⟩ := g.exc x C hC
  subst e1
  exact (ps_raise hc tk (pmk_own PySem.F.excBase_ValueError ex.exc hm ex.keep (raises_own ex.sub ex.typ) hg hdb)).run pins s σ _ D I (ec.xc m' h ls σ C (Ext.refl m') r rs q)
/-- the scope is the def's own -/
structure FSc (c : Ck) (X : Cx) : Prop where
  nm : X.env.scope.names = c.nm
  kind : X.env.scope.kind = .function
theorem lcTg_swaps (fs : FSc c X) {t y : Expr} (h : lcTg c t y = true) {l : Nat} : swapsWith y (some t) l X.env = pure false := by
  unfold lcTg at h
  split at h
  · rename_i x p el gs sc q
    have ky : X.env.kindOf x = c.nm.lookup x := by rw [← fs.nm]; rfl
    unfold swapsWith
    simp only [ky, Expr.pos]
    rw [Bool.or_eq_true] at h
    rcases h with h | h
    · have h : ¬ (c.nm.lookup x = some .local) := by simpa using h
      have e : (c.nm.lookup x == some NameKind.local) = false := by
        cases z : c.nm.lookup x with
        | none => rfl
        | some k => cases k <;> first | rfl | exact absurd z h
      simp only [e, Bool.and_false, Bool.false_and] <;> rfl
    · have h : (p.line == q.line) = false := by simpa using h
      simp only [h, Bool.and_false, Bool.false_and] <;> rfl
  · rfl
  · cases h
theorem lcTg_stores {t y : Expr} (h : lcTg c t y = true) {env : Env} : swappedStores [t] y env = pure none := by
  unfold lcTg at h
  split at h
  · rfl
  · rfl
  · cases h
theorem lc_set (o : XOk G c X W) (fs : FSc c X) {g : Tg} {e : E} {t y : Expr} {pos : Pos} (h2 : okG c g t = true) (h3 : okE c e y = true) (h : lcSw c t y = true) : PS X (.Assign [t] y pos) (upS X.K W (wpS G c.T (.asg g e))) := by
  unfold lcSw at h
  split at h
  · rename_i x p el t1 i1 ifs1 a1 sc q
    simp only [Bool.and_eq_true, decide_eq_true_eq, Bool.not_eq_true'] at h
    obtain ⟨⟨hl, hp⟩, ha⟩ := h
    have hyl : X.env.scope.names.lookup x = some .local := by rw [fs.nm]; exact hl
    cases g with
    | name j =>
      have h2 : (decide (c.N[j]? = some x) && c.loc x) = true := h2
      rw [Bool.and_eq_true, decide_eq_true_eq] at h2
      cases e <;> first | (cases h3; done) | skip
      rename_i vs g k is cs el'
      show PS X _ (upS X.K W (wAsg (wpE G c.T (.lc vs g k is cs el')) (vName j)))
      unfold okE at h3
      simp only [Bool.and_eq_true, decide_eq_true_eq, List.all_eq_true] at h3
      obtain ⟨⟨⟨⟨⟨⟨⟨⟨h1, rfl⟩, h2'⟩, h3⟩, h4⟩, h5⟩, h6⟩, h7⟩, h8⟩ := h3
      split at h8
      · rename_i ys hy
        have hi := it_ok o t1 k hy (soundA o is ys h8).1.1 (fun z e => ((soundA o is ys h8).2 z e).1) (starA is ys X.env h8) (lenA is ys h8) (star2 h8)
        have e : (ownOf c.N vs).map (·.2) = vs := by unfold ownOf; rw [List.map_map]; exact List.map_id' vs
        refine ls_setLc ?_ h3
        rw [← e]
        refine ps_setLc (o.calm h1) o.nd (by rw [o.N]; exact h2.1) hyl (sw_true fs.kind hyl hp ha) hi.1 (blkOk_of o h2') (fun s H C cl fp => ?_) (fun s H C cl fp => ?_) (fun s H C cl fp => ?_) hi.2
        · exact pg_nt (blk_ok o h1 s H C cl fp) h4 h1
        · exact pts_of (blk_ok o h1 s H C cl fp) h6 h7 (soundA (blk_ok o h1 s H C cl fp) cs ifs1 h6).2
        · exact (soundE (blk_ok o h1 s H C cl fp) el' _ h5).1
      · cases h8
    | tup n gs => cases h2
    | sub a b => cases h2
  · cases h
mutual
theorem soundS (o : XOk G c X W) (fs : FSc c X) : ∀ (s : S) (x : Stmt), okS c s x = true → PS X x (upS X.K W (wpS G c.T s))
  | .expr e, x, h => by
    unfold okS at h
    split at h
    · rw [Bool.and_eq_true] at h
      exact ls_expr (soundE o e _ h.2).1 (nc_swaps h.1 _ _ _)
    · cases h
  | .ret e, x, h => by
    unfold okS at h
    split at h
    · exact ls_ret (soundE o e _ h).1
    · cases h
  | .retN, x, h => by
    unfold okS at h
    split at h
    · exact ls_retN
    · cases h
  | .asg g e, x, h => by
    unfold okS at h
    split at h
    · rename_i t y pos
      simp only [Bool.and_eq_true] at h
      obtain ⟨⟨h1, h2⟩, h3⟩ := h
      rw [Bool.or_eq_true, Bool.or_eq_true, Bool.or_eq_true] at h1
      have ho : ((assignEach [t] X.env).map (·.2) = [assign t X.env]) := by rw [asgn_one h2]; rfl
      by_cases hsw : lcSw c t y = true
      · exact lc_set o fs h2 h3 hsw
      replace h1 := Or.elim h1 (fun z => z) (fun z => absurd z hsw)
      refine ls_asg (soundE o e _ h3).1 (soundG o g _ h2) ?_ ?_ ho
      · show swapsWith y (some t) _ _ = _
        rcases h1 with (h1 | h1) | h1
        · exact nc_swaps h1 _ _ _
        · cases y <;> first | rfl | (cases g <;> cases h1)
        · exact lcTg_swaps fs h1
      · rcases h1 with (h1 | h1) | h1
        · exact nc_stores h1 _
        rotate_left
        · exact lcTg_stores h1
        · cases g with
          | name i => cases t <;> first | (cases h2; done) | (cases y <;> rfl)
          | sub a b => cases t <;> first | (cases h2; done) | (cases y <;> rfl)
          | tup n gs => cases y <;> cases h1
    · cases h
  | .fld a f e, x, h => by
    unfold okS at h
    split at h
    · rename_i z g p y pos
      simp only [Bool.and_eq_true, decide_eq_true_eq] at h
      obtain ⟨⟨⟨h1, rfl⟩, h2⟩, h3⟩ := h
      rw [Bool.or_eq_true] at h1
      refine ls_fld o.gok (soundE o a _ h2).1 (soundE o e _ h3).1 ?_
      rcases h1 with h1 | h1
      · exact nc_swaps h1 _ _ _
      · cases y <;> first | rfl | cases h1
    · cases h
  | .flda a f e, x, h => by
    unfold okS at h
    split at h
    · simp only [Bool.and_eq_true, decide_eq_true_eq] at h
      obtain ⟨⟨rfl, h2⟩, h3⟩ := h
      exact ls_flda o.gok (soundE o a _ h2).1 (soundE o e _ h3).1
    · cases h
  | .ifs e a b, x, h => by
    unfold okS at h
    split at h
    · simp only [Bool.and_eq_true] at h
      obtain ⟨⟨h1, h2⟩, h3⟩ := h
      exact ls_if (soundE o e _ h1).2 (soundSs o fs a _ h2) (soundSs o fs b _ h3)
    · cases h
  | .whl e b, x, h => by
    unfold okS at h
    split at h
    · simp only [Bool.and_eq_true] at h
      exact ls_while o.own (soundE o e _ h.1).2 (soundSs o fs b _ h.2)
    · cases h
  | .for g i b, x, h => by
    unfold okS at h
    split at h
    · simp only [Bool.and_eq_true] at h
      obtain ⟨⟨⟨⟨h1, h2⟩, h3⟩, h4⟩, h5⟩ := h
      exact ls_for o.own (o.calm h1) (soundI o _ i _ h4) (soundG o g _ h3) (soundSs o fs b _ h5) (nc_fold h2 _)
    · cases h
  | .brk, x, h => by
    unfold okS at h
    split at h
    · exact ls_brk
    · cases h
  | .cnt, x, h => by
    unfold okS at h
    split at h
    · exact ls_cnt
    · cases h
  | .pass, x, h => by
    unfold okS at h
    split at h
    · exact ls_pass
    · cases h
  | .rais y, x, h => by
    unfold okS at h
    split at h
    · simp only [Bool.and_eq_true, decide_eq_true_eq] at h
      obtain ⟨⟨⟨rfl, h2⟩, h3⟩, h4⟩ := h
      obtain ⟨p1, p2, p3⟩ := plain_of h3
      exact ls_rais o.gok o.tk (o.calm h4) (o.gl _ h2) p1
    · cases h
theorem soundSs (o : XOk G c X W) (fs : FSc c X) : ∀ (ss : Ss) (xs : List Stmt), okSs c ss xs = true → PSs X xs (upS X.K W (wpSs G c.T ss))
  | .nil, xs, h => by
    cases xs with
    | nil => exact ls_nil
    | cons => cases h
  | .cons s r, xs, h => by
    cases xs with
    | nil => cases h
    | cons x ys =>
      have h : (okS c s x && okSs c r ys) = true := h
      rw [Bool.and_eq_true] at h
      exact ls_cons (soundS o fs s x h.1) (soundSs o fs r ys h.2)
end
end
end LL

namespace LL
open PySem L2

/-! ### loops by a word -/
/-- n turns -/
theorem for_n {D : LEnds} {s : LSt} {h : LH} {g : LTG} {tb : LTS} {L : LIt} (n : Nat) (Pv : Nat → LSt → LH → Prop) (h0 : Pv 0 s h)
    (hs : ∀ i s h, i < n → Pv i s h → ∃ x, L i h = some (some x) ∧ g x s h (fun s2 h2 => tb { D with nx := Fgt (Pv (i + 1)), ct := Fgt (Pv (i + 1)), bk := D.nx } s2 h2) D.xc)
    (he : ∀ s h, Pv n s h → L n h = some none ∧ D.nx s h) :
    ∃ Wl : Nat → Nat → LSt → LH → Prop, (∃ n, Wl 0 n s h) ∧ ∀ i n s h, Wl i n s h → (L i h = some none ∧ D.nx s h) ∨ ∃ x, L i h = some (some x) ∧ ∃ N : LSt → LH → Prop, (∀ s' h', N s' h' → ∃ n', n' < n ∧ Wl (i + 1) n' s' h') ∧
      g x s h (fun s2 h2 => tb { D with nx := Fgt N, ct := Fgt N, bk := D.nx } s2 h2) D.xc := by
  refine ⟨fun i k s h => k = n - i ∧ i ≤ n ∧ Pv i s h, ⟨n, by simp, Nat.zero_le _, h0⟩, ?_⟩
  rintro i k s h ⟨rfl, hi, p⟩
  by_cases hlt : i < n
  · obtain ⟨x, hx, q⟩ := hs i s h hlt p
    exact .inr ⟨x, hx, Pv (i + 1), fun s' h' p' => ⟨n - (i + 1), by omega, rfl, hlt, p'⟩, q⟩
  · have e : i = n := by omega
    subst e
    exact .inl (he s h p)
theorem for_vals {D : LEnds} {s : LSt} {h : LH} {g : LTG} {tb : LTS} {xs : List LV} (Pv : Nat → LSt → LH → Prop) (h0 : Pv 0 s h)
    (hs : ∀ i x s h, xs[i]? = some x → Pv i s h → g x s h (fun s2 h2 => tb { D with nx := Fgt (Pv (i + 1)), ct := Fgt (Pv (i + 1)), bk := D.nx } s2 h2) D.xc)
    (he : ∀ s h, Pv xs.length s h → D.nx s h) :
    ∃ Wl : Nat → Nat → LSt → LH → Prop, (∃ n, Wl 0 n s h) ∧ ∀ i n s h, Wl i n s h → (valsIt xs i h = some none ∧ D.nx s h) ∨ ∃ x, valsIt xs i h = some (some x) ∧ ∃ N : LSt → LH → Prop, (∀ s' h', N s' h' → ∃ n', n' < n ∧ Wl (i + 1) n' s' h') ∧
      g x s h (fun s2 h2 => tb { D with nx := Fgt N, ct := Fgt N, bk := D.nx } s2 h2) D.xc :=
  for_n xs.length Pv h0 (fun i s h hi p => ⟨xs[i], by unfold valsIt; rw [List.getElem?_eq_getElem hi], hs i _ s h (List.getElem?_eq_getElem hi) p⟩) fun s h p => ⟨by unfold valsIt; rw [List.getElem?_eq_none (Nat.le_refl _)], he s h p⟩
theorem for_rng {D : LEnds} {s : LSt} {h : LH} {g : LTG} {tb : LTS} {lo : Int} {n : Nat} (Pv : Nat → LSt → LH → Prop) (h0 : Pv 0 s h)
    (hs : ∀ i s h, i < n → Pv i s h → g (.int (lo + i)) s h (fun s2 h2 => tb { D with nx := Fgt (Pv (i + 1)), ct := Fgt (Pv (i + 1)), bk := D.nx } s2 h2) D.xc)
    (he : ∀ s h, Pv n s h → D.nx s h) :
    ∃ Wl : Nat → Nat → LSt → LH → Prop, (∃ n, Wl 0 n s h) ∧ ∀ i n' s h, Wl i n' s h → (rngIt lo n i h = some none ∧ D.nx s h) ∨ ∃ x, rngIt lo n i h = some (some x) ∧ ∃ N : LSt → LH → Prop, (∀ s' h', N s' h' → ∃ k, k < n' ∧ Wl (i + 1) k s' h') ∧
      g x s h (fun s2 h2 => tb { D with nx := Fgt N, ct := Fgt N, bk := D.nx } s2 h2) D.xc :=
  for_n n Pv h0 (fun i s h hi p => ⟨_, by unfold rngIt; rw [if_pos hi], hs i s h hi p⟩) fun s h p => ⟨by unfold rngIt; rw [if_neg (Nat.lt_irrefl _)], he s h p⟩
/-- over a list that stays as it is -/
theorem for_lst {D : LEnds} {s : LSt} {h : LH} {g : LTG} {tb : LTS} {n : Nm} {v : Nat} {xs : List LV} (Pv : Nat → LSt → LH → Prop) (h0 : Pv 0 s h) (hl : ∀ i s h, Pv i s h → h n = some (v, .lst xs))
    (hs : ∀ i x s h, xs[i]? = some x → Pv i s h → g x s h (fun s2 h2 => tb { D with nx := Fgt (Pv (i + 1)), ct := Fgt (Pv (i + 1)), bk := D.nx } s2 h2) D.xc)
    (he : ∀ s h, Pv xs.length s h → D.nx s h) :
    ∃ Wl : Nat → Nat → LSt → LH → Prop, (∃ n, Wl 0 n s h) ∧ ∀ i n' s h, Wl i n' s h → (listIt n v i h = some none ∧ D.nx s h) ∨ ∃ x, listIt n v i h = some (some x) ∧ ∃ N : LSt → LH → Prop, (∀ s' h', N s' h' → ∃ k, k < n' ∧ Wl (i + 1) k s' h') ∧
      g x s h (fun s2 h2 => tb { D with nx := Fgt N, ct := Fgt N, bk := D.nx } s2 h2) D.xc :=
  for_n xs.length Pv h0 (fun i s h hi p => ⟨xs[i], by unfold listIt; rw [hl i s h p]; simp [List.getElem?_eq_getElem hi], hs i _ s h (List.getElem?_eq_getElem hi) p⟩) fun s h p => ⟨by unfold listIt; rw [hl _ s h p]; simp, he s h p⟩

/-! ### a def keeps its promise -/
def start (N : List Str) (xs : List LV) : LSt := xs.map some ++ List.replicate (N.length - xs.length) none
/-- behind the body, up to what is forgotten -/
def Fin (Q : LQ) : LQ := fun v h => ∃ h0, LH.le h0 h ∧ Q v h0
theorem fin {Q : LQ} {v : LV} {h : LH} (q : Q v h) : Fin Q v h := ⟨h, LH.le_refl h, q⟩
def ends (Q : LQ) (X : LX) : LEnds := { nx := fun _ h => Fin Q .non h, rt := Fin Q, xc := fun c _ h => X c h }
/-- what is to be shown of a def, in plain terms -/
def Keeps (G : Glob) (T : Tab) (N : List Str) (n : Nat) (body : Ss) (sp : LSp) : Prop := ∀ xs h Q X, xs.length = n → sp xs h Q X → wpSs G T body (ends Q X) (start N xs) h
theorem fn_ok {G : Glob} {T : Tab} {P : Program} {w : World} {K : PySem.W.Frag} {mg : Str → Option Value} {base : Heap} {x qual : Str} {st : Stmt} {f : Addr} {fd : FuncData} {N ps : List Str} {k : Nat} {sp : LSp} {body : Ss} (F : L2.Fun K x qual st f fd) (S : FnScope N ps (defScope st))
    (g : GOk G T k P w K mg base) (hp : ∀ C f sp, G.prop C f = some sp → (T.prop f).isSome = true) (ok : okSs ⟨N, (defScope st).names, T, k, true⟩ body (defBody st) = true) (kp : Keeps G T N ps.length body sp) : FnOk P w K mg base (L2.CX P w) (k + 1) f fd ps (liftSp K ps.length sp) := by
  refine F.okX S (fun vs H Q E h => ?_) (fun cdv A outer s H vs Q E hr h => ?_)
  · obtain ⟨m, h, xs, QL, XL, e1, r, rv, hn, _⟩ := h
    rw [rv.length, hn]
  · obtain ⟨m, h, xs, QL, XL, e1, r, rv, hn, q, c, ce⟩ := h
    have vs_len := rv.length
    let X := cxOf (L2.CX P w) P w K mg base N qual (defScope st) f cdv A outer s H E
    have o : XOk G ⟨N, (defScope st).names, T, k, true⟩ X (fun cls d _ H => E cls d H) :=
      { N := rfl, nd := S.nd
        vis := fun x hx => by
          unfold Ck.vis at hx
          split at hx
          · rename_i e; exact .inl e
          · rename_i e; exact .inr (.inl e)
          · rename_i e; exact .inr (.inr e)
          · cases hx
        gl := fun x hx => by
          unfold Ck.gl at hx
          split at hx
          · rename_i e; exact e
          · cases hx
        loc := fun x hx => by
          unfold Ck.loc at hx
          split at hx
          · rename_i e; exact ⟨.inl e, .inl rfl⟩
          · rename_i e; exact ⟨.inr e, .inl rfl⟩
          · cases hx
        cap := fun x hx => by
          unfold Ck.cap at hx
          split at hx
          · rename_i e; exact .inl e
          · rename_i e; exact .inr e
          · cases hx
        calm := fun _ => rfl, room := hr, tk := takes_of rfl rfl rfl rfl, gok := g, own := passes_of rfl, prp := hp }
    refine ⟨_, soundSs o ⟨rfl, S.kind⟩ body _ ok, m, h, start N xs, _, e1, r, ?_, kp xs h QL XL hn q, ?_⟩
    · show SRel K m (start N xs) (L2.start N vs)
      unfold start L2.start
      rw [vs_len]
      exact SRel.start _ rv
    · exact ⟨fun m1 h1 s1 σ1 ex1 r1 _ ⟨h0, l0, q1⟩ => c m1 h0 .non _ ex1 (r1.le l0) rfl q1, fun m1 h1 x v ex1 r1 rx ⟨h0, l0, q1⟩ => c m1 h0 x v ex1 (r1.le l0) rx q1, fun _ _ _ _ _ _ _ z => z.elim, fun _ _ _ _ _ _ _ z => z.elim, fun m1 h1 s1 σ1 cc ex1 r1 _ q1 => ce m1 h1 cc ex1 r1 q1⟩

theorem fn_at {G : Glob} {T : Tab} {P : Program} {w : World} {K : PySem.W.Frag} {mg : Str → Option Value} {base : Heap} {x qual : Str} {st : Stmt} {f : Addr} {fd : FuncData} {N ps : List Str} {k : Nat} {sp : LSp} {body : Ss} (F : L2.Fun K x qual st f fd) (S : FnScope N ps (defScope st)) (b : Binds K fd ps [])
    (g : GOk G T k P w K mg base) (hp : ∀ C f sp, G.prop C f = some sp → (T.prop f).isSome = true) (ok : okSs ⟨N, (defScope st).names, T, k, true⟩ body (defBody st) = true) (kp : Keeps G T N ps.length body sp) : FnAt P w K mg base (k + 1) ps.length f sp := ⟨fd, ps, fn_ok F S g hp ok kp, b⟩

/-! ### the tables of a program -/
structure TabL where
  fn : List (Str × Nat × Nat)
  cls : List (Str × Nat × Nat)
  meth : List (Str × Nat × Nat)
  prop : List (Str × Nat)
  blt : List Str
def TabL.tab (t : TabL) : Tab := ⟨fun x => t.fn.lookup x, fun x => t.cls.lookup x, fun x => t.meth.lookup x, fun x => t.prop.lookup x, fun x => t.blt.any fun y => decide (y = x)⟩
/-- a def is ready: where all below it keep their promises it keeps its own -/
def Rdy (G : Glob) (T : Tab) (P : Program) (w : World) (K : PySem.W.Frag) (mg : Str → Option Value) (base : Heap) (lv n : Nat) (f : Addr) (sp : LSp) : Prop :=
  0 < lv ∧ (GOk G T (lv - 1) P w K mg base → FnAt P w K mg base lv n f sp)
theorem gok_of {G : Glob} {T : Tab} {P : Program} {w : World} {K : PySem.W.Frag} {mg : Str → Option Value} {base : Heap}
    (fn : ∀ x lv n, T.fn x = some (lv, n) → ∃ sp f, G.fn x = some sp ∧ mg x = some (.ref f) ∧ PySem.W.keepIn K (.ref f) = true ∧ Rdy G T P w K mg base lv n f sp)
    (cls : ∀ x lv n, T.cls x = some (lv, n) → ∃ C sp f, G.cls x = some (C, sp) ∧ mg x = some (.ref C) ∧ Mk K C f ∧ Rdy G T P w K mg base lv (n + 1) f sp)
    (meth : ∀ C m sp lv n, G.meth C m = some sp → T.meth m = some (lv, n) → ∃ f lv', lv' ≤ lv ∧ Cls K C ∧ Meth K C m f ∧ Rdy G T P w K mg base lv' (n + 1) f sp)
    (prop : ∀ C f sp lv, G.prop C f = some sp → T.prop f = some lv → ∃ p g lv', lv' ≤ lv ∧ Cls K C ∧ PropOf K C f p g ∧ Rdy G T P w K mg base lv' 1 g sp)
    (attr : ∀ C f, G.attr C f = true → Cls K C ∧ NoAttr K C f)
    (con : ∀ x v, G.con x = some v → ∃ u w, mg x = some u ∧ RelV w u ∧ ∀ m, VRel K m v w)
    (blt : ∀ x, T.blt x = true → mg x = none)
    (exc : ∀ x C, G.exc x = some C → mg x = some (.ref C) ∧ ExcAt K C) : ∀ k, GOk G T k P w K mg base := by
  have mono : ∀ {lv lv' n : Nat} {f : Addr} {sp : LSp}, lv' ≤ lv → FnAt P w K mg base lv' n f sp → FnAt P w K mg base lv n f sp := fun h ⟨fd, ps, F, B⟩ => ⟨fd, ps, F.mono h, B⟩
  have all : ∀ k, ∀ j, j ≤ k → GOk G T j P w K mg base := by
    intro k
    induction k with
    | zero =>
      intro j hj
      refine ⟨fun x lv n e h => ?_, fun x lv n e h => ?_, fun C m sp lv n e1 e2 h => ?_, fun C f sp lv e1 e2 h => ?_, attr, con, blt, exc⟩
      · obtain ⟨sp, f, a, b, c, d, _⟩ := fn x lv n e; omega
      · omega
      · obtain ⟨f, lv', a, b, c, d, _⟩ := meth C m sp lv n e1 e2; omega
      · omega
    | succ k ih =>
      intro j hj
      refine ⟨fun x lv n e h => ?_, fun x lv n e h => ?_, fun C m sp lv n e1 e2 h => ?_, fun C f sp lv e1 e2 h => ?_, attr, con, blt, exc⟩
      · obtain ⟨sp, f, a, b, c, d, r⟩ := fn x lv n e
        exact ⟨sp, f, a, b, c, r (ih _ (by omega))⟩
      · obtain ⟨C, sp, f, a, b, c, d, r⟩ := cls x lv n e
        exact ⟨C, sp, f, a, b, c, r (ih _ (by omega))⟩
      · obtain ⟨f, lv', a, b, c, d, r⟩ := meth C m sp lv n e1 e2
        exact ⟨f, b, c, mono a (r (ih _ (by omega)))⟩
      · obtain ⟨p, g, lv', a, b, c, d, r⟩ := prop C f sp lv e1 e2
        exact ⟨p, g, b, c, mono a (r (ih _ (by omega)))⟩
  exact fun k => all k k (Nat.le_refl k)

/-! ### names compared -/
theorem ofS_eq (a b : String) : (Str.ofString a = Str.ofString b) = (a = b) := by
  apply propext
  refine ⟨fun e => ?_, fun e => by rw [e]⟩
  rw [Str.ofString_eq_toList, Str.ofString_eq_toList] at e
  have e1 : a.toList.map Char.toNat = b.toList.map Char.toNat := by
    have := congrArg (fun z : Str => z.cps.toList) e
    simpa using this
  have inj : ∀ l m : List Char, l.map Char.toNat = m.map Char.toNat → l = m := by
    intro l
    induction l with
    | nil => intro m h; cases m with
      | nil => rfl
      | cons => simp at h
    | cons x r ih => intro m h; cases m with
      | nil => simp at h
      | cons y t =>
        simp only [List.map_cons, List.cons.injEq] at h
        rw [Char.toNat_inj.mp h.1, ih t h.2]
  exact String.toList_inj.mp (inj _ _ e1)
theorem ofS_beq (a b : String) : (Str.ofString a == Str.ofString b) = decide (a = b) := by
  rw [Bool.beq_eq_decide_eq]
  congr 1
  exact ofS_eq a b
theorem lookup_hit {a : Str} {v : LV} {r : List (Str × LV)} : List.lookup a ((a, v) :: r) = some v := by
  simp [List.lookup_cons]
theorem lookup_skip {a b : String} {v : LV} {r : List (Str × LV)} : List.lookup (Str.ofString a) ((Str.ofString b, v) :: r) = if a = b then some v else List.lookup (Str.ofString a) r := by
  rw [List.lookup_cons, ofS_beq]
  by_cases h : a = b <;> simp [h]
theorem putL_skip {a b : String} {v w : LV} {r : List (Str × LV)} : putL (Str.ofString a) w ((Str.ofString b, v) :: r) = if b = a then (Str.ofString b, w) :: r else (Str.ofString b, v) :: putL (Str.ofString a) w r := by
  rw [putL]
  simp only [ofS_eq]
theorem putL_nil {a : Str} {w : LV} : putL a w [] = [(a, w)] := rfl

/-! ### == of numbers and truth values -/
theorem shaped_flat {d : PyData} (h1 : d.canLay0 = true) (h2 : d.depth = 0) : SeqAt.shaped d = true := by
  unfold SeqAt.shaped; rw [h1, h2]; rfl
theorem shaped_int (i : Int) : SeqAt.shaped (.int i) = true := shaped_flat rfl rfl
theorem shaped_bl (b : Bool) : SeqAt.shaped (.bool b) = true := shaped_flat rfl rfl
theorem dat_int {h : LH} {k : Nat} {i : Int} : dat h k (.int i) = some (.int i) := by rw [dat]
theorem dat_bl {h : LH} {k : Nat} {i : Bool} : dat h k (.bl i) = some (.bool i) := by rw [dat]
theorem lEq_of {a b : LV} {h : LH} {Q : LQ} {d e : PyData} (ha : dat h 3 a = some d) (hb : dat h 3 b = some e) (sa : SeqAt.shaped d = true) (sb : SeqAt.shaped e = true) : lEq a b h Q = Q (.bl (PyData.eqv d e)) h := by
  apply propext
  refine ⟨fun ⟨d', e', h1, h2, _, _, q⟩ => ?_, fun q => ⟨d, e, ha, hb, sa, sb, q⟩⟩
  rw [ha] at h1; rw [hb] at h2; cases h1; cases h2; exact q
theorem lNe_of {a b : LV} {h : LH} {Q : LQ} {d e : PyData} (ha : dat h 3 a = some d) (hb : dat h 3 b = some e) (sa : SeqAt.shaped d = true) (sb : SeqAt.shaped e = true) : lNe a b h Q = Q (.bl (!PyData.eqv d e)) h := by
  apply propext
  refine ⟨fun ⟨d', e', h1, h2, _, _, q⟩ => ?_, fun q => ⟨d, e, ha, hb, sa, sb, q⟩⟩
  rw [ha] at h1; rw [hb] at h2; cases h1; cases h2; exact q
theorem lEq_int {i j : Int} {h : LH} {Q : LQ} : lEq (.int i) (.int j) h Q = Q (.bl (decide (i = j))) h := by
  rw [lEq_of dat_int dat_int (shaped_int i) (shaped_int j)]; simp only [PyData.eqv, Bool.beq_eq_decide_eq]
theorem lNe_int {i j : Int} {h : LH} {Q : LQ} : lNe (.int i) (.int j) h Q = Q (.bl (!decide (i = j))) h := by
  rw [lNe_of dat_int dat_int (shaped_int i) (shaped_int j)]; simp only [PyData.eqv, Bool.beq_eq_decide_eq]
theorem lEq_bl {i j : Bool} {h : LH} {Q : LQ} : lEq (.bl i) (.bl j) h Q = Q (.bl (i == j)) h := by
  rw [lEq_of dat_bl dat_bl (shaped_bl i) (shaped_bl j)]; simp only [PyData.eqv]
theorem lNe_bl {i j : Bool} {h : LH} {Q : LQ} : lNe (.bl i) (.bl j) h Q = Q (.bl (!(i == j))) h := by
  rw [lNe_of dat_bl dat_bl (shaped_bl i) (shaped_bl j)]; simp only [PyData.eqv]
/-! ### isinstance -/
theorem lIsi_of {x : LV} {n t : String} {b : Bool} {h : LH} {Q : LQ} (ht : tyOf h x = some t) (hb : kitB t n = some b) : lIsi [x, .ty n] h Q = Q (.bl b) h := by
  apply propext
  refine ⟨fun ⟨t', b', h1, h2, q⟩ => ?_, fun q => ⟨t, b, ht, hb, q⟩⟩
  rw [ht] at h1; cases h1; rw [hb] at h2; cases h2; exact q
theorem isi_int_int {i : Int} {h : LH} {Q : LQ} : lIsi [.int i, .ty "int"] h Q = Q (.bl true) h := lIsi_of rfl (by decide +kernel)
theorem isi_int_bool {i : Int} {h : LH} {Q : LQ} : lIsi [.int i, .ty "bool"] h Q = Q (.bl false) h := lIsi_of rfl (by decide +kernel)
theorem isi_bl_int {i : Bool} {h : LH} {Q : LQ} : lIsi [.bl i, .ty "int"] h Q = Q (.bl true) h := lIsi_of rfl (by decide +kernel)
theorem isi_bl_bool {i : Bool} {h : LH} {Q : LQ} : lIsi [.bl i, .ty "bool"] h Q = Q (.bl true) h := lIsi_of rfl (by decide +kernel)
theorem isi_tup_tup {i : List LV} {h : LH} {Q : LQ} : lIsi [.tup i, .ty "tuple"] h Q = Q (.bl true) h := lIsi_of rfl (by decide +kernel)
theorem isi_lst {n : Nm} {v : Nat} {xs : List LV} {h : LH} {Q : LQ} (e : h n = some (v, .lst xs)) : lIsi [.loc n v, .ty "list"] h Q = Q (.bl true) h := lIsi_of (t := "list") (by unfold tyOf; simp only [e, if_true]) (by decide +kernel)
end LL

namespace LL
open PySem L2

/-! ### the readings, one step each -/
def getS (s : LSt) (i : Nat) (P : LV → Prop) : Prop := ∃ x, s[i]? = some (some x) ∧ P x
theorem getS_0 {x : LV} {s : LSt} {P : LV → Prop} : getS (some x :: s) 0 P = P x := by
  apply propext; unfold getS; simp
theorem getS_s {y : Option LV} {s : LSt} {i : Nat} {P : LV → Prop} : getS (y :: s) (i + 1) P = getS s i P := by
  apply propext; unfold getS; simp
section
variable {G : Glob} {T : Tab} {s : LSt} {h : LH} {Q : LQ} {X : LX} {B : Bool → LH → Prop} {A : List LV → LH → Prop} {D : LEnds} {a b c e : E} {es : Es} {x f : Str} {n : String} {i : Int} {j : Nat}
abbrev wpAV (G : Glob) (T : Tab) (es : Es) : LTE := (sems G T es).av
abbrev wpOV (G : Glob) (T : Tab) (es : Es) : LTE := (sems G T es).ov
abbrev wpAT (G : Glob) (T : Tab) (es : Es) : LTT := (sems G T es).at_
abbrev wpOT (G : Glob) (T : Tab) (es : Es) : LTT := (sems G T es).ot
def mthM (G : Glob) (T : Tab) (m : Str) (b : Bm) (es : Es) (s : LSt) (x : LV) (Q : LQ) (X : LX) (h1 : LH) : Kd → Prop
  | .lst => optM (lstM b es.len) fun r => wpA G T es s h1 (fun xs h2 => r x xs h2 Q) X
  | .ins C fs => (T.meth m).isSome = true ∧ ∃ sp, G.meth C m = some sp ∧ fs.lookup m = none ∧ wpA G T es s h1 (fun xs h2 => sp (x :: xs) h2 Q X) X
  | _ => False
def fldM (G : Glob) (C : Addr) (f : Str) (fs : List (Str × LV)) (x : LV) (h : LH) (Q : LQ) : Bool → Prop
  | true => optM (fs.lookup f) fun y => Q y h
  | false => optM (G.prop C f) fun sp => sp [x] h Q fun _ _ => False
theorem E_var : wpE G T (.var j) s h Q X = getS s j fun y => Q y h := (rfl)
theorem E_con : wpE G T (.con x) s h Q X = ∃ v, G.con x = some v ∧ Q v h := (rfl)
theorem E_ty : wpE G T (.ty n) s h Q X = Q (.ty n) h := (rfl)
theorem E_int : wpE G T (.int i) s h Q X = Q (.int i) h := (rfl)
theorem E_bl {b : Bool} : wpE G T (.bl b) s h Q X = Q (.bl b) h := (rfl)
theorem E_non : wpE G T .non s h Q X = Q .non h := (rfl)
theorem E_str : wpE G T (.str x) s h Q X = Q (.str x) h := (rfl)
theorem E_tup : wpE G T (.tup es) s h Q X = wpA G T es s h (fun xs h1 => xs.length ≤ sizeLine ∧ Q (.tup xs) h1) X := (rfl)
theorem E_lst : wpE G T (.lst es) s h Q X = wpA G T es s h (fun xs h1 => xs.length ≤ sizeLine ∧ Alloc h1 (.lst xs) Q) X := (rfl)
theorem E_bin {o : Op} : wpE G T (.bin o a b) s h Q X = wpE G T a s h (fun x h1 => wpE G T b s h1 (fun y h2 => opR o x y h2 Q) X) X := (rfl)
theorem E_neg : wpE G T (.neg a) s h Q X = wpE G T a s h (fun x h1 => lNeg x h1 Q) X := (rfl)
theorem E_cmp {o : Cp} : wpE G T (.cmp o a b) s h Q X = wpE G T a s h (fun x h1 => wpE G T b s h1 (fun y h2 => cpR o x y h2 Q) X) X := (rfl)
theorem E_chain {o o' : Cp} : wpE G T (.chain o o' a b c) s h Q X = wpE G T a s h (fun x h1 => wpE G T b s h1 (fun y h2 => cpR o x y h2 fun z h3 => isB z fun k => if k = true then wpE G T c s h3 (fun w h4 => cpR o' y w h4 Q) X else Q (.bl false) h3) X) X := (rfl)
theorem E_and : wpE G T (.and es) s h Q X = wpAV G T es s h Q X := (rfl)
theorem E_or : wpE G T (.or es) s h Q X = wpOV G T es s h Q X := (rfl)
theorem E_not : wpE G T (.not a) s h Q X = wpE G T a s h (fun x h1 => isB x fun c => Q (.bl (!c)) h1) X := (rfl)
theorem E_ife : wpE G T (.ife c a b) s h Q X = wpT G T c s h (fun k h1 => if k = true then wpE G T a s h1 Q X else wpE G T b s h1 Q X) X := (rfl)
theorem E_fld : wpE G T (.fld a f) s h Q X = wpE G T a s h (fun x h1 => InsM h1 x fun C fs => fldM G C f fs x h1 Q (G.attr C f)) X := by
  show wFld G (wpE G T a) f s h Q X = _
  unfold wFld
  congr 1
theorem E_ix : wpE G T (.ix a b) s h Q X = wpE G T a s h (fun x h1 => wpE G T b s h1 (fun y h2 => lIx x y h2 Q) X) X := (rfl)
theorem E_call : wpE G T (.call x es) s h Q X = ∃ sp, G.fn x = some sp ∧ wpA G T es s h (fun xs h1 => sp xs h1 Q X) X := (rfl)
theorem E_make : wpE G T (.make x es) s h Q X = ∃ C sp, G.cls x = some (C, sp) ∧ wpA G T es s h (fun xs h1 => Alloc h1 (.ins C []) fun x h2 => sp (x :: xs) h2 (fun y h3 => y = .non ∧ Q x h3) X) X := (rfl)
theorem E_blt {b : Blt} : wpE G T (.blt b es) s h Q X = wpA G T es s h (fun xs h1 => bltR b xs h1 Q) X := (rfl)
theorem E_meth {m : Str} {b : Bm} : wpE G T (.meth a m b es) s h Q X = wpE G T a s h (fun x h1 => mthM G T m b es s x Q X h1 (kd h1 x)) X := by
  show wMeth G m (T.meth m).isSome (lstM b es.len) none (wpE G T a) (wpA G T es) s h Q X = _
  unfold wMeth
  congr 1
  funext x h1
  cases kd h1 x
  · show _ = optM (lstM b es.len) _
    cases lstM b es.len <;> rfl
  all_goals rfl
def LcG (G : Glob) (T : Tab) (vs : List Nat) (g : Nt) (cs : Es) (e : E) (s : LSt) (L : LIt) (d : LV) (Q : LQ) (h : LH) : Prop := LcK (cs.cond (sems G T cs).at_) g (wpE G T e) vs s L d Q h
def ikM : Ik → List LV → LH → (LIt → LH → Prop) → Prop
  | .seq, xs, h, RL => seq1 xs h RL
  | .rng, xs, h, RL => rngM xs h RL
  | .enum, xs, h, RL => enum1 xs h RL
theorem E_lc {vs : List Nat} {g : Nt} {k : Ik} {is cs : Es} : wpE G T (.lc vs g k is cs e) s h Q X = wpA G T is s h (fun xs h1 => ikM k xs h1 fun L h2 => Alloc h2 (.lst []) fun d h3 => LcG G T vs g cs e s L d Q h3) X := by cases k <;> rfl
def prt (G : Glob) (T : Tab) (es : Es) (s : LSt) (h : LH) (k : Option Int → LH → Prop) (X : LX) : Prop := wPart (es.part (wpAV G T es)) s h k X
theorem E_sl {lo hi : Es} : wpE G T (.sl a lo hi) s h Q X = wpE G T a s h (fun x h1 => prt G T lo s h1 (fun l h2 => prt G T hi s h2 (fun u h3 => lSl x l u h3 Q) X) X) X := (rfl)
theorem E_dnew : wpE G T .dnew s h Q X = (Alloc h (.dK []) Q ∨ Alloc h (.dT []) Q) := (rfl)
theorem E_olen : wpE G T (.olen a) s h Q X = wpE G T a s h (fun x h1 => InsM h1 x fun C fs => olM G x h1 Q C fs) X := (rfl)
theorem V_olM {C : Addr} {x : LV} {fs : List (Str × LV)} : olM G x h Q C fs = optM (G.meth C "__len__") fun sp => sp [x] h (fun y h2 => isI y fun i => (0 ≤ i ∧ i < 2 ^ 63) ∧ Q (.int i) h2) fun _ _ => False := (rfl)
theorem S_rais : wpS G T (.rais x) D s h = ∃ C, G.exc x = some C ∧ D.xc C s h := (rfl)
theorem P_nil {k : Option Int → LH → Prop} : prt G T .nil s h k X = k none h := (rfl)
theorem P_one {k : Option Int → LH → Prop} : prt G T (.cons e .nil) s h k X = wpE G T e s h (fun x h1 => isI x fun i => k (some i) h1) X := (rfl)
theorem V_isI {P : Int → Prop} : isI (.int i) P = P i := (rfl)
theorem K_seq {x : LV} {RL : LIt → LH → Prop} : ikM .seq [x] h RL = seqM x h RL := (rfl)
theorem K_rng {xs : List LV} {RL : LIt → LH → Prop} : ikM .rng xs h RL = rngM xs h RL := (rfl)
theorem K_enum {x : LV} {RL : LIt → LH → Prop} : ikM .enum [x] h RL = enumM x h RL := (rfl)
theorem V_en1 {n : Nm} {v : Nat} {RL : LIt → LH → Prop} : enumM (.loc n v) h RL = lstO (h n) v (RL (enumIt (listIt n v)) h) := (rfl)
theorem V_en2 {ns : List Int} {RL : LIt → LH → Prop} : enumM (.rol ns) h RL = RL (enumIt (valsIt (ns.map LV.int))) h := (rfl)
theorem V_sl1 {n : Nm} {v : Nat} {lo hi : Option Int} : lSl (.loc n v) lo hi h Q = slM (h n) v lo hi h Q := (rfl)
theorem V_sl2 {v v' : Nat} {xs : List LV} {lo hi : Option Int} : slM (some (v', .lst xs)) v lo hi h Q = (v' = v ∧ Alloc h (.lst (cutL xs lo hi)) Q) := (rfl)
theorem V_sl3 {xs : List LV} {lo hi : Option Int} : lSl (.tup xs) lo hi h Q = Q (.tup (cutL xs lo hi)) h := (rfl)
theorem V_nt1 {x : LV} {P : LSt → Prop} : ntM (.one j) x s P = P (s.set j (some x)) := (rfl)
theorem V_nt2 {is : List Nat} {xs : List LV} {P : LSt → Prop} : ntM (.many is) (.tup xs) s P = (xs.length = is.length ∧ P (setAll s is xs)) := (rfl)
theorem V_sa1 {is : List Nat} {x : LV} {xs : List LV} {i : Nat} : setAll s (i :: is) (x :: xs) = setAll (s.set i (some x)) is xs := (rfl)
theorem V_sa2 {xs : List LV} : setAll s [] xs = s := (rfl)
theorem V_wi1 : wipeL s [] = s := (rfl)
theorem V_wi2 {v : Nat} {vs : List Nat} : wipeL s (v :: vs) = (wipeL s vs).set v none := (rfl)
theorem A_nil : wpA G T .nil s h A X = A [] h := (rfl)
theorem A_cons : wpA G T (.cons e es) s h A X = wpE G T e s h (fun x h1 => wpA G T es s h1 (fun xs h2 => A (x :: xs) h2) X) X := by cases es <;> rfl
theorem AV_1 : wpAV G T (.cons e .nil) s h Q X = wpE G T e s h Q X := (rfl)
theorem AV_2 {e' : E} : wpAV G T (.cons e (.cons e' es)) s h Q X = wpE G T e s h (fun x h1 => isB x fun c => if c = true then wpAV G T (.cons e' es) s h1 Q X else Q (.bl false) h1) X := (rfl)
theorem OV_1 : wpOV G T (.cons e .nil) s h Q X = wpE G T e s h Q X := (rfl)
theorem OV_2 {e' : E} : wpOV G T (.cons e (.cons e' es)) s h Q X = wpE G T e s h (fun x h1 => isB x fun c => if c = true then Q (.bl true) h1 else wpOV G T (.cons e' es) s h1 Q X) X := (rfl)
theorem AT_1 : wpAT G T (.cons e .nil) s h B X = wpT G T e s h B X := (rfl)
theorem AT_2 {e' : E} : wpAT G T (.cons e (.cons e' es)) s h B X = wpT G T e s h (fun c h1 => if c = true then wpAT G T (.cons e' es) s h1 B X else B false h1) X := (rfl)
theorem OT_1 : wpOT G T (.cons e .nil) s h B X = wpT G T e s h B X := (rfl)
theorem OT_2 {e' : E} : wpOT G T (.cons e (.cons e' es)) s h B X = wpT G T e s h (fun c h1 => if c = true then B true h1 else wpOT G T (.cons e' es) s h1 B X) X := (rfl)
theorem T_cmp {o : Cp} : wpT G T (.cmp o a b) s h B X = wpE G T a s h (fun x h1 => wpE G T b s h1 (fun y h2 => cpR o x y h2 fun z h3 => isB z fun k => B k h3) X) X := (rfl)
theorem T_chain {o o' : Cp} : wpT G T (.chain o o' a b c) s h B X = wpE G T (.chain o o' a b c) s h (fun z h3 => isB z fun k => B k h3) X := (rfl)
theorem T_and : wpT G T (.and es) s h B X = wpAT G T es s h B X := (rfl)
theorem T_or : wpT G T (.or es) s h B X = wpOT G T es s h B X := (rfl)
theorem T_not : wpT G T (.not a) s h B X = wpT G T a s h (fun c h1 => B (!c) h1) X := (rfl)
theorem T_var : wpT G T (.var j) s h B X = getS s j fun y => lTru y h fun k => B k h := (rfl)
theorem T_blt {b : Blt} : wpT G T (.blt b es) s h B X = wpE G T (.blt b es) s h (fun x h1 => lTru x h1 fun k => B k h1) X := (rfl)
theorem T_call : wpT G T (.call x es) s h B X = wpE G T (.call x es) s h (fun x h1 => lTru x h1 fun k => B k h1) X := (rfl)
theorem T_meth {m : Str} {b : Bm} : wpT G T (.meth a m b es) s h B X = wpE G T (.meth a m b es) s h (fun x h1 => lTru x h1 fun k => B k h1) X := (rfl)
theorem T_fld : wpT G T (.fld a f) s h B X = wpE G T (.fld a f) s h (fun x h1 => lTru x h1 fun k => B k h1) X := (rfl)
theorem T_ix : wpT G T (.ix a b) s h B X = wpE G T (.ix a b) s h (fun x h1 => lTru x h1 fun k => B k h1) X := (rfl)
theorem T_bin {o : Op} : wpT G T (.bin o a b) s h B X = wpE G T (.bin o a b) s h (fun x h1 => lTru x h1 fun k => B k h1) X := (rfl)
variable {g : Tg} {gs : Tgs} {y : LV} {P : LSt → LH → Prop} {XS : LXS} {ss : Ss} {st : S}
theorem G_name : wpG G T (.name j) y s h P XS = P (s.set j (some y)) h := (rfl)
theorem G_tup {ys : List LV} : wpG G T (.tup j gs) (.tup ys) s h P XS = (ys.length = j ∧ wpGs G T gs ys s h P XS) := (rfl)
theorem G_sub : wpG G T (.sub a b) y s h P XS = wpE G T a s h (fun o h1 => wpE G T b s h1 (fun i h2 => lSet o i y h2 fun h3 => P s h3) fun c h2 => XS c s h2) fun c h1 => XS c s h1 := (rfl)
theorem Gs_nil : wpGs G T .nil [] s h P XS = P s h := by
  apply propext; show ([] = [] ∧ P s h) ↔ _; simp
theorem Gs_cons {ys : List LV} : wpGs G T (.cons g gs) (y :: ys) s h P XS = wpG G T g y s h (fun s1 h1 => wpGs G T gs ys s1 h1 P XS) XS := (rfl)
variable {RL : LIt → LH → Prop} {z : Iz}
theorem I_seq : wpI G T (.seq e) s h RL X = wpE G T e s h (fun x h1 => seqM x h1 RL) X := (rfl)
theorem I_enum {es : Es} {RL : LIt → LH → Prop} : wpI G T (.enum es) s h RL X = wpA G T es s h (fun xs h1 => enum1 xs h1 RL) X := (rfl)
theorem V_en3 {x : LV} {RL : LIt → LH → Prop} : enum1 [x] h RL = enumM x h RL := (rfl)
theorem I_rng : wpI G T (.rng es) s h RL X = wpA G T es s h (fun xs h1 => rngM xs h1 RL) X := (rfl)
section
variable {i j : Int} {b : Bool} {v v' w : Nat} {n m : Nm} {xs ys : List LV} {x y : LV} {C : Addr} {fs : List (Str × LV)} {P : Prop} {PB : Bool → Prop} {PI : Addr → List (Str × LV) → Prop} {ns : List Int} {kvs : List (Key × LV)} {kts : List (List Key × LV)} {f : Str} {PH : LH → Prop} {PV : LV → Prop} {o : Option (Nat × LO)} {RL : LIt → LH → Prop}
theorem V_add  : lAdd (.int i) (.int j) h Q = Q (.int (i + j)) h := (rfl)
theorem V_addl  : lAdd (.loc n v) (.loc m w) h Q = ∃ xs ys, h n = some (v, .lst xs) ∧ h m = some (w, .lst ys) ∧ xs.length + ys.length ≤ sizeLine ∧ Alloc h (.lst (xs ++ ys)) Q := (rfl)
theorem V_sub  : lSub (.int i) (.int j) h Q = Q (.int (i - j)) h := (rfl)
theorem V_mul  : lMul (.int i) (.int j) h Q = (CMul i j ∧ Q (.int (i * j)) h) := (rfl)
theorem V_mull  : lMul (.loc n v) (.int j) h Q = ∃ xs, h n = some (v, .lst xs) ∧ -(2 ^ 63) ≤ j ∧ j < 2 ^ 63 ∧ xs.length * j.toNat ≤ sizeLine ∧ Alloc h (.lst (List.replicate j.toNat xs).flatten) Q := (rfl)
theorem V_fdiv  : lFDiv (.int i) (.int j) h Q = (CDivW i j ∧ Q (.int (i / j)) h) := (rfl)
theorem V_mod  : lMod (.int i) (.int j) h Q = (0 < j ∧ Q (.int (i % j)) h) := (rfl)
theorem V_pow  : lPow (.int i) (.int j) h Q = (CPow i j ∧ Q (.int (i ^ j.toNat)) h) := (rfl)
theorem V_cmp {p : Int → Int → Bool} : lCmp p (.int i) (.int j) h Q = Q (.bl (p i j)) h := (rfl)
theorem V_neg  : lNeg (.int i) h Q = Q (.int (-i)) h := (rfl)
theorem V_isn  : lIsN x .non h Q = Q (.bl x.isNon) h := (rfl)
theorem V_notn  : lNotN x .non h Q = Q (.bl (!x.isNon)) h := (rfl)
theorem N_non  : LV.isNon .non = true := (rfl)
theorem N_int  : LV.isNon (.int i) = false := (rfl)
theorem N_bl  : LV.isNon (.bl b) = false := (rfl)
theorem N_tup  : LV.isNon (.tup xs) = false := (rfl)
theorem N_loc  : LV.isNon (.loc n v) = false := (rfl)
theorem V_B  : isB (.bl b) PB = PB b := (rfl)
theorem V_t1  : lTru .non h PB = PB false := (rfl)
theorem V_t2  : lTru (.bl b) h PB = PB b := (rfl)
theorem V_t3  : lTru (.int i) h PB = PB (i != 0) := (rfl)
theorem V_t4  : lTru (.tup xs) h PB = PB (!xs.isEmpty) := (rfl)
theorem V_t5  : lTru (.loc n v) h PB = truO (h n) v PB := (rfl)
theorem V_t6  : truO (some (w, .lst xs)) v PB = (w = v ∧ PB (!xs.isEmpty)) := (rfl)
theorem V_t7  : truO (some (w, .dK kvs)) v PB = (w = v ∧ PB (!kvs.isEmpty)) := (rfl)
theorem V_in1  : InsM h (.loc n v) PI = insO (h n) v PI := (rfl)
theorem V_in2  : insO (some (w, .ins C fs)) v PI = (w = v ∧ PI C fs) := (rfl)
theorem V_op1 {α : Type} {a : α} {PA : α → Prop} : optM (some a) PA = PA a := (rfl)
theorem V_at {α : Type} {l : List α} {PA : α → Prop} : atM l (.int i) PA = optM (atI l i) PA := (rfl)
theorem V_ix1  : lIx (.tup xs) y h Q = atM xs y fun u => Q u h := (rfl)
theorem V_ix2  : lIx (.rol ns) y h Q = atM ns y fun u => Q (.int u) h := (rfl)
theorem V_ix3  : lIx (.loc n v) y h Q = ixO h (.loc n v) y Q (h n) v := (rfl)
theorem V_ix4  : ixO h x y Q (some (w, .lst xs)) v = (w = v ∧ atM xs y fun u => Q u h) := (rfl)
theorem V_ix5  : ixO h x y Q (some (w, .dK kvs)) v = ∃ u, DAt h x y (some u) ∧ Q u h := (rfl)
theorem V_ix6  : ixO h x y Q (some (w, .dT kts)) v = ∃ u, DAt h x y (some u) ∧ Q u h := (rfl)
theorem V_st1  : lSet (.loc n v) x y h PH = setO n v x y h PH (h n) := (rfl)
theorem V_st2  : setO n v (.int i) y h PH (some (w, .lst xs)) = (w = v ∧ optM (ixN xs.length i) fun j => PH (h.set n v (.lst (xs.set j y)))) := (rfl)
theorem V_st3  : setO n v x y h PH (some (w, .dK kvs)) = (w = v ∧ optM (keyOf x) fun z => kvs.length < sizeLine ∧ PH (h.set n v (.dK (putK kvs z y)))) := (rfl)
theorem V_st4  : setO n v x y h PH (some (w, .dT kts)) = (w = v ∧ optM (keysOf x) fun z => kts.length < sizeLine ∧ PH (h.set n v (.dT (putK kts z y)))) := (rfl)
theorem V_ln1  : lLen [.tup xs] h Q = Q (.int xs.length) h := (rfl)
theorem V_ln2  : lLen [.rol ns] h Q = Q (.int ns.length) h := (rfl)
theorem V_ln3  : lLen [.loc n v] h Q = lenO h Q (h n) v := (rfl)
theorem V_ln4  : lenO h Q (some (w, .lst xs)) v = (w = v ∧ Q (.int xs.length) h) := (rfl)
theorem V_ln5  : lenO h Q (some (w, .dK kvs)) v = (w = v ∧ Q (.int kvs.length) h) := (rfl)
theorem V_int1  : lInt [.int i] h Q = Q (.int i) h := (rfl)
theorem V_int2  : lInt [.bl b] h Q = Q (.int (if b then 1 else 0)) h := (rfl)
theorem V_abs  : lAbs [.int i] h Q = Q (.int (if i < 0 then -i else i)) h := (rfl)
theorem V_max  : lMax [.int i, .int j] h Q = Q (.int (max i j)) h := (rfl)
theorem V_min  : lMin [.int i, .int j] h Q = Q (.int (min i j)) h := (rfl)
theorem V_li1  : lList [.tup xs] h Q = Alloc h (.lst xs) Q := (rfl)
theorem V_li2  : lList [.loc n v] h Q = listO h Q (h n) v := (rfl)
theorem V_li3  : listO h Q (some (w, .lst xs)) v = (w = v ∧ Alloc h (.lst xs) Q) := (rfl)
theorem V_tu1  : lTuple [.tup xs] h Q = Q (.tup xs) h := (rfl)
theorem V_tu2  : lTuple [.loc n v] h Q = tupO h Q (h n) v := (rfl)
theorem V_tu3  : tupO h Q (some (w, .lst xs)) v = (w = v ∧ Q (.tup xs) h) := (rfl)
theorem V_kd1  : kd h (.loc n v) = kdO (h n) v := (rfl)
theorem V_kd2  : kdO (some (w, .lst xs)) v = if w = v then .lst else .oth := (rfl)
theorem V_kd3  : kdO (some (w, .ins C fs)) v = if w = v then .ins C fs else .oth := (rfl)
theorem V_kd4  : kdO (some (w, .dK kvs)) v = if w = v then .dct else .oth := (rfl)
theorem V_kd5  : kdO (some (w, .dT kts)) v = if w = v then .dct else .oth := (rfl)
theorem V_ap  : lAppend (.loc n v) [y] h Q = ∃ ys, h n = some (v, .lst ys) ∧ ys.length < sizeLine ∧ Q .non (h.set n v (.lst (ys ++ [y]))) := (rfl)
theorem V_ex  : lExtend (.loc n v) [.loc m w] h Q = ∃ ys zs, h n = some (v, .lst ys) ∧ h m = some (w, .lst zs) ∧ ys.length + zs.length ≤ sizeLine ∧ Q .non (h.set n v (.lst (ys ++ zs))) := (rfl)
theorem V_po  : lPop (.loc n v) [] h Q = ∃ ys y, h n = some (v, .lst ys) ∧ ys[ys.length - 1]? = some y ∧ Q y (h.set n v (.lst ys.dropLast)) := (rfl)
theorem V_pa  : lPopAt (.loc n v) [.int i] h Q = ∃ ys k y, h n = some (v, .lst ys) ∧ -(2 ^ 63) ≤ i ∧ i < 2 ^ 63 ∧ seqIndex? i ys.length = some k ∧ ys[k]? = some y ∧ Q y (h.set n v (.lst (ys.eraseIdx k))) := (rfl)
theorem V_rv  : lReverse (.loc n v) [] h Q = ∃ ys, h n = some (v, .lst ys) ∧ Q .non (h.set n v (.lst ys.reverse)) := (rfl)
theorem V_cl  : lClear (.loc n v) [] h Q = ∃ ys, h n = some (v, .lst ys) ∧ Q .non (h.set n v (.lst [])) := (rfl)
theorem V_ai  : addI (.int i) (.int j) PV = PV (.int (i + j)) := (rfl)
theorem V_sf  : setF (.loc n v) C f fs y h PH = (fs.length < 1000 ∧ PH (h.set n v (.ins C (putL f y fs)))) := (rfl)
theorem V_sq1  : seqM (.loc n v) h RL = lstO (h n) v (RL (listIt n v) h) := (rfl)
theorem V_sq2  : seqM (.tup xs) h RL = RL (valsIt xs) h := (rfl)
theorem V_sq3  : seqM (.rol ns) h RL = RL (valsIt (ns.map LV.int)) h := (rfl)
theorem V_sq4  : lstO (some (w, .lst xs)) v P = (w = v ∧ P) := (rfl)
theorem V_rg1  : rngM [.int j] h RL = ((-(2 ^ 62) ≤ j ∧ j < 2 ^ 62) ∧ RL (rngIt 0 j.toNat) h) := (rfl)
theorem V_rg2  : rngM [.int i, .int j] h RL = ((-(2 ^ 62) ≤ i ∧ i < 2 ^ 62 ∧ -(2 ^ 62) ≤ j ∧ j < 2 ^ 62) ∧ RL (rngIt i (j - i).toNat) h) := (rfl)
theorem V_mt1 {mt : Str} {bm : Bm} {es : Es} : mthM G T mt bm es s x Q X h .lst = optM (lstM bm es.len) fun r => wpA G T es s h (fun xs h2 => r x xs h2 Q) X := (rfl)
theorem V_mt2 {mt : Str} {bm : Bm} {es : Es} : mthM G T mt bm es s x Q X h (.ins C fs) = ((T.meth mt).isSome = true ∧ ∃ sp, G.meth C mt = some sp ∧ fs.lookup mt = none ∧ wpA G T es s h (fun xs h2 => sp (x :: xs) h2 Q X) X) := (rfl)
theorem V_fd1  : fldM G C f fs x h Q true = optM (fs.lookup f) fun y => Q y h := (rfl)
theorem V_fd2  : fldM G C f fs x h Q false = optM (G.prop C f) fun sp => sp [x] h Q fun _ _ => False := (rfl)
theorem V_bl1  : Es.len .nil = 0 := (rfl)
theorem V_bl2 {e : E} {r : Es} : Es.len (.cons e r) = r.len + 1 := (rfl)
theorem O_add  : opR .add = lAdd := (rfl)
theorem O_sub  : opR .sub = lSub := (rfl)
theorem O_mul  : opR .mul = lMul := (rfl)
theorem O_fdiv  : opR .fdiv = lFDiv := (rfl)
theorem O_mod  : opR .mod = lMod := (rfl)
theorem O_pow  : opR .pow = lPow := (rfl)
theorem C_eq  : cpR .eq = lEq := (rfl)
theorem C_ne  : cpR .ne = lNe := (rfl)
theorem C_lt  : cpR .lt = lCmp fun i j => decide (i < j) := (rfl)
theorem C_le  : cpR .le = lCmp fun i j => decide (i ≤ j) := (rfl)
theorem C_gt  : cpR .gt = lCmp fun i j => decide (j < i) := (rfl)
theorem C_ge  : cpR .ge = lCmp fun i j => decide (j ≤ i) := (rfl)
theorem C_is  : cpR .is = lIsN := (rfl)
theorem C_isn  : cpR .isn = lNotN := (rfl)
theorem F_len  : bltR .len = lLen := (rfl)
theorem F_int  : bltR .int = lInt := (rfl)
theorem F_abs  : bltR .abs = lAbs := (rfl)
theorem F_max  : bltR .max = lMax := (rfl)
theorem F_min  : bltR .min = lMin := (rfl)
theorem F_list  : bltR .list = lList := (rfl)
theorem F_tuple  : bltR .tuple = lTuple := (rfl)
theorem F_isi  : bltR .isi = lIsi := (rfl)
theorem M_append1  : lstM .append 1 = some lAppend := (rfl)
theorem M_extend1  : lstM .extend 1 = some lExtend := (rfl)
theorem M_pop0  : lstM .pop 0 = some lPop := (rfl)
theorem M_pop1  : lstM .pop 1 = some lPopAt := (rfl)
theorem M_reverse0  : lstM .reverse 0 = some lReverse := (rfl)
theorem M_clear0  : lstM .clear 0 = some lClear := (rfl)
end
theorem Ss_nil : wpSs G T .nil D s h = D.nx s h := (rfl)
theorem Ss_cons : wpSs G T (.cons st ss) D s h = wpS G T st { D with nx := wpSs G T ss D } s h := (rfl)
theorem S_expr : wpS G T (.expr e) D s h = wpE G T e s h (fun _ h1 => D.nx s h1) fun c h1 => D.xc c s h1 := (rfl)
theorem S_ret : wpS G T (.ret e) D s h = wpE G T e s h D.rt fun c h1 => D.xc c s h1 := (rfl)
theorem S_retN : wpS G T .retN D s h = D.rt .non h := (rfl)
theorem S_brk : wpS G T .brk D s h = D.bk s h := (rfl)
theorem S_cnt : wpS G T .cnt D s h = D.ct s h := (rfl)
theorem S_pass : wpS G T .pass D s h = D.nx s h := (rfl)
theorem S_asg : wpS G T (.asg g e) D s h = wpE G T e s h (fun x h1 => wpG G T g x s h1 D.nx D.xc) fun c h1 => D.xc c s h1 := (rfl)
theorem S_fld : wpS G T (.fld a f e) D s h = wpE G T e s h (fun y h1 => wpE G T a s h1 (fun x h2 => InsM h2 x fun C fs => G.attr C f = true ∧ setF x C f fs y h2 fun h3 => D.nx s h3) fun c h2 => D.xc c s h2) fun c h1 => D.xc c s h1 := (rfl)
theorem S_flda : wpS G T (.flda a f e) D s h = wpE G T a s h (fun x h1 => InsM h1 x fun C fs => G.attr C f = true ∧ optM (fs.lookup f) fun z =>
  wpE G T e s h1 (fun y h2 => InsM h2 x fun C' fs' => C' = C ∧ addI z y fun u => setF x C f fs' u h2 fun h4 => D.nx s h4) fun c h2 => D.xc c s h2) fun c h1 => D.xc c s h1 := (rfl)
theorem S_ifs {u v : Ss} : wpS G T (.ifs c u v) D s h = wpT G T c s h (fun b h1 => if b = true then wpSs G T u D s h1 else wpSs G T v D s h1) fun c h1 => D.xc c s h1 := (rfl)
/-- what is asked of a loop, once it is known what is walked -/
def ForK (G : Glob) (T : Tab) (g : Tg) (ss : Ss) (D : LEnds) (s : LSt) : LIt → LH → Prop := fun L h1 => ∃ Wl : Nat → Nat → LSt → LH → Prop, (∃ n, Wl 0 n s h1) ∧ ∀ i n s h, Wl i n s h → (L i h = some none ∧ D.nx s h) ∨ ∃ x, L i h = some (some x) ∧
  ∃ N : LSt → LH → Prop, (∀ s' h', N s' h' → ∃ n', n' < n ∧ Wl (i + 1) n' s' h') ∧ wpG G T g x s h (fun s2 h2 => wpSs G T ss { D with nx := Fgt N, ct := Fgt N, bk := D.nx } s2 h2) D.xc
theorem S_for : wpS G T (.for g z ss) D s h = wpI G T z s h (ForK G T g ss D s) fun c h1 => D.xc c s h1 := (rfl)
theorem S_whl : wpS G T (.whl c ss) D s h = wWhile (wpT G T c) (wpSs G T ss) D s h := (rfl)
/-- the loop's ends at a turn that is to reach P -/
abbrev turn (D : LEnds) (P : LSt → LH → Prop) : LEnds := { D with nx := Fgt P, ct := Fgt P, bk := D.nx }
theorem forK_vals {xs : List LV} (Pv : Nat → LSt → LH → Prop) (h0 : Pv 0 s h) (hs : ∀ i x s h, xs[i]? = some x → Pv i s h → wpG G T g x s h (fun s2 h2 => wpSs G T ss (turn D (Pv (i + 1))) s2 h2) D.xc)
    (he : ∀ s h, Pv xs.length s h → D.nx s h) : ForK G T g ss D s (valsIt xs) h := for_vals Pv h0 hs he
theorem forK_rng {lo : Int} {n : Nat} (Pv : Nat → LSt → LH → Prop) (h0 : Pv 0 s h) (hs : ∀ i s h, i < n → Pv i s h → wpG G T g (.int (lo + i)) s h (fun s2 h2 => wpSs G T ss (turn D (Pv (i + 1))) s2 h2) D.xc)
    (he : ∀ s h, Pv n s h → D.nx s h) : ForK G T g ss D s (rngIt lo n) h := for_rng Pv h0 hs he
theorem forK_lst {n : Nm} {v : Nat} {xs : List LV} (Pv : Nat → LSt → LH → Prop) (h0 : Pv 0 s h) (hl : ∀ i s h, Pv i s h → h n = some (v, .lst xs))
    (hs : ∀ i x s h, xs[i]? = some x → Pv i s h → wpG G T g x s h (fun s2 h2 => wpSs G T ss (turn D (Pv (i + 1))) s2 h2) D.xc) (he : ∀ s h, Pv xs.length s h → D.nx s h) : ForK G T g ss D s (listIt n v) h := for_lst Pv h0 hl hs he
end
/-! ### dicts, one step each -/
def datO (v : Nat) (y : LV) (o : Option LV) : Option (Nat × LO) → Prop
  | some (v', .dK kvs) => v' = v ∧ ∃ k, keyOf y = some k ∧ getK kvs k = o
  | some (v', .dT kvs) => v' = v ∧ ∃ k, keysOf y = some k ∧ getK kvs k = o
  | some (v', .fz (.dK kvs) _ _) => v' = v ∧ ∃ k, keyOf y = some k ∧ getK kvs k = o
  | some (v', .fz (.dT kvs) _ _) => v' = v ∧ ∃ k, keysOf y = some k ∧ getK kvs k = o
  | _ => False
theorem D_loc {h : LH} {n : Nm} {v : Nat} {y : LV} {o : Option LV} : DAt h (.loc n v) y o = datO v y o (h n) := by
  unfold DAt datO
  rfl
theorem D_k {v w : Nat} {y : LV} {o : Option LV} {kvs : List (Key × LV)} : datO v y o (some (w, .dK kvs)) = (w = v ∧ ∃ k, keyOf y = some k ∧ getK kvs k = o) := (rfl)
theorem D_t {v w : Nat} {y : LV} {o : Option LV} {kvs : List (List Key × LV)} : datO v y o (some (w, .dT kvs)) = (w = v ∧ ∃ k, keysOf y = some k ∧ getK kvs k = o) := (rfl)
theorem key_int {i : Int} : keyOf (.int i) = some (.inl i) := (rfl)
theorem key_str {x : Str} : keyOf (.str x) = some (.inr x) := (rfl)
theorem keys_2 {i j : Int} : keysOf (.tup [.int i, .int j]) = some [.inl i, .inl j] := (rfl)
theorem getK_str {a b : String} {v : LV} {r : List (Key × LV)} : getK ((Sum.inr (Str.ofString b), v) :: r) (Sum.inr (Str.ofString a)) = if b = a then some v else getK r (Sum.inr (Str.ofString a)) := by
  unfold getK
  rw [List.find?_cons]
  have e : (Sum.inr (Str.ofString b) = (Sum.inr (Str.ofString a) : Key)) = (b = a) := by rw [Sum.inr.injEq, ofS_eq]
  by_cases h : b = a
  · simp [e, h]
  · have : ¬ ((Sum.inr (Str.ofString b) : Key) = Sum.inr (Str.ofString a)) := by rw [e]; exact h
    simp [this, h]
theorem getK_nil {κ : Type} [DecidableEq κ] {k : κ} : getK [] k = none := (rfl)
theorem cdivw {p j : Int} (h : 0 < j) (h2 : j < 2 ^ 62) : CDivW p j := by
  refine ⟨h, ?_⟩
  have e : j.natAbs.log2 < 62 := (Nat.log2_lt (by omega)).mpr (by omega)
  omega
/-! ### isinstance of a list, a dict -/
def isiO (v : Nat) (t : String) (h : LH) (Q : LQ) : Option (Nat × LO) → Prop
  | some (v', .lst _) => v' = v ∧ ∃ b, kitB "list" t = some b ∧ Q (.bl b) h
  | some (v', .dK _) => v' = v ∧ ∃ b, kitB "dict" t = some b ∧ Q (.bl b) h
  | some (v', .dT _) => v' = v ∧ ∃ b, kitB "dict" t = some b ∧ Q (.bl b) h
  | _ => False
def tyO (v : Nat) : Option (Nat × LO) → Option String
  | some (v', .lst _) => if v' = v then some "list" else none
  | some (v', .dK _) => if v' = v then some "dict" else none
  | some (v', .dT _) => if v' = v then some "dict" else none
  | _ => none
theorem tyO_eq {h : LH} {n : Nm} {v : Nat} : tyOf h (.loc n v) = tyO v (h n) := by
  show (match h n with | some (v', .lst _) => _ | some (v', .dK _) => _ | some (v', .dT _) => _ | _ => _) = _
  unfold tyO
  rfl
theorem isi_loc {n : Nm} {v : Nat} {t : String} {h : LH} {Q : LQ} : lIsi [.loc n v, .ty t] h Q = isiO v t h Q (h n) := by
  apply propext
  have e : lIsi [.loc n v, .ty t] h Q = ∃ s b, tyOf h (.loc n v) = some s ∧ kitB s t = some b ∧ Q (.bl b) h := (rfl)
  rw [e, tyO_eq]
  generalize h n = o
  unfold isiO tyO
  split
  all_goals first | (exact ⟨fun ⟨_, _, z, _⟩ => (by cases z), fun z => z.elim⟩) | skip
  all_goals
    constructor
    · rintro ⟨s, b, h1, h2, q⟩
      split at h1
      · rename_i z
        cases h1
        exact ⟨z, b, h2, q⟩
      · cases h1
    · rintro ⟨rfl, b, h2, q⟩
      exact ⟨_, b, if_pos rfl, h2, q⟩
theorem isiO_l {v w : Nat} {t : String} {h : LH} {Q : LQ} {xs : List LV} : isiO v t h Q (some (w, .lst xs)) = (w = v ∧ ∃ b, kitB "list" t = some b ∧ Q (.bl b) h) := (rfl)
theorem isiO_k {v w : Nat} {t : String} {h : LH} {Q : LQ} {xs : List (Key × LV)} : isiO v t h Q (some (w, .dK xs)) = (w = v ∧ ∃ b, kitB "dict" t = some b ∧ Q (.bl b) h) := (rfl)
theorem isiO_t {v w : Nat} {t : String} {h : LH} {Q : LQ} {xs : List (List Key × LV)} : isiO v t h Q (some (w, .dT xs)) = (w = v ∧ ∃ b, kitB "dict" t = some b ∧ Q (.bl b) h) := (rfl)
theorem kit_ll : kitB "list" "list" = some true := by decide +kernel
theorem kit_dd : kitB "dict" "dict" = some true := by decide +kernel
theorem isi_non {t : String} {b : Bool} {h : LH} {Q : LQ} (e : kitB "NoneType" t = some b) : lIsi [.non, .ty t] h Q = Q (.bl b) h := lIsi_of rfl e
theorem isi_non_int {h : LH} {Q : LQ} : lIsi [.non, .ty "int"] h Q = Q (.bl false) h := isi_non (by decide +kernel)
/-! ### plain data: tuples, numbers, texts -/
mutual
def pdat : LV → Option PyData
  | .non => some .none
  | .bl b => some (.bool b)
  | .int i => some (.int i)
  | .str x => some (.str x)
  | .tup xs => (pdats xs).map .tuple
  | _ => none
def pdats : List LV → Option (List PyData)
  | [] => some []
  | x :: xs => match pdat x, pdats xs with
    | some y, some ys => some (y :: ys)
    | _, _ => none
end
mutual
theorem dat_p {h : LH} {k : Nat} : ∀ {x : LV} {d : PyData}, pdat x = some d → dat h k x = some d
  | .non, d, e => by rw [pdat] at e; rw [dat]; exact e
  | .bl b, d, e => by rw [pdat] at e; rw [dat]; exact e
  | .int i, d, e => by rw [pdat] at e; rw [dat]; exact e
  | .str x, d, e => by rw [pdat] at e; rw [dat]; exact e
  | .tup xs, d, e => by
    rw [pdat] at e; rw [dat]
    cases z : pdats xs with
    | none => rw [z] at e; cases e
    | some ys => rw [z] at e; rw [dats_p z]; exact e
  | .loc _ _, d, e => by simp [pdat] at e
  | .rol _, d, e => by simp [pdat] at e
  | .ref _, d, e => by simp [pdat] at e
  | .ty _, d, e => by simp [pdat] at e
theorem dats_p {h : LH} {k : Nat} : ∀ {xs : List LV} {ds : List PyData}, pdats xs = some ds → dats h k xs = some ds
  | [], ds, e => by rw [pdats] at e; rw [dats]; exact e
  | x :: xs, ds, e => by
    rw [pdats] at e
    cases z : pdat x with
    | none => rw [z] at e; cases e
    | some y =>
      cases zs : pdats xs with
      | none => rw [z, zs] at e; cases e
      | some ys => rw [z, zs] at e; rw [dats, dat_p z, dats_p zs]; exact e
end
mutual
theorem eqv_same : ∀ d : PyData, d.canLay0 = true → PyData.eqv d d = true
  | .none, _ => by simp [PyData.eqv]
  | .bool _, _ => by simp [PyData.eqv]
  | .int _, _ => by simp [PyData.eqv]
  | .str _, _ => by simp [PyData.eqv]
  | .list xs, h => by rw [PyData.eqv]; exact eqvs_same xs (by rw [PyData.canLay0] at h; exact h)
  | .tuple xs, h => by rw [PyData.eqv]; exact eqvs_same xs (by rw [PyData.canLay0] at h; exact h)
  | .dict _, h => by rw [PyData.canLay0] at h; cases h
theorem eqvs_same : ∀ xs : List PyData, PyData.canLayAll0 xs = true → PyData.eqvAll xs xs = true
  | [], _ => by simp [PyData.eqvAll]
  | x :: xs, h => by
    rw [PyData.canLayAll0, Bool.and_eq_true] at h
    rw [PyData.eqvAll, eqv_same x h.1, eqvs_same xs h.2]; rfl
end
/-- a tuple, number or text, of no great depth -/
def Pl (x : LV) : Prop := ∃ d, pdat x = some d ∧ SeqAt.shaped d = true
theorem lEq_same {x : LV} (p : Pl x) (h : LH) (Q : LQ) : lEq x x h Q = Q (.bl true) h := by
  obtain ⟨d, e, s⟩ := p
  rw [lEq_of (dat_p e) (dat_p e) s s, eqv_same d (SeqAt.canLay_of_shaped s)]
theorem lNe_same {x : LV} (p : Pl x) (h : LH) (Q : LQ) : lNe x x h Q = Q (.bl false) h := by
  obtain ⟨d, e, s⟩ := p
  rw [lNe_of (dat_p e) (dat_p e) s s, eqv_same d (SeqAt.canLay_of_shaped s)]
  rfl
/-- plain data of at most this depth -/
def PlD (k : Nat) (x : LV) : Prop := ∃ d, pdat x = some d ∧ d.canLay0 = true ∧ d.depth ≤ k
theorem PlD.pl {k : Nat} {x : LV} (h : PlD k x) (hk : k ≤ 64) : Pl x := by
  obtain ⟨d, e, c, l⟩ := h
  refine ⟨d, e, ?_⟩
  unfold SeqAt.shaped
  rw [c, decide_eq_true (by omega)]
  rfl
theorem PlD.up {k l : Nat} {x : LV} (h : PlD k x) (hk : k ≤ l) : PlD l x := let ⟨d, e, c, b⟩ := h; ⟨d, e, c, Nat.le_trans b hk⟩
theorem pld_int {k : Nat} (i : Int) : PlD k (.int i) := ⟨.int i, by rw [pdat], by rw [PyData.canLay0], by rw [PyData.depth]; exact Nat.zero_le _⟩
theorem pld_non {k : Nat} : PlD k .non := ⟨.none, by rw [pdat], by rw [PyData.canLay0], by rw [PyData.depth]; exact Nat.zero_le _⟩
theorem pld_bl {k : Nat} (b : Bool) : PlD k (.bl b) := ⟨.bool b, by rw [pdat], by rw [PyData.canLay0], by rw [PyData.depth]; exact Nat.zero_le _⟩
theorem pld_str {k : Nat} {x : Str} (h : PyData.strOk x = true) : PlD k (.str x) := ⟨.str x, by rw [pdat], by rw [PyData.canLay0]; exact h, by rw [PyData.depth]; exact Nat.zero_le _⟩
theorem pld_all {k : Nat} : ∀ {xs : List LV}, (∀ x ∈ xs, PlD k x) → ∃ ds, pdats xs = some ds ∧ PyData.canLayAll0 ds = true ∧ PyData.depthAll ds ≤ k
  | [], _ => ⟨[], by rw [pdats], by rw [PyData.canLayAll0], by rw [PyData.depthAll]; exact Nat.zero_le _⟩
  | x :: xs, h => by
    obtain ⟨d, e1, e2, e3⟩ := h x (.head _)
    obtain ⟨ds, f1, f2, f3⟩ := pld_all (xs := xs) fun y hy => h y (.tail _ hy)
    exact ⟨d :: ds, by rw [pdats, e1, f1], by rw [PyData.canLayAll0, e2, f2]; rfl, by rw [PyData.depthAll]; omega⟩
theorem pld_tup {k : Nat} {xs : List LV} (h : ∀ x ∈ xs, PlD k x) : PlD (k + 1) (.tup xs) := by
  obtain ⟨ds, e1, e2, e3⟩ := pld_all h
  exact ⟨.tuple ds, by rw [pdat, e1]; rfl, by rw [PyData.canLay0]; exact e2, by rw [PyData.depth]; omega⟩
theorem dat_lst {h : LH} {k : Nat} {n : Nm} {v : Nat} {xs : List LV} {ds : List PyData} (e : h n = some (v, .lst xs)) (z : pdats xs = some ds) : dat h (k + 1) (.loc n v) = some (.list ds) := by
  rw [dat, e]
  simp only [if_true, dats_p z]
  rfl
theorem lNe_lsts {h : LH} {n m : Nm} {v w : Nat} {xs : List LV} {Q : LQ} {k : Nat} (e1 : h n = some (v, .lst xs)) (e2 : h m = some (w, .lst xs)) (p : ∀ x ∈ xs, PlD k x) (hk : k ≤ 63) : lNe (.loc n v) (.loc m w) h Q = Q (.bl false) h := by
  obtain ⟨ds, f1, f2, f3⟩ := pld_all p
  have s : SeqAt.shaped (.list ds) = true := by
    unfold SeqAt.shaped
    rw [PyData.canLay0, f2, PyData.depth, decide_eq_true (by omega)]
    rfl
  rw [lNe_of (dat_lst e1 f1) (dat_lst e2 f1) s s, eqv_same _ (SeqAt.canLay_of_shaped s)]
  rfl
theorem lEq_lsts {h : LH} {n m : Nm} {v w : Nat} {xs : List LV} {Q : LQ} {k : Nat} (e1 : h n = some (v, .lst xs)) (e2 : h m = some (w, .lst xs)) (p : ∀ x ∈ xs, PlD k x) (hk : k ≤ 63) : lEq (.loc n v) (.loc m w) h Q = Q (.bl true) h := by
  obtain ⟨ds, f1, f2, f3⟩ := pld_all p
  have s : SeqAt.shaped (.list ds) = true := by
    unfold SeqAt.shaped
    rw [PyData.canLay0, f2, PyData.depth, decide_eq_true (by omega)]
    rfl
  rw [lEq_of (dat_lst e1 f1) (dat_lst e2 f1) s s, eqv_same _ (SeqAt.canLay_of_shaped s)]
theorem ntM_mono {g : Nt} {x : LV} {s : LSt} {P P' : LSt → Prop} (i : ∀ s2, P s2 → P' s2) (h : ntM g x s P) : ntM g x s P' := by
  cases g with
  | one j => exact i _ h
  | many is => cases x <;> first | exact h.elim | exact ⟨h.1, i _ h.2⟩
/-- each item to its place in the new list, nothing else done -/
theorem lcK_map {G : Glob} {T : Tab} {vs : List Nat} {g : Nt} {e : E} {s : LSt} {L : LIt} {nd : Nm} {vd : Nat} {Q : LQ} {h : LH} (xs ys : List LV) (hl : xs.length ≤ sizeLine) (hn : ys.length = xs.length) (hL : ∀ i acc, L i (h.set nd vd (.lst acc)) = some xs[i]?)
    (hs : ∀ (i : Nat) (x : LV) (acc : List LV) (K : LQ), xs[i]? = some x → (∀ y, ys[i]? = some y → K y (h.set nd vd (.lst acc))) → ntM g x (wipeL s vs) fun s2 => wpE G T e s2 (h.set nd vd (.lst acc)) K fun _ _ => False)
    (q : Q (.loc nd vd) (h.set nd vd (.lst ys))) : LcG G T vs g .nil e s L (.loc nd vd) Q (h.set nd vd (.lst [])) := by
  refine ⟨fun i k h' => k = xs.length - i ∧ i ≤ xs.length ∧ h' = h.set nd vd (.lst (ys.take i)), ⟨_, rfl, Nat.zero_le _, by rw [List.take_zero]⟩, ?_⟩
  rintro i k h' ⟨rfl, hi, rfl⟩
  by_cases hlt : i < xs.length
  · refine .inr ⟨xs[i], by rw [hL, List.getElem?_eq_getElem hlt], fun h' => h' = h.set nd vd (.lst (ys.take (i + 1))), fun h' e => ⟨xs.length - (i + 1), by omega, rfl, hlt, e⟩, ?_⟩
    refine ntM_mono (P := fun s2 => wpE G T e s2 (h.set nd vd (.lst (ys.take i))) (fun y h4 => ∃ n v acc, LV.loc nd vd = .loc n v ∧ h4 n = some (v, .lst acc) ∧ acc.length < sizeLine ∧ h4.set n v (.lst (acc ++ [y])) = h.set nd vd (.lst (ys.take (i + 1)))) fun _ _ => False) (fun s2 w => ?_) (hs i xs[i] (ys.take i) _ (List.getElem?_eq_getElem hlt) fun y e1 => ⟨nd, vd, ys.take i, rfl, LH.set_same, by rw [List.length_take]; omega, ?_⟩)
    · exact iteT (B := False) w
    · rw [LH.set_set, List.take_succ, e1]
      rfl
  · have e : i = xs.length := by omega
    subst e
    refine .inl ⟨by rw [hL]; simp, ?_⟩
    rw [← hn, List.take_length]
    exact q
theorem LH.set_ap {h : LH} {n m : Nm} {v : Nat} {o : LO} : h.set n v o m = if m = n then some (v, o) else h m := (rfl)
theorem LH.del_ap {h : LH} {n m : Nm} : h.del n m = if m = n then none else h m := (rfl)
theorem atI_0 {α : Type} {a : α} {l : List α} : atI (a :: l) 0 = some a := by
  have := atI_nat (xs := a :: l) (j := 0) (v := a) rfl
  exact this
theorem atI_1 {α : Type} {a b : α} {l : List α} : atI (a :: b :: l) 1 = some b := by
  have := atI_nat (xs := a :: b :: l) (j := 1) (v := b) rfl
  exact this
theorem atI_2 {α : Type} {a b c : α} {l : List α} : atI (a :: b :: c :: l) 2 = some c := by
  have := atI_nat (xs := a :: b :: c :: l) (j := 2) (v := c) rfl
  exact this
theorem ixN_nat {n j : Nat} (h : j < n) : ixN n (j : Int) = some j := by
  unfold ixN
  rw [if_pos (Int.natCast_nonneg j), if_pos (by omega)]; rfl
theorem ixN_0 {n : Nat} : ixN (n + 1) 0 = some 0 := ixN_nat (j := 0) (by omega)
theorem ixN_1 {n : Nat} : ixN (n + 2) 1 = some 1 := ixN_nat (j := 1) (by omega)
end LL

namespace LL
open PySem L2

/-! ### the end of a row -/
theorem lookup_all {β : Type} {x : Str} {y : β} : ∀ {l : List (Str × β)}, l.lookup x = some y → (x, y) ∈ l
  | [], e => nomatch e
  | (a, b) :: r, e => by
    rw [List.lookup_cons] at e
    split at e
    · rename_i h
      cases e
      rw [show x = a from eq_of_beq h]
      exact .head _
    · exact .tail _ (lookup_all e)
/-- a table by class and name -/
def pick {β : Type} (C : Addr) (m : Str) : List (Addr × Str × β) → Option β
  | [] => none
  | (D, n, b) :: r => if C = D ∧ m = n then some b else pick C m r
theorem pick_mem {β : Type} {C : Addr} {m : Str} {b : β} : ∀ {l : List (Addr × Str × β)}, pick C m l = some b → (C, m, b) ∈ l
  | [], e => nomatch e
  | (D, n, c) :: r, e => by
    unfold pick at e
    split at e
    · rename_i h
      obtain ⟨rfl, rfl⟩ := h
      cases e
      exact .head _
    · exact .tail _ (pick_mem e)
theorem pick_nil {β : Type} {C : Addr} {m : Str} : pick (β := β) C m [] = none := rfl
theorem pick_hit {β : Type} {C : Addr} {m : Str} {b : β} {l : List (Addr × Str × β)} : pick C m ((C, m, b) :: l) = some b := if_pos ⟨rfl, rfl⟩
theorem pick_ofS {β : Type} {C D : Addr} {m n : String} {b : β} {l : List (Addr × Str × β)} : pick C (Str.ofString m) ((D, Str.ofString n, b) :: l) = if C = D ∧ m = n then some b else pick C (Str.ofString m) l := by
  rw [pick]
  simp only [ofS_eq]
theorem ro_of {K : PySem.W.Frag} {H : Hp} {a : Addr} {ns : List Int} (o : Only H) (h : SqL K H a (ns.map V.int)) : RoL K H a (ns.map V.int) := by
  rcases h with (h | h) | h
  · rcases o a with e | ⟨o, xs, e⟩ <;> rw [e] at h <;> cases h
  · exact .inl h
  · exact .inr h
theorem r_of {K : PySem.W.Frag} (H : Hp) : R K ⟨fun _ => none, H⟩ (fun _ => none) :=
  { obj := fun n v o e => (by cases e), inj := fun p q a e => (by cases e), fin := fun n => ⟨0, fun v _ => rfl⟩, anon := ⟨0, fun k v _ => rfl⟩, known := fun p a e => (by cases e) }
theorem walk {l : PySem.W.OpenLaw} {q : Program} {loose : List Str} {XP : (Str → Option Value) → Heap → Prop} {YP : World → Heap → Prop} {d : DefRec} {K : Params → PySem.W.Frag} {k : Nat} {x : Str} {sp : LSp} (hn : l.most = some 63) (hdf : d.params.defaults = []) (hr : Room k callerA)
    (hY : ∀ (w : World) (h : Heap), YP w h → (K w.params).In h)
    (F : ∀ (w : World) (mg : Str → Option Value) (fa : Addr) (h : Heap), (K w.params).In h → h.Ns mainGlobals mg → mg d.name = some (.ref fa) →
      ∃ fd : FuncData, (∀ (s : Shared) (u : Value), BindsTo s fd ⟨[u], []⟩ [(x, u)]) ∧ ∀ base : Heap, (K w.params).In base → base.Ns mainGlobals mg → FnOk l.prog w (K w.params) mg base (L2.CX l.prog w) k fa fd [x] (liftSp (K w.params) 1 sp))
    (hs : ∀ (ns : List Int) (Q : LQ) (X : LX), ns.length ≤ 63 → (∀ h, Q (.bl true) h) → sp [.rol ns] (fun _ => none) Q X) : PySem.W.WalkO q loose XP YP l.row.toRowW d [] (fun f vs => PySem.call f vs) :=
  L2.walk_of (n := 63) (k := k) (x := x) (CX := fun w => L2.CX l.prog w) (sp := fun w => liftSp (K w.params) 1 sp) hn (by decide) hdf hr hY F
    (fun w H a ns hl ho hS => ⟨⟨fun _ => none, H⟩, fun _ => none, [.rol ns], fun v _ => v = .bl true, fun _ _ => False, rfl, r_of H, .cons ⟨a, rfl, ro_of ho hS⟩ .nil, rfl, hs ns _ _ hl fun _ => rfl, fun m' h' x v _ _ rv e => by subst e; exact rv, fun _ _ _ _ _ z => z⟩)
    fun w H s e s' ⟨_, _, _, _, _, _, _, _, _, _, _, _, z⟩ => z
end LL

namespace K04
open PySem L2 LL

def n_Outgoing_init : List Str := ["self"]
def b_Outgoing_init : Ss :=
  .cons (.fld (.var 0) "_acknowledged" (.int 0))
  (.cons (.fld (.var 0) "_waiting" (.lst (.nil))) (.nil))
def n_Outgoing_acknowledged : List Str := ["self"]
def b_Outgoing_acknowledged : Ss :=
  .cons (.ret (.fld (.var 0) "_acknowledged")) (.nil)
def n_Outgoing_put_count : List Str := ["self"]
def b_Outgoing_put_count : Ss :=
  .cons (.ret (.bin .add (.fld (.var 0) "_acknowledged") (.blt .len (.cons (.fld (.var 0) "_waiting") .nil)))) (.nil)
def n_Outgoing_put : List Str := ["self", "letter"]
def b_Outgoing_put : Ss :=
  .cons (.expr (.meth (.fld (.var 0) "_waiting") "append" .append (.cons (.var 1) .nil)))
  (.cons (.ret (.bin .add (.fld (.var 0) "_acknowledged") (.blt .len (.cons (.fld (.var 0) "_waiting") .nil)))) (.nil))
def n_Outgoing_due : List Str := ["self", "first", "index", "letter"]
def b_Outgoing_due : Ss :=
  .cons (.asg (.name 1) (.bin .add (.fld (.var 0) "_acknowledged") (.int 1)))
  (.cons (.ret (.lc [2, 3] (.many [2, 3]) .enum (.cons (.fld (.var 0) "_waiting") .nil) (.nil) (.tup (.cons (.bin .add (.var 1) (.var 2)) (.cons (.var 3) .nil))))) (.nil))
def n_Outgoing_acknowledge : List Str := ["self", "number", "count"]
def b_Outgoing_acknowledge : Ss :=
  .cons (.asg (.name 2) (.bin .sub (.var 1) (.fld (.var 0) "_acknowledged")))
  (.cons (.ifs (.cmp .gt (.var 2) (.int 0))
    (.cons (.fld (.var 0) "_waiting" (.sl (.fld (.var 0) "_waiting") (.cons (.var 2) .nil) (.nil)))
      (.cons (.fld (.var 0) "_acknowledged" (.var 1)) (.nil)))
    (.nil)) (.nil))
def n_Incoming_init : List Str := ["self"]
def b_Incoming_init : Ss :=
  .cons (.fld (.var 0) "count" (.int 0)) (.nil)
def n_Incoming_accepts : List Str := ["self", "number"]
def b_Incoming_accepts : Ss :=
  .cons (.ret (.cmp .eq (.var 1) (.bin .add (.fld (.var 0) "count") (.int 1)))) (.nil)
def n_Incoming_accept : List Str := ["self"]
def b_Incoming_accept : Ss :=
  .cons (.flda (.var 0) "count" (.int 1)) (.nil)
def n_Network_init : List Str := ["self"]
def b_Network_init : Ss :=
  .cons (.fld (.var 0) "_packets" (.lst (.nil))) (.nil)
def n_Network___len__ : List Str := ["self"]
def b_Network___len__ : Ss :=
  .cons (.ret (.blt .len (.cons (.fld (.var 0) "_packets") .nil))) (.nil)
def n_Network__check : List Str := ["self", "index"]
def b_Network__check : Ss :=
  .cons (.ifs (.or (.cons (.cmp .lt (.var 1) (.int 0)) (.cons (.cmp .ge (.var 1) (.blt .len (.cons (.fld (.var 0) "_packets") .nil))) .nil)))
    (.cons (.rais "Unknown") (.nil))
    (.nil)) (.nil)
def n_Network_post : List Str := ["self", "packet"]
def b_Network_post : Ss :=
  .cons (.expr (.meth (.fld (.var 0) "_packets") "append" .append (.cons (.var 1) .nil))) (.nil)
def n_Network_take_out : List Str := ["self", "index"]
def b_Network_take_out : Ss :=
  .cons (.expr (.meth (.var 0) "_check" .none (.cons (.var 1) .nil)))
  (.cons (.ret (.meth (.fld (.var 0) "_packets") "pop" .pop (.cons (.var 1) .nil))) (.nil))
def n_Network_repeat : List Str := ["self", "index"]
def b_Network_repeat : Ss :=
  .cons (.expr (.meth (.var 0) "_check" .none (.cons (.var 1) .nil)))
  (.cons (.expr (.meth (.fld (.var 0) "_packets") "append" .append (.cons (.ix (.fld (.var 0) "_packets") (.var 1)) .nil))) (.nil))
def n_Network_packets : List Str := ["self"]
def b_Network_packets : Ss :=
  .cons (.ret (.blt .list (.cons (.fld (.var 0) "_packets") .nil))) (.nil)
def n_law_number : List Str := ["_law_cell", "_law_k", "_law_first", "_law_second"]
def b_law_number : Ss :=
  .cons (.ifs (.cmp .ge (.var 0) (.bin .pow (.int 10) (.int 18)))
    (.cons (.ret (.bin .sub (.var 0) (.bin .pow (.int 10) (.int 18)))) (.nil))
    (.nil))
  (.cons (.asg (.name 2) (.bin .mod (.blt .int (.cons (.bin .add (.bin .add (.bin .mul (.var 0) (.int 48271)) (.bin .mul (.var 1) (.int 69621))) (.int 12345)) .nil)) (.int 2147483647)))
  (.cons (.asg (.name 3) (.bin .mod (.blt .int (.cons (.bin .add (.bin .mul (.var 2) (.bin .add (.bin .add (.bin .fdiv (.var 2) (.int 65536)) (.var 1)) (.int 3))) (.int 101)) .nil)) (.int 2147483629)))
  (.cons (.ret (.bin .add (.var 2) (.bin .mul (.var 3) (.int 2147483647)))) (.nil))))
def n_law_send : List Str := ["_law_outs", "_law_puts", "_law_acked", "_law_net", "_law_bag", "_law_source", "_law_target", "_law_key", "_law_first", "_law_expected", "_law_due", "_law_number_here", "_law_letter", "_law_k"]
def b_law_send_L1 : Ss :=
  .cons (.expr (.meth (.var 3) "post" .none (.cons (.tup (.cons (.var 5) (.cons (.var 6) (.cons (.str "data") (.cons (.var 11) (.cons (.var 12) .nil)))))) .nil)))
  (.cons (.expr (.meth (.var 4) "append" .append (.cons (.tup (.cons (.var 5) (.cons (.var 6) (.cons (.str "data") (.cons (.var 11) (.cons (.var 12) .nil)))))) .nil))) (.nil))
def b_law_send_L2 : Ss :=
  .cons (.ifs (.cmp .ne (.var 6) (.var 5))
    (.cons (.asg (.name 7) (.tup (.cons (.var 5) (.cons (.var 6) .nil))))
      (.cons (.asg (.name 8) (.ix (.var 2) (.var 7)))
      (.cons (.asg (.name 9) (.lc [13] (.one 13) .rng (.cons (.var 8) (.cons (.blt .len (.cons (.ix (.var 1) (.var 7)) .nil)) .nil)) (.nil) (.tup (.cons (.bin .add (.var 13) (.int 1)) (.cons (.ix (.ix (.var 1) (.var 7)) (.var 13)) .nil)))))
      (.cons (.asg (.name 10) (.meth (.ix (.var 0) (.var 7)) "due" .none (.nil)))
      (.cons (.ifs (.or (.cons (.not (.blt .isi (.cons (.var 10) (.cons (.ty "list") .nil)))) (.cons (.cmp .ne (.var 10) (.var 9)) .nil)))
        (.cons (.ret (.bl false)) (.nil))
        (.nil))
      (.cons (.for (.tup 2 (.cons (.name 11) (.cons (.name 12) .nil))) (.seq (.var 9)) b_law_send_L1) (.nil)))))))
    (.nil)) (.nil)
def b_law_send : Ss :=
  .cons (.for (.name 6) (.rng (.cons (.int 3) .nil)) b_law_send_L2)
  (.cons (.ret (.bl true)) (.nil))
def n_law_take : List Str := ["_law_net", "_law_bag", "_law_index", "_law_packet"]
def b_law_take : Ss :=
  .cons (.asg (.name 3) (.meth (.var 0) "take_out" .none (.cons (.var 2) .nil)))
  (.cons (.ret (.and (.cons (.blt .isi (.cons (.var 3) (.cons (.ty "tuple") .nil))) (.cons (.cmp .eq (.var 3) (.meth (.var 1) "pop" .pop (.cons (.var 2) .nil))) .nil)))) (.nil))
def n_law_deliver : List Str := ["_law_outs", "_law_ends", "_law_taken", "_law_acked", "_law_net", "_law_bag", "_law_index", "_law_source", "_law_target", "_law_kind", "_law_number_here", "_law_letter", "_law_key"]
def b_law_deliver_T1 : Ss :=
  .cons (.expr (.meth (.var 4) "post" .none (.cons (.tup (.cons (.var 8) (.cons (.var 7) (.cons (.str "ack") (.cons (.blt .len (.cons (.ix (.var 2) (.var 12)) .nil)) (.cons (.non) .nil)))))) .nil)))
  (.cons (.expr (.meth (.var 5) "append" .append (.cons (.tup (.cons (.var 8) (.cons (.var 7) (.cons (.str "ack") (.cons (.blt .len (.cons (.ix (.var 2) (.var 12)) .nil)) (.cons (.non) .nil)))))) .nil)))
  (.cons (.ret (.cmp .eq (.fld (.ix (.var 1) (.var 12)) "count") (.blt .len (.cons (.ix (.var 2) (.var 12)) .nil)))) (.nil)))
def b_law_deliver : Ss :=
  .cons (.asg (.tup 5 (.cons (.name 7) (.cons (.name 8) (.cons (.name 9) (.cons (.name 10) (.cons (.name 11) .nil)))))) (.ix (.var 5) (.var 6)))
  (.cons (.ifs (.not (.call "_law_take" (.cons (.var 4) (.cons (.var 5) (.cons (.var 6) .nil)))))
    (.cons (.ret (.bl false)) (.nil))
    (.nil))
  (.cons (.ifs (.cmp .eq (.var 9) (.str "ack"))
    (.cons (.asg (.name 12) (.tup (.cons (.var 8) (.cons (.var 7) .nil))))
      (.cons (.expr (.meth (.ix (.var 0) (.var 12)) "acknowledge" .none (.cons (.var 10) .nil)))
      (.cons (.asg (.sub (.var 3) (.var 12)) (.blt .max (.cons (.ix (.var 3) (.var 12)) (.cons (.var 10) .nil))))
      (.cons (.ret (.bl true)) (.nil)))))
    (.nil))
  (.cons (.asg (.name 12) (.tup (.cons (.var 7) (.cons (.var 8) .nil))))
  (.cons (.ifs (.meth (.ix (.var 1) (.var 12)) "accepts" .none (.cons (.var 10) .nil))
    (.cons (.expr (.meth (.ix (.var 1) (.var 12)) "accept" .none (.nil)))
      (.cons (.expr (.meth (.ix (.var 2) (.var 12)) "append" .append (.cons (.var 11) .nil))) (.nil)))
    (.nil))
  b_law_deliver_T1))))
def n_law_holds : List Str := ["_law_outs", "_law_ends", "_law_puts", "_law_taken", "_law_acked", "_law_keys", "_law_key"]
def b_law_holds_L1 : Ss :=
  .cons (.ifs (.or (.cons (.cmp .ne (.ix (.var 3) (.var 6)) (.sl (.ix (.var 2) (.var 6)) (.nil) (.cons (.blt .len (.cons (.ix (.var 3) (.var 6)) .nil)) .nil))) (.cons (.cmp .ne (.fld (.ix (.var 1) (.var 6)) "count") (.blt .len (.cons (.ix (.var 3) (.var 6)) .nil))) .nil)))
    (.cons (.ret (.bl false)) (.nil))
    (.nil))
  (.cons (.ifs (.or (.cons (.cmp .gt (.ix (.var 4) (.var 6)) (.blt .len (.cons (.ix (.var 3) (.var 6)) .nil))) (.cons (.cmp .ne (.fld (.ix (.var 0) (.var 6)) "acknowledged") (.ix (.var 4) (.var 6))) .nil)))
    (.cons (.ret (.bl false)) (.nil))
    (.nil))
  (.cons (.ifs (.cmp .ne (.fld (.ix (.var 0) (.var 6)) "put_count") (.blt .len (.cons (.ix (.var 2) (.var 6)) .nil)))
    (.cons (.ret (.bl false)) (.nil))
    (.nil)) (.nil)))
def b_law_holds : Ss :=
  .cons (.for (.name 6) (.seq (.var 5)) b_law_holds_L1)
  (.cons (.ret (.bl true)) (.nil))
def n_law_put : List Str := ["_law_out", "_law_put_here", "_law_part", "_law_count", "_law_k", "_law_value", "_law_letter"]
def b_law_put_L1 : Ss :=
  .cons (.asg (.name 5) (.bin .mod (.blt .int (.cons (.bin .fdiv (.var 2) (.bin .add (.int 2) (.var 4))) .nil)) (.bin .pow (.int 10) (.int 18))))
  (.cons (.asg (.name 6) (.ix (.lst (.cons (.tup (.cons (.str "leave") (.cons (.var 5) .nil))) (.cons (.tup (.cons (.str "give") (.cons (.var 5) (.cons (.tup (.cons (.bin .mod (.var 5) (.int 8)) (.cons (.bin .mod (.bin .fdiv (.var 5) (.int 8)) (.int 30)) .nil))) (.cons (.non) .nil))))) (.cons (.tup (.cons (.str "same") .nil)) .nil)))) (.bin .mod (.var 5) (.int 3))))
  (.cons (.expr (.meth (.var 1) "append" .append (.cons (.var 6) .nil)))
  (.cons (.ifs (.cmp .ne (.meth (.var 0) "put" .none (.cons (.var 6) .nil)) (.blt .len (.cons (.var 1) .nil)))
    (.cons (.ret (.bl false)) (.nil))
    (.nil)) (.nil))))
def b_law_put_T2 : Ss :=
  .cons (.for (.name 4) (.rng (.cons (.var 3) .nil)) b_law_put_L1)
  (.cons (.ret (.bl true)) (.nil))
def b_law_put : Ss :=
  .cons (.asg (.name 3) (.bin .add (.int 1) (.bin .mod (.blt .int (.cons (.var 2) .nil)) (.int 2))))
  (.cons (.ifs (.and (.cons (.cmp .eq (.bin .mod (.blt .int (.cons (.bin .fdiv (.var 2) (.int 2)) .nil)) (.int 128)) (.int 77)) (.cons (.cmp .lt (.blt .len (.cons (.var 1) .nil)) (.int 150)) .nil)))
    (.cons (.asg (.name 3) (.bin .add (.int 65) (.bin .mod (.blt .int (.cons (.bin .fdiv (.var 2) (.int 256)) .nil)) (.int 60)))) (.nil))
    (.nil))
  b_law_put_T2)
def n_law_ends_well : List Str := ["_law_outs", "_law_ends", "_law_puts", "_law_taken", "_law_acked", "_law_keys", "_law_net", "_law_bag", "_law_source", "_law_k", "_law_key"]
def b_law_ends_well_L1 : Ss :=
  .cons (.ifs (.not (.call "_law_send" (.cons (.var 0) (.cons (.var 2) (.cons (.var 4) (.cons (.var 6) (.cons (.var 7) (.cons (.var 8) .nil))))))))
    (.cons (.ret (.bl false)) (.nil))
    (.nil)) (.nil)
def b_law_ends_well_L2 : Ss :=
  .cons (.ifs (.not (.var 7))
    (.cons (.brk) (.nil))
    (.nil))
  (.cons (.ifs (.not (.call "_law_deliver" (.cons (.var 0) (.cons (.var 1) (.cons (.var 3) (.cons (.var 4) (.cons (.var 6) (.cons (.var 7) (.cons (.int 0) .nil)))))))))
    (.cons (.ret (.bl false)) (.nil))
    (.nil)) (.nil))
def b_law_ends_well_L3 : Ss :=
  .cons (.ifs (.or (.cons (.cmp .ne (.ix (.var 3) (.var 10)) (.ix (.var 2) (.var 10))) (.cons (.cmp .ne (.ix (.var 4) (.var 10)) (.blt .len (.cons (.ix (.var 2) (.var 10)) .nil))) (.cons (.cmp .ne (.meth (.ix (.var 0) (.var 10)) "due" .none (.nil)) (.lst (.nil))) .nil))))
    (.cons (.ret (.bl false)) (.nil))
    (.nil)) (.nil)
def b_law_ends_well : Ss :=
  .cons (.for (.name 8) (.rng (.cons (.int 3) .nil)) b_law_ends_well_L1)
  (.cons (.for (.name 9) (.rng (.cons (.bin .add (.bin .mul (.int 2) (.blt .len (.cons (.var 7) .nil))) (.int 1)) .nil)) b_law_ends_well_L2)
  (.cons (.ifs (.or (.cons (.var 7) (.cons (.cmp .ne (.olen (.var 6)) (.int 0)) (.cons (.cmp .ne (.meth (.var 6) "packets" .none (.nil)) (.lst (.nil))) .nil))))
    (.cons (.ret (.bl false)) (.nil))
    (.nil))
  (.cons (.for (.name 10) (.seq (.var 5)) b_law_ends_well_L3)
  (.cons (.ret (.call "_law_holds" (.cons (.var 0) (.cons (.var 1) (.cons (.var 2) (.cons (.var 3) (.cons (.var 4) (.cons (.var 5) .nil)))))))) (.nil)))))
def n_law : List Str := ["_law_script", "_law_keys", "_law_outs", "_law_ends", "_law_puts", "_law_taken", "_law_acked", "_law_key", "_law_net", "_law_bag", "_law_j", "_law_part", "_law_deed", "_law_rest", "_law_good", "_law_k"]
def b_law_L1 : Ss :=
  .cons (.asg (.sub (.var 2) (.var 7)) (.make "Outgoing" (.nil)))
  (.cons (.asg (.sub (.var 3) (.var 7)) (.make "Incoming" (.nil)))
  (.cons (.asg (.sub (.var 4) (.var 7)) (.lst (.nil)))
  (.cons (.asg (.sub (.var 5) (.var 7)) (.lst (.nil)))
  (.cons (.asg (.sub (.var 6) (.var 7)) (.int 0)) (.nil)))))
def b_law_L2 : Ss :=
  .cons (.ifs (.and (.cons (.var 9) (.cons (.var 14) .nil)))
    (.cons (.asg (.name 14) (.call "_law_deliver" (.cons (.var 2) (.cons (.var 3) (.cons (.var 5) (.cons (.var 6) (.cons (.var 8) (.cons (.var 9) (.cons (.bin .mod (.bin .add (.bin .fdiv (.var 13) (.int 4)) (.bin .mul (.int 7) (.var 15))) (.blt .len (.cons (.var 9) .nil))) .nil))))))))) (.nil))
    (.nil)) (.nil)
def b_law_T3 : Ss :=
  .cons (.ifs (.or (.cons (.not (.var 14)) (.cons (.cmp .ne (.meth (.var 8) "packets" .none (.nil)) (.var 9)) .nil)))
    (.cons (.ret (.bl false)) (.nil))
    (.nil))
  (.cons (.ifs (.not (.call "_law_holds" (.cons (.var 2) (.cons (.var 3) (.cons (.var 4) (.cons (.var 5) (.cons (.var 6) (.cons (.var 1) .nil))))))))
    (.cons (.ret (.bl false)) (.nil))
    (.nil)) (.nil))
def b_law_L4 : Ss :=
  .cons (.asg (.name 11) (.call "_law_number" (.cons (.ix (.var 0) (.var 10)) (.cons (.var 10) .nil))))
  (.cons (.asg (.name 12) (.bin .mod (.blt .int (.cons (.var 11) .nil)) (.int 9)))
  (.cons (.asg (.name 13) (.blt .int (.cons (.bin .fdiv (.var 11) (.int 9)) .nil)))
  (.cons (.asg (.name 14) (.bl true))
  (.cons (.ifs (.cmp .lt (.var 12) (.int 3))
    (.cons (.asg (.name 7) (.ix (.var 1) (.bin .mod (.var 13) (.int 6))))
      (.cons (.asg (.name 14) (.call "_law_put" (.cons (.ix (.var 2) (.var 7)) (.cons (.ix (.var 4) (.var 7)) (.cons (.bin .fdiv (.var 13) (.int 6)) .nil))))) (.nil)))
    (.cons (.ifs (.cmp .eq (.var 12) (.int 3))
        (.cons (.ifs (.cmp .le (.blt .len (.cons (.var 9) .nil)) (.int 400))
            (.cons (.asg (.name 14) (.call "_law_send" (.cons (.var 2) (.cons (.var 4) (.cons (.var 6) (.cons (.var 8) (.cons (.var 9) (.cons (.bin .mod (.var 13) (.int 3)) .nil)))))))) (.nil))
            (.nil)) (.nil))
        (.cons (.ifs (.and (.cons (.cmp .eq (.var 12) (.int 4)) (.cons (.var 9) .nil)))
            (.cons (.asg (.name 14) (.call "_law_take" (.cons (.var 8) (.cons (.var 9) (.cons (.bin .mod (.var 13) (.blt .len (.cons (.var 9) .nil))) .nil))))) (.nil))
            (.cons (.ifs (.and (.cons (.cmp .eq (.var 12) (.int 5)) (.cons (.var 9) .nil)))
                (.cons (.expr (.meth (.var 8) "repeat" .none (.cons (.bin .mod (.var 13) (.blt .len (.cons (.var 9) .nil))) .nil)))
                  (.cons (.expr (.meth (.var 9) "append" .append (.cons (.ix (.var 9) (.bin .mod (.var 13) (.blt .len (.cons (.var 9) .nil)))) .nil))) (.nil)))
                (.cons (.ifs (.cmp .gt (.var 12) (.int 5))
                    (.cons (.for (.name 15) (.rng (.cons (.bin .add (.int 1) (.bin .mod (.var 13) (.int 4))) .nil)) b_law_L2) (.nil))
                    (.nil)) (.nil))) (.nil))) (.nil))) (.nil)))
  b_law_T3))))
def b_law : Ss :=
  .cons (.asg (.name 1) (.lst (.cons (.tup (.cons (.int 0) (.cons (.int 1) .nil))) (.cons (.tup (.cons (.int 0) (.cons (.int 2) .nil))) (.cons (.tup (.cons (.int 1) (.cons (.int 0) .nil))) (.cons (.tup (.cons (.int 1) (.cons (.int 2) .nil))) (.cons (.tup (.cons (.int 2) (.cons (.int 0) .nil))) (.cons (.tup (.cons (.int 2) (.cons (.int 1) .nil))) .nil))))))))
  (.cons (.asg (.name 2) (.dnew))
  (.cons (.asg (.name 3) (.dnew))
  (.cons (.asg (.name 4) (.dnew))
  (.cons (.asg (.name 5) (.dnew))
  (.cons (.asg (.name 6) (.dnew))
  (.cons (.for (.name 7) (.seq (.var 1)) b_law_L1)
  (.cons (.asg (.name 8) (.make "Network" (.nil)))
  (.cons (.asg (.name 9) (.lst (.nil)))
  (.cons (.for (.name 10) (.rng (.cons (.blt .len (.cons (.var 0) .nil)) .nil)) b_law_L4)
  (.cons (.ret (.call "_law_ends_well" (.cons (.var 2) (.cons (.var 3) (.cons (.var 4) (.cons (.var 5) (.cons (.var 6) (.cons (.var 1) (.cons (.var 8) (.cons (.var 9) .nil)))))))))) (.nil)))))))))))
def tb : TabL :=
  { fn := [("_law_number", 1, 2), ("_law_send", 2, 6), ("_law_take", 3, 3), ("_law_deliver", 4, 7), ("_law_holds", 3, 6), ("_law_put", 2, 3), ("_law_ends_well", 5, 8), ("law", 6, 1)]
    cls := [("Outgoing", 1, 0), ("Incoming", 1, 0), ("Network", 1, 0)]
    meth := [("put", 1, 1), ("due", 1, 0), ("acknowledge", 1, 1), ("accepts", 1, 1), ("accept", 1, 0), ("__len__", 1, 0), ("_check", 1, 1), ("post", 1, 1), ("take_out", 2, 1), ("repeat", 2, 1), ("packets", 1, 0)]
    prop := [("acknowledged", 1), ("put_count", 1)]
    blt := ["enumerate", "int", "isinstance", "len", "list", "max", "range", "tuple"] }
end K04

local macro_rules | `(tactic| walk_at "go") => `(tactic| simp only [LL.Ss_nil, LL.Ss_cons, LL.S_expr, LL.S_ret, LL.S_retN, LL.S_brk, LL.S_cnt, LL.S_pass, LL.S_asg, LL.S_fld, LL.S_flda, LL.S_ifs, LL.S_for, LL.S_whl,
  LL.E_var, LL.E_con, LL.E_ty, LL.E_int, LL.E_bl, LL.E_non, LL.E_str, LL.E_tup, LL.E_lst, LL.E_bin, LL.E_neg, LL.E_cmp, LL.E_chain, LL.E_and, LL.E_or, LL.E_not, LL.E_ife, LL.E_fld, LL.E_ix, LL.E_call, LL.E_make, LL.E_blt, LL.E_meth,
  LL.A_nil, LL.A_cons, LL.AV_1, LL.AV_2, LL.OV_1, LL.OV_2, LL.AT_1, LL.AT_2, LL.OT_1, LL.OT_2, LL.T_cmp, LL.T_chain, LL.T_and, LL.T_or, LL.T_not, LL.T_var, LL.T_blt, LL.T_call, LL.T_meth, LL.T_fld, LL.T_ix, LL.T_bin,
  LL.G_name, LL.G_tup, LL.G_sub, LL.Gs_nil, LL.Gs_cons, LL.I_seq, LL.D_loc, LL.D_k, LL.D_t, LL.key_int, LL.key_str, LL.keys_2, LL.getK_str, LL.getK_nil, LL.E_dnew, LL.E_olen, LL.V_olM, LL.S_rais, LL.I_enum, LL.E_lc, LL.E_sl, LL.P_nil, LL.P_one, LL.V_isI, LL.K_seq, LL.K_rng, LL.K_enum, LL.V_en1, LL.V_en2, LL.V_en3, LL.V_sl1, LL.V_sl2, LL.V_sl3, LL.V_nt1, LL.V_nt2, LL.V_sa1, LL.V_sa2, LL.V_wi1, LL.V_wi2, LL.I_rng, LL.getS_0, LL.getS_s, LL.ends, LL.start,
  LL.V_add, LL.V_addl, LL.V_sub, LL.V_mul, LL.V_mull, LL.V_fdiv, LL.V_mod, LL.V_pow, LL.V_cmp, LL.V_neg, LL.V_isn, LL.V_notn, LL.N_non, LL.N_int, LL.N_bl, LL.N_tup, LL.N_loc, LL.V_B, LL.V_t1, LL.V_t2, LL.V_t3, LL.V_t4, LL.V_t5, LL.V_t6, LL.V_t7, LL.V_in1, LL.V_in2, LL.V_op1, LL.V_at, LL.V_ix1, LL.V_ix2, LL.V_ix3, LL.V_ix4, LL.V_ix5, LL.V_ix6, LL.V_st1, LL.V_st2, LL.V_st3, LL.V_st4, LL.V_ln1, LL.V_ln2, LL.V_ln3, LL.V_ln4, LL.V_ln5, LL.V_int1, LL.V_int2, LL.V_abs, LL.V_max, LL.V_min, LL.V_li1, LL.V_li2, LL.V_li3, LL.V_tu1, LL.V_tu2, LL.V_tu3, LL.V_kd1, LL.V_kd2, LL.V_kd3, LL.V_kd4, LL.V_kd5, LL.V_ap, LL.V_ex, LL.V_po, LL.V_pa, LL.V_rv, LL.V_cl, LL.V_ai, LL.V_sf, LL.V_sq1, LL.V_sq2, LL.V_sq3, LL.V_sq4, LL.V_rg1, LL.V_rg2, LL.V_mt1, LL.V_mt2, LL.V_fd1, LL.V_fd2, LL.V_bl1, LL.V_bl2, LL.O_add, LL.O_sub, LL.O_mul, LL.O_fdiv, LL.O_mod, LL.O_pow, LL.C_eq, LL.C_ne, LL.C_lt, LL.C_le, LL.C_gt, LL.C_ge, LL.C_is, LL.C_isn, LL.F_len, LL.F_int, LL.F_abs, LL.F_max, LL.F_min, LL.F_list, LL.F_tuple, LL.F_isi, LL.M_append1, LL.M_extend1, LL.M_pop0, LL.M_pop1, LL.M_reverse0, LL.M_clear0,
  LL.lEq_int, LL.lNe_int, LL.lEq_bl, LL.lNe_bl, LL.isi_int_int, LL.isi_int_bool, LL.isi_bl_int, LL.isi_bl_bool, LL.isi_tup_tup, LL.isi_loc, LL.isiO_l, LL.isiO_k, LL.isiO_t, LL.kit_ll, LL.kit_dd, LL.isi_non_int, LL.LH.set_ap, LL.LH.set_set, LL.LH.del_ap, LL.Nm.x.injEq, LL.Nm.w.injEq, LL.Nm.a.injEq, LL.atI_0, LL.atI_1, LL.atI_2, Int.toNat_natCast, Int.natCast_inj, LL.ixN_0, LL.ixN_1,
  List.map_cons, List.map_nil, List.length_cons, List.length_nil, List.replicate, List.cons_append, List.nil_append, Nat.reduceAdd, Nat.reduceSub, List.set_cons_zero, List.set_cons_succ,
  Option.some.injEq, exists_eq_left', exists_eq_left, exists_eq_right, exists_eq, exists_eq', LL.LV.int.injEq, LL.LV.bl.injEq, and_true, true_and, Bool.false_eq_true, if_false, if_true, ite_true, ite_false, reduceCtorEq, false_and, and_false, exists_false, false_or, or_false, ↓reduceIte,
  LL.lookup_skip, List.lookup_nil, LL.putL_skip, LL.putL_nil, String.reduceEq, Option.isSome_some, Option.isSome_none, Nat.reduceLT, Bool.not_true, Bool.not_false, decide_eq_true_eq, List.cons.injEq, Prod.mk.injEq, LL.LO.ins.injEq, LL.LO.lst.injEq, LL.LO.dK.injEq, LL.LO.dT.injEq, LL.LV.loc.injEq, LL.LV.tup.injEq, exists_and_left, and_assoc, decide_true, decide_false, beq_self_eq_true, not_true_eq_false, not_false_eq_true, exists_const,
  Nat.reduceEqDiff, Nat.succ_ne_self, Int.reduceSub, Int.reduceAdd, Nat.zero_ne_one, Nat.one_ne_zero, *])
local macro_rules | `(tactic| walk_at "side1") => `(tactic| first | decide | omega | (exact LL.cdivw (by omega) (by omega)) | (exact ⟨by decide, by decide, by decide⟩) | (exact .inr (by decide)) | (exact ⟨by decide, by decide +kernel⟩) | (exact .inl (by constructor <;> omega)) | (exact .inr (by constructor <;> omega)))
local macro_rules | `(tactic| walk_at "sd") => `(tactic| repeat ((with_reducible refine And.intro ?_ ?_); · walk_at "side1"))
namespace K04
open PySem L2 LL
variable {G : Glob} {T : Tab} {C : Addr}
/-- an end: so many letters acknowledged, those waiting -/
structure Out (C : Addr) (h : LH) (n : Nm) (v : Nat) (a : Int) (wn : Nm) (wv : Nat) (ws : List LV) : Prop where
  o : h n = some (v, .ins C [("_acknowledged", .int a), ("_waiting", .loc wn wv)])
  w : h wn = some (wv, .lst ws)
theorem out_eq (C : Addr) (h : LH) (n : Nm) (v : Nat) (a : Int) (wn : Nm) (wv : Nat) (ws : List LV) : Out C h n v a wn wv ws = (h n = some (v, .ins C [("_acknowledged", .int a), ("_waiting", .loc wn wv)]) ∧ h wn = some (wv, .lst ws)) :=
  propext ⟨fun x => ⟨x.o, x.w⟩, fun x => ⟨x.1, x.2⟩⟩
theorem Out.ne {h : LH} {n : Nm} {v : Nat} {a : Int} {wn : Nm} {wv : Nat} {ws : List LV} (x : Out C h n v a wn wv ws) : n ≠ wn := fun e => by
  have := x.o; rw [e, x.w] at this; cases this
def dueL (a : Int) (ws : List LV) : List LV := ws.mapIdx fun i x => .tup [.int (a + 1 + (i : Nat)), x]
def spInit (C : Addr) : LSp := fun xs h Q _ => ∃ n v, xs = [.loc n v] ∧ h n = some (v, .ins C []) ∧ ∀ k wv, h (.a k) = none → ∀ h', Out C h' n v 0 (.a k) wv [] → (∀ m, m ≠ n → m ≠ .a k → h' m = h m) → Q .non h'
def spAck (C : Addr) : LSp := fun xs h Q _ => ∃ n v a wn wv ws, xs = [.loc n v] ∧ Out C h n v a wn wv ws ∧ Q (.int a) h
def spCount (C : Addr) : LSp := fun xs h Q _ => ∃ n v a wn wv ws, xs = [.loc n v] ∧ Out C h n v a wn wv ws ∧ Q (.int (a + (ws.length : Nat))) h
def spPut (C : Addr) : LSp := fun xs h Q _ => ∃ n v a wn wv ws x, xs = [.loc n v, x] ∧ Out C h n v a wn wv ws ∧ ws.length < sizeLine ∧ Q (.int (a + ((ws ++ [x]).length : Nat))) (h.set wn wv (.lst (ws ++ [x])))
def spDue (C : Addr) : LSp := fun xs h Q _ => ∃ n v a wn wv ws, xs = [.loc n v] ∧ Out C h n v a wn wv ws ∧ ws.length ≤ sizeLine ∧ ∀ k d, h (.a k) = none → Q (.loc (.a k) d) (h.set (.a k) d (.lst (dueL a ws)))
def spAcknowledge (C : Addr) : LSp := fun xs h Q _ => ∃ n v a wn wv ws m, xs = [.loc n v, .int m] ∧ Out C h n v a wn wv ws ∧ (m - a ≤ 0 → Q .non h) ∧
  (0 < m - a → m - a ≤ (ws.length : Nat) ∧ ∀ k wv', h (.a k) = none → ∀ h', Out C h' n v m (.a k) wv' (ws.drop (m - a).toNat) → (∀ r, r ≠ n → r ≠ .a k → h' r = h r) → Q .non h')
theorem k_init (ga : G.attr C "_acknowledged" = true) (gw : G.attr C "_waiting" = true) : Keeps G T n_Outgoing_init 1 b_Outgoing_init (spInit C) := by
  rintro xs h Q X hn ⟨n, v, rfl, h1, q⟩
  unfold b_Outgoing_init n_Outgoing_init
  walk_at "go"
  refine ⟨by decide, alloc_any fun k hk wv => ?_⟩
  have hne : n ≠ .a k := fun e => by rw [e, LH.set_ap] at hk; simp [e] at hk
  walk_at "go"
  rw [LH.set_ne hne.symm] at hk
  refine fin (q k wv hk _ ⟨by simp [LH.set_ap], by simp [LH.set_ap, hne.symm]⟩ fun m h1 h2 => by simp [LH.set_ap, h1, h2])
theorem k_ack (ga : G.attr C "_acknowledged" = true) : Keeps G T n_Outgoing_acknowledged 1 b_Outgoing_acknowledged (spAck C) := by
  rintro xs h Q X hn ⟨n, v, a, wn, wv, ws, rfl, o, q⟩
  have h1 := o.o
  unfold b_Outgoing_acknowledged n_Outgoing_acknowledged
  walk_at "go"
  exact fin q
theorem k_count (ga : G.attr C "_acknowledged" = true) (gw : G.attr C "_waiting" = true) : Keeps G T n_Outgoing_put_count 1 b_Outgoing_put_count (spCount C) := by
  rintro xs h Q X hn ⟨n, v, a, wn, wv, ws, rfl, o, q⟩
  have h1 := o.o
  have h2 := o.w
  unfold b_Outgoing_put_count n_Outgoing_put_count
  walk_at "go"
  exact fin q
theorem k_put (ga : G.attr C "_acknowledged" = true) (gw : G.attr C "_waiting" = true) : Keeps G T n_Outgoing_put 2 b_Outgoing_put (spPut C) := by
  rintro xs h Q X hn ⟨n, v, a, wn, wv, ws, x, rfl, o, hl, q⟩
  have h1 := o.o
  have h2 := o.w
  have hne := o.ne
  unfold b_Outgoing_put n_Outgoing_put
  walk_at "go"
  exact fin q
theorem k_due (ga : G.attr C "_acknowledged" = true) (gw : G.attr C "_waiting" = true) : Keeps G T n_Outgoing_due 1 b_Outgoing_due (spDue C) := by
  rintro xs h Q X hn ⟨n, v, a, wn, wv, ws, rfl, o, hl, q⟩
  have h1 := o.o
  have h2 := o.w
  unfold b_Outgoing_due n_Outgoing_due
  walk_at "go"
  refine alloc_any fun k hk d => lcK_map (ws.mapIdx fun i x => .tup [.int (i : Nat), x]) (dueL a ws) (by simpa using hl) (by simp [dueL]) (fun i acc => ?_) (fun i x acc K hx hK => ?_) (fin (q k d hk))
  · have hne : wn ≠ .a k := fun e => by rw [← e, h2] at hk; cases hk
    simp [enumIt, listIt, LH.set_ne hne, h2]
    cases ws[i]? <;> rfl
  · simp only [List.getElem?_mapIdx, Option.map_eq_some_iff] at hx
    obtain ⟨y, hy, rfl⟩ := hx
    walk_at "go"
    refine ⟨by decide, hK _ (by simp [dueL, hy])⟩
theorem cut_drop {α : Type} (xs : List α) {c : Int} (h : 0 ≤ c) (h2 : c ≤ xs.length) : cutL xs (some c) none = xs.drop c.toNat := by
  unfold cutL
  rw [HT.sIx_none]
  have : HT.sIx xs.length 0 (some c) = c.toNat := by
    show (if c < 0 then (c + (xs.length : Int)).toNat else min c.toNat xs.length) = c.toNat
    rw [if_neg (by omega)]
    omega
  rw [this, List.take_of_length_le (by rw [List.length_drop]; exact Nat.le_refl _)]
theorem k_acknowledge (ga : G.attr C "_acknowledged" = true) (gw : G.attr C "_waiting" = true) : Keeps G T n_Outgoing_acknowledge 2 b_Outgoing_acknowledge (spAcknowledge C) := by
  rintro xs h Q X hn ⟨n, v, a, wn, wv, ws, m, rfl, o, q1, q2⟩
  have h1 := o.o
  have h2 := o.w
  unfold b_Outgoing_acknowledge n_Outgoing_acknowledge
  walk_at "go"
  split
  · rename_i hc
    obtain ⟨hl, q⟩ := q2 hc
    refine alloc_any fun k hk wv' => ?_
    have hne : n ≠ .a k := fun e => by rw [← e, h1] at hk; cases hk
    rw [cut_drop ws (by omega) hl]
    walk_at "go"
    refine fin (q k wv' hk _ ⟨by simp [LH.set_ap], by simp [LH.set_ap, hne.symm]⟩ fun m h1 h2 => by simp [LH.set_ap, h1, h2])
  · rename_i hc
    exact fin (q1 (by omega))
def spInI (C : Addr) : LSp := fun xs h Q _ => ∃ n v, xs = [.loc n v] ∧ h n = some (v, .ins C []) ∧ Q .non (h.set n v (.ins C [("count", .int 0)]))
def spAccepts (C : Addr) : LSp := fun xs h Q _ => ∃ n v c i, xs = [.loc n v, .int i] ∧ h n = some (v, .ins C [("count", .int c)]) ∧ Q (.bl (decide (i = c + 1))) h
def spAccept (C : Addr) : LSp := fun xs h Q _ => ∃ n v c, xs = [.loc n v] ∧ h n = some (v, .ins C [("count", .int c)]) ∧ Q .non (h.set n v (.ins C [("count", .int (c + 1))]))
theorem k_ini (ga : G.attr C "count" = true) : Keeps G T n_Incoming_init 1 b_Incoming_init (spInI C) := by
  rintro xs h Q X hn ⟨n, v, rfl, h1, q⟩
  unfold b_Incoming_init n_Incoming_init
  walk_at "go"
  exact fin q
theorem k_accepts (ga : G.attr C "count" = true) : Keeps G T n_Incoming_accepts 2 b_Incoming_accepts (spAccepts C) := by
  rintro xs h Q X hn ⟨n, v, c, i, rfl, h1, q⟩
  unfold b_Incoming_accepts n_Incoming_accepts
  walk_at "go"
  exact fin q
theorem k_accept (ga : G.attr C "count" = true) : Keeps G T n_Incoming_accept 1 b_Incoming_accept (spAccept C) := by
  rintro xs h Q X hn ⟨n, v, c, rfl, h1, q⟩
  unfold b_Incoming_accept n_Incoming_accept
  walk_at "go"
  exact fin q

/-! ### the network -/
structure Net (C : Addr) (h : LH) (n : Nm) (v : Nat) (pn : Nm) (pv : Nat) (ps : List LV) : Prop where
  o : h n = some (v, .ins C [("_packets", .loc pn pv)])
  p : h pn = some (pv, .lst ps)
theorem net_eq (C : Addr) (h : LH) (n : Nm) (v : Nat) (pn : Nm) (pv : Nat) (ps : List LV) : Net C h n v pn pv ps = (h n = some (v, .ins C [("_packets", .loc pn pv)]) ∧ h pn = some (pv, .lst ps)) :=
  propext ⟨fun x => ⟨x.o, x.p⟩, fun x => ⟨x.1, x.2⟩⟩
theorem Net.ne {h : LH} {n : Nm} {v : Nat} {pn : Nm} {pv : Nat} {ps : List LV} (x : Net C h n v pn pv ps) : n ≠ pn := fun e => by
  have := x.o; rw [e, x.p] at this; cases this
def spNInit (C : Addr) : LSp := fun xs h Q _ => ∃ n v, xs = [.loc n v] ∧ h n = some (v, .ins C []) ∧ ∀ k pv, h (.a k) = none → ∀ h', Net C h' n v (.a k) pv [] → (∀ m, m ≠ n → m ≠ .a k → h' m = h m) → Q .non h'
def spNLen (C : Addr) : LSp := fun xs h Q _ => ∃ n v pn pv ps, xs = [.loc n v] ∧ Net C h n v pn pv ps ∧ Q (.int (ps.length : Nat)) h
def spCheck (C : Addr) : LSp := fun xs h Q _ => ∃ n v pn pv ps i, xs = [.loc n v, .int i] ∧ Net C h n v pn pv ps ∧ 0 ≤ i ∧ i < (ps.length : Nat) ∧ Q .non h
def spPost (C : Addr) : LSp := fun xs h Q _ => ∃ n v pn pv ps x, xs = [.loc n v, x] ∧ Net C h n v pn pv ps ∧ ps.length < sizeLine ∧ Q .non (h.set pn pv (.lst (ps ++ [x])))
def spTakeOut (C : Addr) : LSp := fun xs h Q _ => ∃ n v pn pv ps i x, xs = [.loc n v, .int (i : Nat)] ∧ Net C h n v pn pv ps ∧ ps[i]? = some x ∧ ps.length < 2000000 ∧ Q x (h.set pn pv (.lst (ps.eraseIdx i)))
def spRepeat (C : Addr) : LSp := fun xs h Q _ => ∃ n v pn pv ps i x, xs = [.loc n v, .int (i : Nat)] ∧ Net C h n v pn pv ps ∧ ps[i]? = some x ∧ ps.length < 2000000 ∧ Q .non (h.set pn pv (.lst (ps ++ [x])))
def spPackets (C : Addr) : LSp := fun xs h Q _ => ∃ n v pn pv ps, xs = [.loc n v] ∧ Net C h n v pn pv ps ∧ ∀ k d, h (.a k) = none → Q (.loc (.a k) d) (h.set (.a k) d (.lst ps))
theorem k_ninit (ga : G.attr C "_packets" = true) : Keeps G T n_Network_init 1 b_Network_init (spNInit C) := by
  rintro xs h Q X hn ⟨n, v, rfl, h1, q⟩
  unfold b_Network_init n_Network_init
  walk_at "go"
  refine ⟨by decide, alloc_any fun k hk wv => ?_⟩
  have hne : n ≠ .a k := fun e => by rw [← e, h1] at hk; cases hk
  walk_at "go"
  refine fin (q k wv hk _ ⟨by simp [LH.set_ap], by simp [LH.set_ap, hne.symm]⟩ fun m h1 h2 => by simp [LH.set_ap, h1, h2])
theorem k_nlen (ga : G.attr C "_packets" = true) : Keeps G T n_Network___len__ 1 b_Network___len__ (spNLen C) := by
  rintro xs h Q X hn ⟨n, v, pn, pv, ps, rfl, o, q⟩
  have h1 := o.o
  have h2 := o.p
  unfold b_Network___len__ n_Network___len__
  walk_at "go"
  exact fin q
theorem k_check (ga : G.attr C "_packets" = true) : Keeps G T n_Network__check 2 b_Network__check (spCheck C) := by
  rintro xs h Q X hn ⟨n, v, pn, pv, ps, i, rfl, o, h0, hl, q⟩
  have h1 := o.o
  have h2 := o.p
  have e1 : ¬ i < 0 := by omega
  have e2 : ¬ (ps.length : Int) ≤ i := by omega
  unfold b_Network__check n_Network__check
  walk_at "go"
  exact fin q
theorem k_post (ga : G.attr C "_packets" = true) : Keeps G T n_Network_post 2 b_Network_post (spPost C) := by
  rintro xs h Q X hn ⟨n, v, pn, pv, ps, x, rfl, o, hl, q⟩
  have h1 := o.o
  have h2 := o.p
  unfold b_Network_post n_Network_post
  walk_at "go"
  exact fin q
theorem sqi {i n : Nat} (h : i < n) : seqIndex? (i : Int) n = some i := by
  unfold seqIndex?
  have e1 : ¬ ((i : Int) < 0) := by omega
  simp [e1, h]
theorem k_take (ga : G.attr C "_packets" = true) (g1 : G.meth C "_check" = some (spCheck C)) (t1 : (T.meth "_check").isSome = true) : Keeps G T n_Network_take_out 2 b_Network_take_out (spTakeOut C) := by
  rintro xs h Q X hn ⟨n, v, pn, pv, ps, i, x, rfl, o, hx, hl, q⟩
  have h1 := o.o
  have h2 := o.p
  have s1 := spCheck.eq_1 C
  have ni := net_eq C
  have hi : i < ps.length := (List.getElem?_eq_some_iff.mp hx).1
  unfold b_Network_take_out n_Network_take_out
  walk_at "go"
  exact ⟨by omega, by omega, by omega, by omega, i, sqi hi, x, hx, fin q⟩
theorem k_repeat (ga : G.attr C "_packets" = true) (g1 : G.meth C "_check" = some (spCheck C)) (t1 : (T.meth "_check").isSome = true) : Keeps G T n_Network_repeat 2 b_Network_repeat (spRepeat C) := by
  rintro xs h Q X hn ⟨n, v, pn, pv, ps, i, x, rfl, o, hx, hl, q⟩
  have h1 := o.o
  have h2 := o.p
  have s1 := spCheck.eq_1 C
  have ni := net_eq C
  have hi : i < ps.length := (List.getElem?_eq_some_iff.mp hx).1
  have e0 := atI_nat hx
  unfold b_Network_repeat n_Network_repeat
  walk_at "go"
  exact ⟨by omega, by omega, by show _ < 2 ^ 24; omega, fin q⟩
theorem k_packets (ga : G.attr C "_packets" = true) : Keeps G T n_Network_packets 1 b_Network_packets (spPackets C) := by
  rintro xs h Q X hn ⟨n, v, pn, pv, ps, rfl, o, q⟩
  have h1 := o.o
  have h2 := o.p
  unfold b_Network_packets n_Network_packets
  walk_at "go"
  exact alloc_any fun k hk d => fin (q k d hk)
/-- some number -/
def spNum : LSp := fun xs h Q _ => ∃ i k, xs = [.int i, .int k] ∧ (0 ≤ k ∧ k < 1000) ∧ ∀ j, Q (.int j) h
theorem k_num : Keeps G T n_law_number 2 b_law_number spNum := by
  rintro xs h Q X hn ⟨i, k, rfl, hk, q⟩
  unfold b_law_number n_law_number
  walk_at "go"
  have e1 := Int.emod_nonneg (i * 48271 + k * 69621 + 12345) (show (2147483647 : Int) ≠ 0 by decide)
  have e2 := Int.emod_lt_of_pos (i * 48271 + k * 69621 + 12345) (show (0 : Int) < 2147483647 by decide)
  refine ⟨⟨by decide, by decide, by decide⟩, ?_⟩
  split
  · exact ⟨⟨by decide, by decide, by decide⟩, fin (q _)⟩
  · exact ⟨.inr (by decide), .inr (by decide), by decide, ⟨by decide, by decide +kernel⟩, .inl ⟨by omega, by omega⟩, by decide, .inr (by decide), fin (q _)⟩

/-! ### six channels -/
def sr : Nat → Int
  | 0 => 0 | 1 => 0 | 2 => 1 | 3 => 1 | 4 => 2 | _ => 2
def tg : Nat → Int
  | 0 => 1 | 1 => 2 | 2 => 0 | 3 => 2 | 4 => 0 | _ => 1
def dctOf (f : Nat → LV) : List (List Key × LV) := (List.range 6).map fun j => ([Sum.inl (sr j), Sum.inl (tg j)], f j)
theorem six {P : Nat → Prop} (h0 : P 0) (h1 : P 1) (h2 : P 2) (h3 : P 3) (h4 : P 4) (h5 : P 5) : ∀ j, j < 6 → P j
  | 0, _ => h0 | 1, _ => h1 | 2, _ => h2 | 3, _ => h3 | 4, _ => h4 | 5, _ => h5
  | n + 6, h => absurd h (by omega)
theorem getK_dct (f : Nat → LV) : ∀ j, j < 6 → getK (dctOf f) [Sum.inl (sr j), Sum.inl (tg j)] = some (f j) := six rfl rfl rfl rfl rfl rfl
theorem putK_dct (f : Nat → LV) (v : LV) : ∀ j, j < 6 → putK (dctOf f) [Sum.inl (sr j), Sum.inl (tg j)] v = dctOf fun i => if i = j then v else f i := six rfl rfl rfl rfl rfl rfl
theorem tg_sr : ∀ j, j < 6 → (tg j = sr j) = False := six (by decide) (by decide) (by decide) (by decide) (by decide) (by decide)
def dat (j : Nat) (i : Nat) (x : LV) : LV := .tup [.int (sr j), .int (tg j), .str "data", .int (i : Nat), x]
def ack (j c : Nat) : LV := .tup [.int (tg j), .int (sr j), .str "ack", .int (c : Nat), .non]
/-- what never changes: versions -/
structure Ver where
  (vk vo ve vp vt va vn vb nk nv : Nat)
  (oj ej pj tj : Nat → Nat)
/-- what changes -/
structure Mut where
  (wk wv : Nat → Nat)
  P : Nat → List LV
  (n a : Nat → Nat)
  bag : List LV
structure HI (CO CI CN : Addr) (h : LH) (V : Ver) (M : Mut) : Prop where
  keys : h (.x [0]) = some (V.vk, .lst ((List.range 6).map fun j => .tup [.int (sr j), .int (tg j)]))
  outs : h (.x [1]) = some (V.vo, .dT (dctOf fun j => .loc (.x [11, j]) (V.oj j)))
  ends : h (.x [2]) = some (V.ve, .dT (dctOf fun j => .loc (.x [12, j]) (V.ej j)))
  puts : h (.x [3]) = some (V.vp, .dT (dctOf fun j => .loc (.x [13, j]) (V.pj j)))
  taken : h (.x [4]) = some (V.vt, .dT (dctOf fun j => .loc (.x [14, j]) (V.tj j)))
  acked : h (.x [5]) = some (V.va, .dT (dctOf fun j => .int (M.a j : Nat)))
  net : Net CN h (.x [6]) V.vn (.a V.nk) V.nv M.bag
  bag : h (.x [8]) = some (V.vb, .lst M.bag)
  out : ∀ j, j < 6 → Out CO h (.x [11, j]) (V.oj j) (M.a j : Nat) (.a (M.wk j)) (M.wv j) ((M.P j).drop (M.a j))
  end_ : ∀ j, j < 6 → h (.x [12, j]) = some (V.ej j, .ins CI [("count", .int (M.n j : Nat))])
  put : ∀ j, j < 6 → h (.x [13, j]) = some (V.pj j, .lst (M.P j))
  tkn : ∀ j, j < 6 → h (.x [14, j]) = some (V.tj j, .lst ((M.P j).take (M.n j)))
  wne : ∀ i j, i < 6 → j < 6 → i ≠ j → M.wk i ≠ M.wk j
  wnn : ∀ j, j < 6 → M.wk j ≠ V.nk
/-- letters -/
def Lt (x : LV) : Prop := PlD 3 x ∧ ∃ ys, x = .tup ys
def Lt4 (x : LV) : Prop := PlD 4 x ∧ ∃ ys, x = .tup ys
def Pk (M : Mut) (p : LV) : Prop := ∃ j, j < 6 ∧ ((∃ i x, (M.P j)[i]? = some x ∧ p = dat j (i + 1) x) ∨ ∃ c, c ≤ M.n j ∧ p = ack j c)
structure AI (M : Mut) (b : Nat) : Prop where
  an : ∀ j, j < 6 → M.a j ≤ M.n j
  nP : ∀ j, j < 6 → M.n j ≤ (M.P j).length
  lt : ∀ j, j < 6 → ∀ x ∈ M.P j, Lt x
  pk : ∀ p ∈ M.bag, Pk M p
  lP : ∀ j, j < 6 → (M.P j).length ≤ 130 * b
  lB : M.bag.length ≤ 20000 * b
theorem strD : PyData.strOk (Str.ofString "data") = true := by decide +kernel
theorem strA : PyData.strOk (Str.ofString "ack") = true := by decide +kernel
theorem pld_dat {j i : Nat} {x : LV} (h : PlD 3 x) : PlD 4 (dat j i x) := pld_tup (by
  intro y hy
  simp only [List.mem_cons, List.not_mem_nil, or_false] at hy
  rcases hy with rfl | rfl | rfl | rfl | rfl
  · exact pld_int _
  · exact pld_int _
  · exact pld_str strD
  · exact pld_int _
  · exact h)
theorem pld_ack {j c : Nat} : PlD 4 (ack j c) := pld_tup (by
  intro y hy
  simp only [List.mem_cons, List.not_mem_nil, or_false] at hy
  rcases hy with rfl | rfl | rfl | rfl | rfl
  · exact pld_int _
  · exact pld_int _
  · exact pld_str strA
  · exact pld_int _
  · exact pld_non)
theorem AI.pld {M : Mut} {b : Nat} (A : AI M b) {p : LV} (h : p ∈ M.bag) : PlD 4 p := by
  obtain ⟨j, hj, ⟨i, x, hx, rfl⟩ | ⟨c, _, rfl⟩⟩ := A.pk p h
  · exact pld_dat (A.lt j hj x (List.mem_of_getElem? hx)).1
  · exact pld_ack
/-- data packets not acknowledged -/
def datL (M : Mut) (j : Nat) : List LV := ((M.P j).mapIdx fun i x => dat j (i + 1) x).drop (M.a j)
def ME (M : Mut) (bag : List LV) : Mut := { M with bag := bag }
theorem HI.bags {CO CI CN : Addr} {h : LH} {V : Ver} {M : Mut} (I : HI CO CI CN h V M) (bag : List LV) : HI CO CI CN ((h.set (.a V.nk) V.nv (.lst bag)).set (.x [8]) V.vb (.lst bag)) V (ME M bag) := by
  have z : ∀ l, l ≠ [8] → ((h.set (.a V.nk) V.nv (.lst bag)).set (.x [8]) V.vb (.lst bag)) (.x l) = h (.x l) := fun l hl => by
    rw [LH.set_ne (by simpa using hl), LH.set_ne (by simp)]
  have y : ∀ k, k ≠ V.nk → ((h.set (.a V.nk) V.nv (.lst bag)).set (.x [8]) V.vb (.lst bag)) (.a k) = h (.a k) := fun l hl => by
    rw [LH.set_ne (by simp), LH.set_ne (by simpa using hl)]
  refine ⟨?_, ?_, ?_, ?_, ?_, ?_, ⟨?_, ?_⟩, LH.set_same, fun j hj => ⟨?_, ?_⟩, fun j hj => ?_, fun j hj => ?_, fun j hj => ?_, I.wne, I.wnn⟩
  · rw [z _ (by decide)]; exact I.keys
  · rw [z _ (by decide)]; exact I.outs
  · rw [z _ (by decide)]; exact I.ends
  · rw [z _ (by decide)]; exact I.puts
  · rw [z _ (by decide)]; exact I.taken
  · rw [z _ (by decide)]; exact I.acked
  · rw [z _ (by decide)]; exact I.net.o
  · rw [LH.set_ne (by simp), LH.set_same]; rfl
  · rw [z _ (by simp)]; exact (I.out j hj).o
  · exact (y _ (I.wnn j hj)).trans (I.out j hj).w
  · rw [z _ (by simp)]; exact I.end_ j hj
  · rw [z _ (by simp)]; exact I.put j hj
  · rw [z _ (by simp)]; exact I.tkn j hj
theorem HI.le {CO CI CN : Addr} {h h' : LH} {V : Ver} {M : Mut} (I : HI CO CI CN h V M) (l : LH.le h h') : HI CO CI CN h' V M :=
  ⟨l _ _ I.keys, l _ _ I.outs, l _ _ I.ends, l _ _ I.puts, l _ _ I.taken, l _ _ I.acked, ⟨l _ _ I.net.o, l _ _ I.net.p⟩, l _ _ I.bag, fun j hj => ⟨l _ _ (I.out j hj).o, l _ _ (I.out j hj).w⟩, fun j hj => l _ _ (I.end_ j hj), fun j hj => l _ _ (I.put j hj), fun j hj => l _ _ (I.tkn j hj), I.wne, I.wnn⟩

section
variable {CO CI CN : Addr}
def slS (V : Ver) (s : Int) (t k f e d n l i : Option LV) : LSt := [some (.loc (.x [1]) V.vo), some (.loc (.x [3]) V.vp), some (.loc (.x [5]) V.va), some (.loc (.x [6]) V.vn), some (.loc (.x [8]) V.vb), some (.int s), t, k, f, e, d, n, l, i]
theorem datL_len (M : Mut) (j : Nat) : (datL M j).length = (M.P j).length - M.a j := by unfold datL; simp
/-- one channel's letters are sent -/
theorem send_one {D : LEnds} {h : LH} {V : Ver} {M : Mut} {j : Nat} {k f e d n l i : Option LV} (g1 : G.meth CN "post" = some (spPost CN)) (t1 : (T.meth "post").isSome = true) (g2 : G.meth CO "due" = some (spDue CO)) (t2 : (T.meth "due").isSome = true)
    (I : HI CO CI CN h V M) (hj : j < 6) (hl : ∀ x ∈ M.P j, Lt x) (hP : (M.P j).length ≤ 100000) (hB : M.bag.length ≤ 2000000) (ha : M.a j ≤ (M.P j).length)
    (q : ∀ s h', (∃ k f e d n l i, s = slS V (sr j) (some (.int (tg j))) k f e d n l i) → HI CO CI CN h' V (ME M (M.bag ++ datL M j)) → D.nx s h') :
    wpSs G T b_law_send_L2 D (slS V (sr j) (some (.int (tg j))) k f e d n l i) h := by
  have e0 := tg_sr j hj
  have e1 := I.outs
  have e2 := I.puts
  have e3 := I.acked
  have e4 := I.put j hj
  have e5 := (I.out j hj).o
  have e6 := (I.out j hj).w
  have d1 := getK_dct (fun j => .int (M.a j : Nat)) j hj
  have d2 := getK_dct (fun j => .loc (.x [13, j]) (V.pj j)) j hj
  have d3 := getK_dct (fun j => .loc (.x [11, j]) (V.oj j)) j hj
  have s1 := spDue.eq_1 CO
  have oi := out_eq CO
  unfold b_law_send_L2 slS
  walk_at "go"
  have hwl : ((M.P j).drop (M.a j)).length = (M.P j).length - M.a j := by simp
  have hDl : (dueL (M.a j : Nat) ((M.P j).drop (M.a j))).length = (M.P j).length - M.a j := by simp [dueL]
  have hDp : ∀ y ∈ dueL (M.a j : Nat) ((M.P j).drop (M.a j)), PlD 4 y := by
    intro y hy
    obtain ⟨r, hr, rfl⟩ := List.mem_iff_getElem.mp hy
    simp only [dueL, List.getElem_mapIdx]
    refine pld_tup fun z hz => ?_
    simp only [List.mem_cons, List.not_mem_nil, or_false] at hz
    rcases hz with rfl | rfl
    · exact pld_int _
    · exact (hl _ (List.mem_of_mem_drop (List.getElem_mem _))).1
  refine ⟨by decide, by omega, by omega, by omega, by omega, alloc_any fun k1 hk1 v1 => lcK_map ((List.range ((M.P j).length - M.a j)).map fun r => .int ((M.a j : Nat) + (r : Nat))) (dueL (M.a j : Nat) ((M.P j).drop (M.a j))) (by rw [List.length_map, List.length_range]; show _ ≤ 2 ^ 24; omega) (by simp [dueL]) (fun r acc => ?_) (fun r x acc K hx hK => ?_) ?_⟩
  · unfold rngIt
    rw [List.getElem?_map]
    by_cases hr : r < (M.P j).length - M.a j
    · rw [if_pos (by omega), List.getElem?_range hr]; rfl
    · rw [if_neg (by omega), List.getElem?_eq_none (by simp; omega)]; rfl
  · rw [List.getElem?_map] at hx
    by_cases hr : r < (M.P j).length - M.a j
    · rw [List.getElem?_range hr] at hx
      cases hx
      have n3 : Nm.x [3] ≠ .a k1 := by simp
      have n13 : Nm.x [13, j] ≠ .a k1 := by simp
      have hx : (M.P j)[M.a j + r]? = some ((M.P j)[M.a j + r]'(by omega)) := List.getElem?_eq_getElem (by omega)
      have eI := atI_nat hx
      rw [show (((M.a j + r : Nat)) : Int) = (M.a j : Int) + (r : Int) by omega] at eI
      have hy := hK (.tup [.int ((M.a j : Nat) + 1 + (r : Nat)), (M.P j)[M.a j + r]'(by omega)]) (by simp [dueL, hx])
      rw [show ((M.a j : Nat) : Int) + 1 + (r : Nat) = (M.a j : Int) + (r : Int) + 1 by omega] at hy
      walk_at "go"
      decide
    · rw [List.getElem?_eq_none (by simp; omega)] at hx; cases hx
  · have nw : (Nm.a (M.wk j) = Nm.a k1) = False := by
      simp only [eq_iff_iff, iff_false]
      intro e; rw [e, hk1] at e6; cases e6
    walk_at "go"
    refine ⟨by show _ ≤ 2 ^ 24; omega, fun k2 d2 hk2 => ?_⟩
    by_cases hkk : k2 = k1
    · rw [if_pos hkk] at hk2; cases hk2
    rw [if_neg hkk] at hk2
    have eN := fun Q => lNe_lsts (Q := Q) (h := (h.set (.a k1) v1 (.lst (dueL (M.a j : Nat) ((M.P j).drop (M.a j))))).set (.a k2) d2 (.lst (dueL (M.a j : Nat) ((M.P j).drop (M.a j))))) (n := .a k2) (m := .a k1) (v := d2) (w := v1) (k := 4) LH.set_same (by rw [LH.set_ne (by simpa using Ne.symm hkk), LH.set_same]) hDp (by decide)
    have hkk' : ¬ k1 = k2 := fun e => hkk e.symm
    walk_at "go"
    have hI : HI CO CI CN ((h.set (.a k1) v1 (.lst (dueL (M.a j : Nat) ((M.P j).drop (M.a j))))).set (.a k2) d2 (.lst (dueL (M.a j : Nat) ((M.P j).drop (M.a j))))) V (ME M M.bag) := by
      refine HI.le (h := h) I fun m p e => ?_
      rw [LH.set_ne (fun z => by rw [z, hk2] at e; cases e), LH.set_ne (fun z => by rw [z, hk1] at e; cases e)]
      exact e
    refine forK_lst (fun r s h' => HI CO CI CN h' V (ME M (M.bag ++ (datL M j).take r)) ∧ h' (.a k1) = some (v1, .lst (dueL (M.a j : Nat) ((M.P j).drop (M.a j)))) ∧ ∃ n l, s = slS V (sr j) (some (.int (tg j))) (some (.tup [.int (sr j), .int (tg j)])) (some (.int (M.a j : Nat))) (some (.loc (.a k1) v1)) (some (.loc (.a k2) d2)) n l i) ⟨by rw [List.take_zero, List.append_nil]; exact hI, by rw [LH.set_ne (by simpa using hkk'), LH.set_same], _, _, rfl⟩ (fun _ _ _ z => z.2.1) ?_ ?_
    · rintro r x s h' hx ⟨J, hk, n', l', rfl⟩
      have f1 := J.net.o
      have f2 := J.net.p
      have f3 := J.bag
      have s2 := spPost.eq_1 CN
      have ni := net_eq CN
      have hr : r < (M.P j).length - M.a j := by rw [← hDl]; exact (List.getElem?_eq_some_iff.mp hx).1
      have hy : (M.P j)[M.a j + r]? = some ((M.P j)[M.a j + r]'(by omega)) := List.getElem?_eq_getElem (by omega)
      obtain rfl : x = .tup [.int ((M.a j : Nat) + 1 + (r : Nat)), (M.P j)[M.a j + r]'(by omega)] := by
        simp [dueL, hy] at hx; exact hx.symm
      have sz : (ME M (M.bag ++ (datL M j).take r)).bag.length < sizeLine := by
        show (M.bag ++ (datL M j).take r).length < 2 ^ 24
        rw [List.length_append, List.length_take, datL_len]
        omega
      have sz2 : 5 ≤ sizeLine := by decide
      unfold b_law_send_L1 slS
      walk_at "go"
      have nn : k1 ≠ V.nk := fun e => by rw [e, I.net.p] at hk1; cases hk1
      have eD : (ME M (M.bag ++ (datL M j).take r)).bag ++ [.tup [.int (sr j), .int (tg j), .str "data", .int ((M.a j : Nat) + 1 + (r : Nat)), (M.P j)[M.a j + r]'(by omega)]] = M.bag ++ (datL M j).take (r + 1) := by
        have e1 : (datL M j)[r]? = some (dat j (M.a j + r + 1) ((M.P j)[M.a j + r]'(by omega))) := by simp [datL, hy]
        rw [List.take_succ, e1, ← List.append_assoc]
        show _ ++ [_] = _ ++ [_]
        unfold dat
        rw [show ((M.a j + r + 1 : Nat) : Int) = (M.a j : Int) + 1 + (r : Int) by omega]
        rfl
      rw [eD]
      exact fgt ⟨J.bags _, by rw [LH.set_ne (by simp), LH.set_ne (by simpa using nn)]; exact hk, _, _, rfl⟩
    · rintro s h' ⟨J, hk, n', l', rfl⟩
      walk_at "go"
      refine q _ _ ⟨_, _, _, _, _, _, _, rfl⟩ ?_
      rw [List.take_of_length_le (by rw [datL_len, hDl]; exact Nat.le_refl _)] at J
      exact J
theorem ME_ME (M : Mut) (a b : List LV) : ME (ME M a) b = ME M b := rfl
def jix : Nat → Nat → Nat
  | 0, 1 => 0 | 0, 2 => 1 | 1, 0 => 2 | 1, 2 => 3 | 2, 0 => 4 | _, _ => 5
def sendUp (M : Mut) (s n : Nat) : List LV := ((List.range n).filter fun t => decide (t ≠ s)).flatMap fun t => datL M (jix s t)
def spSend (CO CI CN : Addr) : LSp := fun xs h Q _ => ∃ V M s, xs = [.loc (.x [1]) V.vo, .loc (.x [3]) V.vp, .loc (.x [5]) V.va, .loc (.x [6]) V.vn, .loc (.x [8]) V.vb, .int (s : Nat)] ∧ HI CO CI CN h V M ∧ s < 3 ∧ (∀ j, j < 6 → ∀ x ∈ M.P j, Lt x) ∧ (∀ j, j < 6 → (M.P j).length ≤ 10000) ∧ M.bag.length ≤ 1600000 ∧ (∀ j, j < 6 → M.a j ≤ (M.P j).length) ∧
  ∀ h', HI CO CI CN h' V (ME M (M.bag ++ sendUp M s 3)) → Q (.bl true) h'
theorem sendUp_len {M : Mut} {s : Nat} (h : ∀ j, j < 6 → (M.P j).length ≤ 10000) (hs : s < 3) : ∀ n, n ≤ 3 → (sendUp M s n).length ≤ 30000 := by
  have e : ∀ j, j < 6 → (datL M j).length ≤ 10000 := fun j hj => by rw [datL_len]; have := h j hj; omega
  have e0 := e 0 (by decide); have e1 := e 1 (by decide); have e2 := e 2 (by decide); have e3 := e 3 (by decide); have e4 := e 4 (by decide); have e5 := e 5 (by decide)
  intro n hn
  obtain rfl | rfl | rfl : s = 0 ∨ s = 1 ∨ s = 2 := by omega
  all_goals
    obtain rfl | rfl | rfl | rfl : n = 0 ∨ n = 1 ∨ n = 2 ∨ n = 3 := by omega
  all_goals simp [sendUp, List.range_succ, List.filter, jix]
  all_goals omega
theorem k_send (g1 : G.meth CN "post" = some (spPost CN)) (t1 : (T.meth "post").isSome = true) (g2 : G.meth CO "due" = some (spDue CO)) (t2 : (T.meth "due").isSome = true) : Keeps G T n_law_send 6 b_law_send (spSend CO CI CN) := by
  rintro xs h Q X hn ⟨V, M, s, rfl, I, hs, hl, hP, hB, ha, q⟩
  unfold b_law_send n_law_send
  walk_at "go"
  refine ⟨by decide, by decide, forK_rng (fun n st h' => HI CO CI CN h' V (ME M (M.bag ++ sendUp M s n)) ∧ ∃ t k f e d n l i, st = slS V s t k f e d n l i) ⟨by simpa [sendUp, ME] using I, _, _, _, _, _, _, _, _, rfl⟩ ?_ ?_⟩
  · rintro n st h' hn ⟨J, t, k, f, e, d, n', l, i, rfl⟩
    have hn : n < 3 := hn
    have lim := sendUp_len hP hs n (by omega)
    have body : ∀ j, j < 6 → (s : Int) = sr j → (0 + (n : Int)) = tg j → sendUp M s (n + 1) = sendUp M s n ++ datL M j → ∀ {D : LEnds}, (∀ st h', (∃ t k f e d n l i, st = slS V s t k f e d n l i) → HI CO CI CN h' V (ME M (M.bag ++ sendUp M s (n + 1))) → D.nx st h') → wpSs G T b_law_send_L2 D (slS V s (some (.int (0 + (n : Int)))) k f e d n' l i) h' := by
      intro j hj e1 e2 e3 D q
      rw [e1, e2]
      refine send_one g1 t1 g2 t2 J hj (hl j hj) (by have := hP j hj; show (M.P j).length ≤ _; omega) (by show (M.bag ++ _).length ≤ _; rw [List.length_append]; omega) (ha j hj) fun st h2 ⟨k, f, e, d, n, l, i, z⟩ J2 => q st h2 ⟨_, _, _, _, _, _, _, _, by rw [e1]; exact z⟩ ?_
      rw [ME_ME] at J2
      rw [e3, ← List.append_assoc]
      exact J2
    rw [show wpG G T (.name 6) (.int (0 + (n : Int))) (slS V s t k f e d n' l i) h' _ _ = _ from LL.G_name]
    have fin3 : ∀ st h', (∃ t k f e d n l i, st = slS V s t k f e d n l i) → HI CO CI CN h' V (ME M (M.bag ++ sendUp M s (n + 1))) → Fgt (fun st h' => HI CO CI CN h' V (ME M (M.bag ++ sendUp M s (n + 1))) ∧ ∃ t k f e d n l i, st = slS V s t k f e d n l i) st h' := fun st h' a b => fgt ⟨b, a⟩
    by_cases hns : n = s
    · subst hns
      have e1 : sendUp M n (n + 1) = sendUp M n n := by unfold sendUp; rw [List.range_succ, List.filter_append]; simp
      have e2 : (0 + (n : Int) = (n : Int)) = True := by simp only [eq_iff_iff, iff_true]; omega
      show wpSs G T b_law_send_L2 _ (slS V n (some (.int (0 + (n : Int)))) k f e d n' l i) h'
      unfold b_law_send_L2 slS
      rw [e1]
      walk_at "go"
      refine fgt ?_
      exact ⟨J, _, _, _, _, _, _, _, _, rfl⟩
    · have e3 : sendUp M s (n + 1) = sendUp M s n ++ datL M (jix s n) := by unfold sendUp; rw [List.range_succ, List.filter_append, List.flatMap_append]; simp [hns]
      obtain ⟨hj, e1, e2⟩ : jix s n < 6 ∧ (s : Int) = sr (jix s n) ∧ (0 + (n : Int)) = tg (jix s n) := by
        obtain rfl | rfl | rfl : s = 0 ∨ s = 1 ∨ s = 2 := by omega
        all_goals
          obtain rfl | rfl | rfl : n = 0 ∨ n = 1 ∨ n = 2 := by omega
        all_goals first | (exact absurd rfl hns) | decide
      exact body (jix s n) hj e1 e2 e3 fin3
  · rintro st h' ⟨J, t, k, f, e, d, n', l, i, rfl⟩
    unfold slS
    walk_at "go"
    exact fin (q _ J)
def spTake (CO CI CN : Addr) : LSp := fun xs h Q _ => ∃ V M i p, xs = [.loc (.x [6]) V.vn, .loc (.x [8]) V.vb, .int (i : Nat)] ∧ HI CO CI CN h V M ∧ M.bag[i]? = some p ∧ Lt4 p ∧ M.bag.length < 2000000 ∧
  ∀ h', HI CO CI CN h' V (ME M (M.bag.eraseIdx i)) → Q (.bl true) h'
theorem k_take_ (g1 : G.meth CN "take_out" = some (spTakeOut CN)) (t1 : (T.meth "take_out").isSome = true) : Keeps G T n_law_take 3 b_law_take (spTake CO CI CN) := by
  rintro xs h Q X hn ⟨V, M, i, p, rfl, I, hp, ⟨hpl, ys, rfl⟩, hB, q⟩
  have f1 := I.net.o
  have f2 := I.net.p
  have f3 := I.bag
  have s1 := spTakeOut.eq_1 CN
  have ni := net_eq CN
  have hi : i < M.bag.length := (List.getElem?_eq_some_iff.mp hp).1
  unfold b_law_take n_law_take
  walk_at "go"
  exact ⟨by omega, by omega, i, sqi hi, _, hp, by rw [lEq_same (hpl.pl (by decide))]; exact fin (q _ (I.bags _))⟩
/-- what a delivery does -/
def Stp (M : Mut) (i : Nat) (p : LV) (M' : Mut) : Prop := M'.P = M.P ∧ ∃ j, j < 6 ∧
  ((∃ c, c ≤ M.n j ∧ p = ack j c ∧ M'.n = M.n ∧ (M'.a = fun r => if r = j then max (M.a j) c else M.a r) ∧ M'.bag = M.bag.eraseIdx i) ∨
    ∃ r x, (M.P j)[r]? = some x ∧ p = dat j (r + 1) x ∧ M'.a = M.a ∧ (M'.n = fun k => if k = j then (if r = M.n j then M.n j + 1 else M.n j) else M.n k) ∧ M'.bag = M.bag.eraseIdx i ++ [ack j (M'.n j)])
def spDeliver (CO CI CN : Addr) : LSp := fun xs h Q _ => ∃ V M i p, xs = [.loc (.x [1]) V.vo, .loc (.x [2]) V.ve, .loc (.x [4]) V.vt, .loc (.x [5]) V.va, .loc (.x [6]) V.vn, .loc (.x [8]) V.vb, .int (i : Nat)] ∧ HI CO CI CN h V M ∧ M.bag[i]? = some p ∧ (∃ b, b ≤ 80 ∧ AI M b) ∧
  ∀ h' M', HI CO CI CN h' V M' → Stp M i p M' → Q (.bl true) h'
theorem eq_da (h : LH) (Q : LQ) : lEq (.str "data") (.str "ack") h Q = Q (.bl false) h := by
  have s1 : SeqAt.shaped (.str "data") = true := by unfold SeqAt.shaped; rw [PyData.canLay0, strD, PyData.depth]; rfl
  have s2 : SeqAt.shaped (.str "ack") = true := by unfold SeqAt.shaped; rw [PyData.canLay0, strA, PyData.depth]; rfl
  rw [lEq_of (d := .str "data") (e := .str "ack") (by rw [LL.dat]) (by rw [LL.dat]) s1 s2]
  rw [show PyData.eqv (.str "data") (.str "ack") = false by rw [PyData.eqv]; decide +kernel]
theorem eq_aa (h : LH) (Q : LQ) : lEq (.str "ack") (.str "ack") h Q = Q (.bl true) h := lEq_same ((pld_str (k := 0) strA).pl (by decide)) h Q
end
end K04
namespace K04
open PySem L2 LL
variable {G : Glob} {T : Tab} {C : Addr}
section
variable {CO CI CN : Addr}
def fj {α : Type} (f : Nat → α) (j : Nat) (x : α) : Nat → α := fun r => if r = j then x else f r
theorem fj_same {α : Type} {f : Nat → α} {j : Nat} {x : α} : fj f j x j = x := if_pos rfl
theorem fj_ne {α : Type} {f : Nat → α} {j r : Nat} {x : α} (e : r ≠ j) : fj f j x r = f r := if_neg e
def MA (M : Mut) (j c k wv : Nat) : Mut := { M with a := fj M.a j c, wk := fj M.wk j k, wv := fj M.wv j wv }
theorem HI.ackd {h h' : LH} {V : Ver} {M : Mut} (I : HI CO CI CN h V M) {j c k wv : Nat} (hj : j < 6) (hk : h (.a k) = none)
    (O : Out CO h' (.x [11, j]) (V.oj j) (c : Nat) (.a k) wv ((M.P j).drop c)) (F : ∀ r, r ≠ .x [11, j] → r ≠ .a k → h' r = h r) :
    HI CO CI CN (h'.set (.x [5]) V.va (.dT (dctOf fun r => .int ((MA M j c k wv).a r : Nat)))) V (MA M j c k wv) := by
  have z : ∀ l, l ≠ [5] → l ≠ [11, j] → (h'.set (.x [5]) V.va (.dT (dctOf fun r => .int ((MA M j c k wv).a r : Nat)))) (.x l) = h (.x l) := fun l hl hl2 => by
    rw [LH.set_ne (by simpa using hl), F _ (by simpa using hl2) (by simp)]
  have y : ∀ r, r ≠ k → (h'.set (.x [5]) V.va (.dT (dctOf fun r => .int ((MA M j c k wv).a r : Nat)))) (.a r) = h (.a r) := fun l hl => by
    rw [LH.set_ne (by simp), F _ (by simp) (by simpa using hl)]
  have nk : V.nk ≠ k := fun e => by have := I.net.p; rw [e, hk] at this; cases this
  have wk : ∀ i, i < 6 → M.wk i ≠ k := fun i hi e => by have := (I.out i hi).w; rw [e, hk] at this; cases this
  refine ⟨?_, ?_, ?_, ?_, ?_, LH.set_same, ⟨?_, ?_⟩, ?_, fun r hr => ?_, fun r hr => ?_, fun r hr => ?_, fun r hr => ?_, fun a b ha hb hab => ?_, fun r hr => ?_⟩
  · rw [z _ (by decide) (by simp)]; exact I.keys
  · rw [z _ (by decide) (by simp)]; exact I.outs
  · rw [z _ (by decide) (by simp)]; exact I.ends
  · rw [z _ (by decide) (by simp)]; exact I.puts
  · rw [z _ (by decide) (by simp)]; exact I.taken
  · rw [z _ (by decide) (by simp)]; exact I.net.o
  · rw [y _ nk]; exact I.net.p
  · rw [z _ (by decide) (by simp)]; exact I.bag
  · by_cases e : r = j
    · subst e
      show Out CO _ _ _ ((fj M.a r c r : Nat) : Int) (.a (fj M.wk r k r)) (fj M.wv r wv r) ((M.P r).drop (fj M.a r c r))
      rw [fj_same, fj_same, fj_same]
      exact ⟨by rw [LH.set_ne (by simp)]; exact O.o, by rw [LH.set_ne (by simp)]; exact O.w⟩
    · show Out CO _ _ _ ((fj M.a j c r : Nat) : Int) (.a (fj M.wk j k r)) (fj M.wv j wv r) ((M.P r).drop (fj M.a j c r))
      rw [fj_ne e, fj_ne e, fj_ne e]
      exact ⟨by rw [z _ (by simp) (by simpa using e)]; exact (I.out r hr).o, by rw [y _ (wk r hr)]; exact (I.out r hr).w⟩
  · rw [z _ (by simp) (by simp)]; exact I.end_ r hr
  · rw [z _ (by simp) (by simp)]; exact I.put r hr
  · rw [z _ (by simp) (by simp)]; exact I.tkn r hr
  · show fj M.wk j k a ≠ fj M.wk j k b
    by_cases e : a = j
    · subst e; rw [fj_same, fj_ne (Ne.symm hab)]; exact (wk b hb).symm
    · by_cases e2 : b = j
      · subst e2; rw [fj_same, fj_ne hab]; exact wk a ha
      · rw [fj_ne e, fj_ne e2]; exact I.wne a b ha hb hab
  · show fj M.wk j k r ≠ _
    by_cases e : r = j
    · subst e; rw [fj_same]; exact nk.symm
    · rw [fj_ne e]; exact I.wnn r hr
/-- a letter is accepted -/
theorem HI.accd {h : LH} {V : Ver} {M : Mut} (I : HI CO CI CN h V M) {j : Nat} (hj : j < 6) {x : LV} (hx : (M.P j)[M.n j]? = some x) :
    HI CO CI CN ((h.set (.x [12, j]) (V.ej j) (.ins CI [("count", .int ((M.n j : Nat) + 1))])).set (.x [14, j]) (V.tj j) (.lst ((M.P j).take (M.n j) ++ [x]))) V { M with n := fj M.n j (M.n j + 1) } := by
  have z : ∀ l, l ≠ [12, j] → l ≠ [14, j] → ((h.set (.x [12, j]) (V.ej j) (.ins CI [("count", .int ((M.n j : Nat) + 1))])).set (.x [14, j]) (V.tj j) (.lst ((M.P j).take (M.n j) ++ [x]))) (.x l) = h (.x l) := fun l hl hl2 => by
    rw [LH.set_ne (by simpa using hl2), LH.set_ne (by simpa using hl)]
  have y : ∀ r, ((h.set (.x [12, j]) (V.ej j) (.ins CI [("count", .int ((M.n j : Nat) + 1))])).set (.x [14, j]) (V.tj j) (.lst ((M.P j).take (M.n j) ++ [x]))) (.a r) = h (.a r) := fun l => by
    rw [LH.set_ne (by simp), LH.set_ne (by simp)]
  refine ⟨?_, ?_, ?_, ?_, ?_, ?_, ⟨?_, ?_⟩, ?_, fun r hr => ⟨?_, ?_⟩, fun r hr => ?_, fun r hr => ?_, fun r hr => ?_, I.wne, I.wnn⟩
  · rw [z _ (by simp) (by simp)]; exact I.keys
  · rw [z _ (by simp) (by simp)]; exact I.outs
  · rw [z _ (by simp) (by simp)]; exact I.ends
  · rw [z _ (by simp) (by simp)]; exact I.puts
  · rw [z _ (by simp) (by simp)]; exact I.taken
  · rw [z _ (by simp) (by simp)]; exact I.acked
  · rw [z _ (by simp) (by simp)]; exact I.net.o
  · rw [y]; exact I.net.p
  · rw [z _ (by simp) (by simp)]; exact I.bag
  · rw [z _ (by simp) (by simp)]; exact (I.out r hr).o
  · rw [y]; exact (I.out r hr).w
  · show _ = some (_, LO.ins CI [("count", .int (fj M.n j (M.n j + 1) r : Nat))])
    by_cases e : r = j
    · subst e; rw [fj_same, LH.set_ne (by simp), LH.set_same]; rfl
    · rw [fj_ne e, z _ (by simpa using e) (by simp)]; exact I.end_ r hr
  · rw [z _ (by simp) (by simp)]; exact I.put r hr
  · show _ = some (_, LO.lst ((M.P r).take (fj M.n j (M.n j + 1) r)))
    by_cases e : r = j
    · subst e; rw [fj_same, LH.set_same, List.take_succ, hx]; rfl
    · rw [fj_ne e, z _ (by simp) (by simpa using e)]; exact I.tkn r hr
/-- letters are put -/
theorem HI.putd {h : LH} {V : Ver} {M : Mut} (I : HI CO CI CN h V M) {j : Nat} (hj : j < 6) {x : LV} (ha : M.a j ≤ (M.P j).length) (hn : M.n j ≤ (M.P j).length) :
    HI CO CI CN ((h.set (.x [13, j]) (V.pj j) (.lst (M.P j ++ [x]))).set (.a (M.wk j)) (M.wv j) (.lst ((M.P j).drop (M.a j) ++ [x]))) V { M with P := fj M.P j (M.P j ++ [x]) } := by
  have z : ∀ l, l ≠ [13, j] → ((h.set (.x [13, j]) (V.pj j) (.lst (M.P j ++ [x]))).set (.a (M.wk j)) (M.wv j) (.lst ((M.P j).drop (M.a j) ++ [x]))) (.x l) = h (.x l) := fun l hl => by
    rw [LH.set_ne (by simp), LH.set_ne (by simpa using hl)]
  have y : ∀ r, r ≠ M.wk j → ((h.set (.x [13, j]) (V.pj j) (.lst (M.P j ++ [x]))).set (.a (M.wk j)) (M.wv j) (.lst ((M.P j).drop (M.a j) ++ [x]))) (.a r) = h (.a r) := fun l hl => by
    rw [LH.set_ne (by simpa using hl), LH.set_ne (by simp)]
  refine ⟨?_, ?_, ?_, ?_, ?_, ?_, ⟨?_, ?_⟩, ?_, fun r hr => ⟨?_, ?_⟩, fun r hr => ?_, fun r hr => ?_, fun r hr => ?_, I.wne, I.wnn⟩
  · rw [z _ (by simp)]; exact I.keys
  · rw [z _ (by simp)]; exact I.outs
  · rw [z _ (by simp)]; exact I.ends
  · rw [z _ (by simp)]; exact I.puts
  · rw [z _ (by simp)]; exact I.taken
  · rw [z _ (by simp)]; exact I.acked
  · rw [z _ (by simp)]; exact I.net.o
  · rw [y _ (I.wnn j hj).symm]; exact I.net.p
  · rw [z _ (by simp)]; exact I.bag
  · rw [z _ (by simp)]; exact (I.out r hr).o
  · show _ = some (_, LO.lst ((fj M.P j (M.P j ++ [x]) r).drop (M.a r)))
    by_cases e : r = j
    · subst e; rw [fj_same, LH.set_same, List.drop_append_of_le_length ha]
    · rw [fj_ne e, y _ (I.wne r j hr hj e)]; exact (I.out r hr).w
  · rw [z _ (by simp)]; exact I.end_ r hr
  · show _ = some (_, LO.lst (fj M.P j (M.P j ++ [x]) r))
    by_cases e : r = j
    · subst e; rw [fj_same, LH.set_ne (by simp), LH.set_same]
    · rw [fj_ne e, z _ (by simpa using e)]; exact I.put r hr
  · show _ = some (_, LO.lst ((fj M.P j (M.P j ++ [x]) r).take (M.n r)))
    rw [z _ (by simp)]
    by_cases e : r = j
    · subst e; rw [fj_same, List.take_append_of_le_length hn]; exact I.tkn r hr
    · rw [fj_ne e]; exact I.tkn r hr
end
end K04
namespace K04
open PySem L2 LL
variable {G : Glob} {T : Tab} {C : Addr}
section
variable {CO CI CN : Addr}
theorem del_T1 {D : LEnds} {h : LH} {V : Ver} {M : Mut} {j : Nat} {i r x : LV} (ga : G.attr CI "count" = true) (g1 : G.meth CN "post" = some (spPost CN)) (t1 : (T.meth "post").isSome = true) (I : HI CO CI CN h V M) (hj : j < 6) (hB : M.bag.length < 2000000) (hn : M.n j ≤ (M.P j).length)
    (q : ∀ h', HI CO CI CN h' V (ME M (M.bag ++ [ack j (M.n j)])) → D.rt (.bl true) h') :
    wpSs G T b_law_deliver_T1 D [some (LV.loc (Nm.x [1]) V.vo), some (LV.loc (Nm.x [2]) V.ve), some (LV.loc (Nm.x [4]) V.vt), some (LV.loc (Nm.x [5]) V.va), some (LV.loc (Nm.x [6]) V.vn), some (LV.loc (Nm.x [8]) V.vb), some i, some (LV.int (sr j)), some (LV.int (tg j)), some (LV.str (Str.ofString "data")), some r, some x, some (LV.tup [LV.int (sr j), LV.int (tg j)])] h := by
  have s4 := spPost.eq_1 CN
  have oi := net_eq CN
  have e1 := I.ends
  have e2 := I.taken
  have e3 := I.end_ j hj
  have e4 := I.tkn j hj
  have e5 := I.net.o
  have e6 := I.net.p
  have e7 := I.bag
  have d1 := getK_dct (fun j => .loc (.x [12, j]) (V.ej j)) j hj
  have d2 := getK_dct (fun j => .loc (.x [14, j]) (V.tj j)) j hj
  have lt : ((M.P j).take (M.n j)).length = M.n j := by rw [List.length_take]; omega
  have sz : M.bag.length < sizeLine := by show _ < 2 ^ 24; omega
  have sz2 : 5 ≤ sizeLine := by decide
  unfold b_law_deliver_T1
  walk_at "go"
  exact q _ (I.bags _)
theorem dct_len (f : Nat → LV) : (dctOf f).length = 6 := rfl
theorem ME_a (M : Mut) (b : List LV) : (ME M b).a = M.a := (rfl)
theorem ME_n (M : Mut) (b : List LV) : (ME M b).n = M.n := (rfl)
theorem ME_P (M : Mut) (b : List LV) : (ME M b).P = M.P := (rfl)
theorem k_deliver (ga : G.attr CI "count" = true) (g1 : G.meth CN "post" = some (spPost CN)) (t1 : (T.meth "post").isSome = true) (g2 : G.meth CO "acknowledge" = some (spAcknowledge CO)) (t2 : (T.meth "acknowledge").isSome = true) (g3 : G.meth CI "accepts" = some (spAccepts CI)) (t3 : (T.meth "accepts").isSome = true)
    (g4 : G.meth CI "accept" = some (spAccept CI)) (t4 : (T.meth "accept").isSome = true) (g5 : G.fn "_law_take" = some (spTake CO CI CN)) : Keeps G T n_law_deliver 7 b_law_deliver (spDeliver CO CI CN) := by
  rintro xs h Q X hn ⟨V, M, i, p, rfl, I, hp, ⟨b, hb, A⟩, q⟩
  have f3 := I.bag
  have eI := atI_nat hp
  have pl := A.pld (List.mem_of_getElem? hp)
  have lB := A.lB
  have ma := ME_a M
  have mn := ME_n M
  have mP := ME_P M
  have s1 := spTake.eq_1 CO CI CN
  obtain ⟨j, hj, ⟨r, x, hx, rfl⟩ | ⟨c, hc, rfl⟩⟩ := A.pk p (List.mem_of_getElem? hp)
  · have l4 : Lt4 (dat j (r + 1) x) := ⟨pl, _, rfl⟩
    unfold dat at eI
    have s2 := spAccepts.eq_1 CI
    have s3 := spAccept.eq_1 CI
    have ea := eq_da
    unfold b_law_deliver n_law_deliver
    walk_at "go"
    refine ⟨V, rfl, rfl, M, I, _, hp, l4, by omega, fun h1 I1 => ⟨by decide, ?_⟩⟩
    have e2 := I1.ends
    have e3 := I1.end_ j hj
    have e4 := I1.taken
    have e5 := I1.tkn j hj
    have d3 := getK_dct (fun j => .loc (.x [12, j]) (V.ej j)) j hj
    have d4 := getK_dct (fun j => .loc (.x [14, j]) (V.tj j)) j hj
    have lE : (M.bag.eraseIdx i).length ≤ M.bag.length := List.length_eraseIdx_le _ _
    walk_at "go"
    split
    · rename_i hr
      have hr : r = M.n j := by omega
      walk_at "go"
      have nP := A.nP j hj
      refine ⟨by rw [List.length_take]; show _ < 2 ^ 24; have := A.lP j hj; omega, del_T1 ga g1 t1 (M := { ME M (M.bag.eraseIdx i) with n := fj M.n j (M.n j + 1) }) (I1.accd hj (x := x) (by show (M.P j)[M.n j]? = _; rw [← hr]; exact hx)) hj (by show (M.bag.eraseIdx i).length < _; omega) ?_ fun h' I' => fin (q _ _ I' ⟨rfl, j, hj, .inr ⟨r, x, hx, rfl, rfl, ?_, ?_⟩⟩)⟩
      · show fj M.n j (M.n j + 1) j ≤ _
        rw [fj_same]
        have := (List.getElem?_eq_some_iff.mp hx).1
        show _ ≤ (M.P j).length
        omega
      · show fj M.n j (M.n j + 1) = _
        rw [if_pos hr]; rfl
      · rfl
    · rename_i hr
      have hr : ¬ r = M.n j := by omega
      refine del_T1 ga g1 t1 I1 hj (by show (M.bag.eraseIdx i).length < _; omega) (A.nP j hj) fun h' I' => fin (q _ _ I' ⟨rfl, j, hj, .inr ⟨r, x, hx, rfl, rfl, ?_, rfl⟩⟩)
      funext k
      rw [if_neg hr]
      show M.n k = _
      split
      · rename_i e; rw [e]
      · rfl
  · have l4 : Lt4 (ack j c) := ⟨pl, _, rfl⟩
    unfold ack at eI
    have s2 := spAcknowledge.eq_1 CO
    have oi := out_eq CO
    have ea := eq_aa
    unfold b_law_deliver n_law_deliver
    walk_at "go"
    refine ⟨V, rfl, rfl, M, I, _, hp, l4, by omega, fun h1 I1 => ⟨by decide, ?_⟩⟩
    have e1 := I1.outs
    have e5 := (I1.out j hj).o
    have e6 := (I1.out j hj).w
    have e3 := I1.acked
    have d1 := getK_dct (fun j => .int (M.a j : Nat)) j hj
    have d3 := getK_dct (fun j => .loc (.x [11, j]) (V.oj j)) j hj
    walk_at "go"
    have nP := A.nP j hj
    refine ⟨fun hc' => ⟨by rw [dct_len]; decide, fin ?_⟩, fun hc' => ⟨by rw [List.length_drop]; omega, fun k wv' hk h' ⟨O1, O2⟩ F => ?_⟩⟩
    · rw [putK_dct _ _ j hj]
      refine q _ (ME M (M.bag.eraseIdx i)) ?_ ⟨rfl, j, hj, .inl ⟨c, hc, rfl, rfl, ?_, rfl⟩⟩
      · have e : (fun i_1 => if i_1 = j then LV.int (max ((M.a j : Nat) : Int) (c : Nat)) else LV.int (M.a i_1 : Nat)) = fun r => .int ((M.a r : Nat) : Int) := by
          funext r
          split
          · rename_i e; subst e; rw [show max ((M.a r : Nat) : Int) (c : Nat) = (M.a r : Nat) by omega]
          · rfl
        rw [e]
        exact (LH.set_self (h := h1) I1.acked).symm ▸ I1
      · funext r
        show M.a r = _
        split
        · rename_i e; subst e; omega
        · rfl
    · have f5 := (F (.x [5]) (by simp) (by simp)).trans e3
      walk_at "go"
      refine ⟨by rw [dct_len]; decide, fin ?_⟩
      rw [putK_dct _ _ j hj]
      have hk' : h1 (.a k) = none := hk
      refine q _ (MA (ME M (M.bag.eraseIdx i)) j c k wv') ?_ ⟨rfl, j, hj, .inl ⟨c, hc, rfl, rfl, ?_, rfl⟩⟩
      · have e : (fun i_1 => if i_1 = j then LV.int (max ((M.a j : Nat) : Int) (c : Nat)) else LV.int (M.a i_1 : Nat)) = fun r => .int (((MA (ME M (M.bag.eraseIdx i)) j c k wv').a r : Nat) : Int) := by
          funext r
          show _ = LV.int ((fj M.a j c r : Nat) : Int)
          split
          · rename_i e; subst e; rw [fj_same, show max ((M.a r : Nat) : Int) (c : Nat) = (c : Nat) by omega]
          · rename_i e; rw [fj_ne e]
        rw [e]
        refine I1.ackd hj hk' ⟨O1, ?_⟩ F
        rw [O2, List.drop_drop]
        show some (wv', LO.lst (((M.P j)).drop _)) = some (wv', LO.lst ((M.P j).drop c))
        rw [show M.a j + ((c : Int) - (M.a j : Int)).toNat = c by omega]
      · funext r
        show fj M.a j c r = _
        unfold fj
        split
        · rename_i e; subst e; omega
        · rfl
end
end K04
namespace K04
open PySem L2 LL
variable {G : Glob} {T : Tab} {C : Addr}
section
variable {CO CI CN : Addr}
theorem cut_take {α : Type} (xs : List α) (n : Nat) (h : n ≤ xs.length) : cutL xs none (some (n : Int)) = xs.take n := by
  unfold cutL
  have e1 : HT.sIx xs.length 0 none = 0 := rfl
  have e2 : HT.sIx xs.length xs.length (some (n : Int)) = n := by
    show (if (n : Int) < 0 then ((n : Int) + (xs.length : Int)).toNat else min (n : Int).toNat xs.length) = n
    rw [if_neg (by omega)]
    omega
  rw [e1, e2]
  simp
def spHolds (CO CI CN : Addr) : LSp := fun xs h Q _ => ∃ V M b, xs = [.loc (.x [1]) V.vo, .loc (.x [2]) V.ve, .loc (.x [3]) V.vp, .loc (.x [4]) V.vt, .loc (.x [5]) V.va, .loc (.x [0]) V.vk] ∧ HI CO CI CN h V M ∧ b ≤ 80 ∧ AI M b ∧
  ∀ h', HI CO CI CN h' V M → Q (.bl true) h'
theorem k_holds (ga : G.attr CI "count" = true) (g1 : G.prop CO "acknowledged" = some (spAck CO)) (ga1 : G.attr CO "acknowledged" = false) (g2 : G.prop CO "put_count" = some (spCount CO)) (ga2 : G.attr CO "put_count" = false) : Keeps G T n_law_holds 6 b_law_holds (spHolds CO CI CN) := by
  rintro xs h Q X hn ⟨V, M, b, rfl, I, hb, A, q⟩
  have f1 := I.keys
  unfold b_law_holds n_law_holds
  walk_at "go"
  refine forK_lst (fun i s h' => HI CO CI CN h' V M ∧ ∃ k, s = [some (LV.loc (Nm.x [1]) V.vo), some (LV.loc (Nm.x [2]) V.ve), some (LV.loc (Nm.x [3]) V.vp), some (LV.loc (Nm.x [4]) V.vt), some (LV.loc (Nm.x [5]) V.va), some (LV.loc (Nm.x [0]) V.vk), k]) ⟨I, _, rfl⟩ (fun _ _ _ z => z.1.keys) ?_ ?_
  · rintro j x s h1 hx ⟨J, k, rfl⟩
    have hj : j < 6 := (List.getElem?_eq_some_iff.mp hx).1
    obtain rfl : x = .tup [.int (sr j), .int (tg j)] := by
      rw [List.getElem?_map, List.getElem?_range hj] at hx
      exact (Option.some.inj hx).symm
    have e1 := J.outs
    have e2 := J.ends
    have e3 := J.puts
    have e4 := J.taken
    have e5 := J.acked
    have e6 := J.put j hj
    have e7 := J.tkn j hj
    have e8 := J.end_ j hj
    have e9 := (J.out j hj).o
    have e10 := (J.out j hj).w
    have d1 := getK_dct (fun j => .loc (.x [11, j]) (V.oj j)) j hj
    have d2 := getK_dct (fun j => .loc (.x [12, j]) (V.ej j)) j hj
    have d3 := getK_dct (fun j => .loc (.x [13, j]) (V.pj j)) j hj
    have d4 := getK_dct (fun j => .loc (.x [14, j]) (V.tj j)) j hj
    have d5 := getK_dct (fun j => .int (M.a j : Nat)) j hj
    have l1 : ((M.P j).take (M.n j)).length = M.n j := by rw [List.length_take]; have := A.nP j hj; omega
    have l2 := cut_take (M.P j) (M.n j) (A.nP j hj)
    have s1 := spAck.eq_1 CO
    have s2 := spCount.eq_1 CO
    have oi := out_eq CO
    unfold b_law_holds_L1
    walk_at "go"
    refine alloc_any fun k1 hk1 v1 => ?_
    have eN := fun Q => lNe_lsts (Q := Q) (h := h1.set (.a k1) v1 (.lst ((M.P j).take (M.n j)))) (n := .x [14, j]) (m := .a k1) (v := V.tj j) (w := v1) (k := 3) (by rw [LH.set_ne (by simp)]; exact e7) LH.set_same (fun y hy => (A.lt j hj y (List.mem_of_mem_take hy)).1) (by decide)
    have nw : ¬ M.wk j = k1 := fun e => by rw [e, hk1] at e10; cases e10
    have a1 : ¬ ((M.n j : Nat) : Int) < (M.a j : Nat) := by have := A.an j hj; omega
    have hJ : HI CO CI CN (h1.set (.a k1) v1 (.lst ((M.P j).take (M.n j)))) V M := J.le fun m p e => by
      rw [LH.set_ne (fun z => by rw [z, hk1] at e; cases e)]; exact e
    have a2 : (M.a j : Int) + (((M.P j).drop (M.a j)).length : Nat) = ((M.P j).length : Nat) := by rw [List.length_drop]; have := A.an j hj; have := A.nP j hj; omega
    walk_at "go"
    exact fgt ⟨hJ, _, rfl⟩
  · rintro s h' ⟨J, k, rfl⟩
    walk_at "go"
    exact fin (q _ J)
end
end K04
namespace K04
open PySem L2 LL
variable {G : Glob} {T : Tab} {C : Addr}
section
variable {CO CI CN : Addr}
theorem fj_fj {α : Type} {f : Nat → α} {j : Nat} {x y : α} : fj (fj f j x) j y = fj f j y := by
  funext r; unfold fj; split <;> rfl
theorem fj_self {α : Type} {f : Nat → α} {j : Nat} : fj f j (f j) = f := by
  funext r; unfold fj; split
  · rename_i e; rw [e]
  · rfl
def MP (M : Mut) (j : Nat) (ys : List LV) : Mut := { M with P := fj M.P j (M.P j ++ ys) }
def spPutL (CO CI CN : Addr) : LSp := fun xs h Q _ => ∃ V M j p, xs = [.loc (.x [11, j]) (V.oj j), .loc (.x [13, j]) (V.pj j), .int p] ∧ HI CO CI CN h V M ∧ j < 6 ∧ M.a j ≤ (M.P j).length ∧ M.n j ≤ (M.P j).length ∧ (M.P j).length ≤ 20000 ∧
  ∀ h' ys, HI CO CI CN h' V (MP M j ys) → (∀ y ∈ ys, Lt y) → ys.length ≤ 124 → Q (.bl true) h'
theorem strL : PyData.strOk (Str.ofString "leave") = true := by decide +kernel
theorem strG : PyData.strOk (Str.ofString "give") = true := by decide +kernel
theorem strS : PyData.strOk (Str.ofString "same") = true := by decide +kernel
theorem put_loop {D : LEnds} {h : LH} {V : Ver} {M : Mut} {j : Nat} {p c : Int} {k v l : Option LV} (g1 : G.meth CO "put" = some (spPut CO)) (t1 : (T.meth "put").isSome = true)
    (I : HI CO CI CN h V M) (hj : j < 6) (ha : M.a j ≤ (M.P j).length) (hn : M.n j ≤ (M.P j).length) (hP : (M.P j).length ≤ 20000) (hc : 0 ≤ c ∧ c ≤ 124)
    (q : ∀ h' ys, HI CO CI CN h' V (MP M j ys) → (∀ y ∈ ys, Lt y) → ys.length ≤ 124 → ∀ h2, LH.le h' h2 → D.rt (.bl true) h2) :
    wpSs G T b_law_put_T2 D [some (.loc (.x [11, j]) (V.oj j)), some (.loc (.x [13, j]) (V.pj j)), some (.int p), some (.int c), k, v, l] h := by
  unfold b_law_put_T2
  walk_at "go"
  refine ⟨by omega, by omega, forK_rng (fun i s h' => s.length = 7 ∧ (∃ k v l, s = [some (.loc (.x [11, j]) (V.oj j)), some (.loc (.x [13, j]) (V.pj j)), some (.int p), some (.int c), k, v, l]) ∧ ∃ ys, ys.length = i ∧ (∀ y ∈ ys, Lt y) ∧ HI CO CI CN h' V (MP M j ys)) ⟨rfl, ⟨_, _, _, rfl⟩, [], rfl, by simp, ?_⟩ ?_ ?_⟩
  · unfold MP; rw [List.append_nil, fj_self]; exact I
  · rintro i s h1 hi ⟨_, ⟨k, v, l, rfl⟩, ys, hy, hL, J⟩
    have e1 := J.put j hj
    have e2 := (J.out j hj).o
    have e3 := (J.out j hj).w
    have s1 := spPut.eq_1 CO
    have oi := out_eq CO
    unfold b_law_put_L1
    walk_at "go"
    walk_at "sd"
    refine alloc_any fun k1 hk1 v1 => ⟨by decide, ?_⟩
    generalize hv : p / (2 + (0 + (i : Int))) % 10 ^ Int.toNat 18 = w
    have nw : ¬ M.wk j = k1 := fun e => by rw [show (MP M j ys).wk j = M.wk j from rfl, e, hk1] at e3; cases e3
    have nP : (MP M j ys).P j = M.P j ++ ys := fj_same
    have nl : (M.P j ++ ys).length = (M.P j).length + i := by rw [List.length_append, hy]
    have body : ∀ x, Lt x → ∀ w', Fgt (fun s h' => s.length = 7 ∧ (∃ k v l, s = [some (.loc (.x [11, j]) (V.oj j)), some (.loc (.x [13, j]) (V.pj j)), some (.int p), some (.int c), k, v, l]) ∧ ∃ ys, ys.length = i + 1 ∧ (∀ y ∈ ys, Lt y) ∧ HI CO CI CN h' V (MP M j ys)) [some (.loc (.x [11, j]) (V.oj j)), some (.loc (.x [13, j]) (V.pj j)), some (.int p), some (.int c), some (.int (0 + (i : Nat))), some (.int w'), some x] ((((h1.set (.a k1) v1 (.lst [LV.tup [LV.str (Str.ofString "leave"), LV.int w], LV.tup [LV.str (Str.ofString "give"), LV.int w, LV.tup [LV.int (w % 8), LV.int (w / 8 % 30)], LV.non], LV.tup [LV.str (Str.ofString "same")]])).set (.x [13, j]) (V.pj j) (.lst ((MP M j ys).P j ++ [x]))).set (.a (M.wk j)) (M.wv j) (.lst (((MP M j ys).P j).drop (M.a j) ++ [x])))) := by
      intro x hx w'
      refine ⟨_, ((h1.set (.x [13, j]) (V.pj j) (.lst ((MP M j ys).P j ++ [x]))).set (.a (M.wk j)) (M.wv j) (.lst (((MP M j ys).P j).drop (M.a j) ++ [x]))), LSt.le_refl _, ?_, rfl, ⟨_, _, _, rfl⟩, ys ++ [x], by rw [List.length_append, hy]; rfl, ?_, ?_⟩
      · intro n o e
        by_cases z : n = .a (M.wk j)
        · subst z; rw [LH.set_same] at e ⊢; exact e
        · rw [LH.set_ne z] at e ⊢
          by_cases z2 : n = .x [13, j]
          · subst z2; rw [LH.set_same] at e ⊢; exact e
          · rw [LH.set_ne z2] at e ⊢
            rw [LH.set_ne (fun z => by rw [z, hk1] at e; cases e)]
            exact e
      · intro y hy; rcases List.mem_append.mp hy with h | h
        · exact hL y h
        · rw [List.mem_singleton.mp h]; exact hx
      · have := J.putd hj (x := x) (by rw [nP, nl]; show M.a j ≤ _; omega) (by rw [nP, nl]; show M.n j ≤ _; omega)
        have e : ({ MP M j ys with P := fj (MP M j ys).P j ((MP M j ys).P j ++ [x]) } : Mut) = MP M j (ys ++ [x]) := by
          unfold MP
          simp only [fj_fj, fj_same, List.append_assoc]
        rw [e] at this
        exact this
    have i1 : PlD 1 (.int w) := pld_int _
    have lts : ∀ xs : List LV, (∀ x ∈ xs, PlD 2 x) → Lt (.tup xs) := fun xs h => ⟨pld_tup h, _, rfl⟩
    have mwk : (MP M j ys).wk = M.wk := (rfl)
    have mwv : (MP M j ys).wv = M.wv := (rfl)
    have ma : (MP M j ys).a = M.a := (rfl)
    have ld : ((M.P j ++ ys).drop (M.a j)).length < sizeLine := by rw [List.length_drop, nl]; show _ < 2 ^ 24; omega
    have lE : ∀ x : LV, ((M.a j : Nat) : Int) + ((((M.P j ++ ys).drop (M.a j) ++ [x]).length : Nat) : Int) = (((M.P j ++ ys ++ [x]).length : Nat) : Int) := fun x => by
      rw [List.length_append, List.length_drop, List.length_append (as := M.P j ++ ys), nl]; simp only [List.length_cons, List.length_nil]; omega
    have lw : (M.P j).length + i < sizeLine := by show _ < 2 ^ 24; omega
    have i8 : PlD 1 (.tup [.int (w % 8), .int (w / 8 % 30)]) := pld_tup (by simp [pld_int])
    simp only [nP, ma] at body
    simp only [nP, ma, mwk, mwv] at e1 e2 e3
    obtain hw | hw | hw : w % 3 = 0 ∨ w % 3 = 1 ∨ w % 3 = 2 := by omega
    · have b := body (.tup [LV.str (Str.ofString "leave"), LV.int w]) (lts _ (by
        intro x hx; simp only [List.mem_cons, List.not_mem_nil, or_false] at hx
        rcases hx with rfl | rfl
        · exact pld_str strL
        · exact pld_int _)) w
      rw [hw]
      walk_at "go"
    · have b := body (.tup [LV.str (Str.ofString "give"), LV.int w, LV.tup [LV.int (w % 8), LV.int (w / 8 % 30)], LV.non]) (lts _ (by
        intro x hx; simp only [List.mem_cons, List.not_mem_nil, or_false] at hx
        rcases hx with rfl | rfl | rfl | rfl
        · exact pld_str strG
        · exact pld_int _
        · exact i8.up (by decide)
        · exact pld_non)) w
      rw [hw]
      walk_at "go"
    · have b := body (.tup [LV.str (Str.ofString "same")]) (lts _ (by
        intro x hx; simp only [List.mem_cons, List.not_mem_nil, or_false] at hx
        rcases hx with rfl
        exact pld_str strS)) w
      rw [hw]
      walk_at "go"
  · rintro s h' ⟨_, ⟨k, v, l, rfl⟩, ys, hy, hL, J⟩
    walk_at "go"
    exact q _ _ J hL (by omega) _ (LH.le_refl _)
theorem k_put_ (g1 : G.meth CO "put" = some (spPut CO)) (t1 : (T.meth "put").isSome = true) : Keeps G T n_law_put 3 b_law_put (spPutL CO CI CN) := by
  rintro xs h Q X hn ⟨V, M, j, p, rfl, I, hj, ha, hn, hP, q⟩
  have e1 := I.put j hj
  unfold b_law_put n_law_put
  walk_at "go"
  walk_at "sd"
  split
  · split
    · walk_at "sd"
      exact put_loop g1 t1 I hj ha hn hP (by omega) fun h' ys I' hL hl h2 l => ⟨_, l, q _ _ I' hL hl⟩
    · exact put_loop g1 t1 I hj ha hn hP (by omega) fun h' ys I' hL hl h2 l => ⟨_, l, q _ _ I' hL hl⟩
  · exact put_loop g1 t1 I hj ha hn hP (by omega) fun h' ys I' hL hl h2 l => ⟨_, l, q _ _ I' hL hl⟩
end
end K04
namespace K04
open PySem L2 LL
variable {G : Glob} {T : Tab} {C : Addr}
section
variable {CO CI CN : Addr}
theorem AI.step {M M' : Mut} {b i : Nat} {p : LV} (A : AI M b) (hp : M.bag[i]? = some p) (S : Stp M i p M') : AI M' b := by
  have hi : i < M.bag.length := (List.getElem?_eq_some_iff.mp hp).1
  have le : (M.bag.eraseIdx i).length = M.bag.length - 1 := List.length_eraseIdx_of_lt hi
  obtain ⟨eP, j, hj, ⟨c, hc, rfl, en, ea, eb⟩ | ⟨r, x, hx, rfl, ea, en, eb⟩⟩ := S
  · refine ⟨fun k hk => ?_, fun k hk => ?_, fun k hk => ?_, fun p hp => ?_, fun k hk => ?_, ?_⟩
    · rw [ea, en]; dsimp only
      have := A.an k hk
      split
      · rename_i e; subst e; omega
      · exact this
    · rw [en, eP]; exact A.nP k hk
    · rw [eP]; exact A.lt k hk
    · rw [eb] at hp
      obtain ⟨j', hj', z⟩ := A.pk p (List.mem_of_mem_eraseIdx hp)
      exact ⟨j', hj', by rw [eP, en]; exact z⟩
    · rw [eP]; exact A.lP k hk
    · rw [eb, le]; have := A.lB; omega
  · have hr := (List.getElem?_eq_some_iff.mp hx).1
    have mono : ∀ k, M.n k ≤ M'.n k := fun k => by
      rw [en]; dsimp only
      split
      · rename_i e; subst e; split <;> omega
      · exact Nat.le_refl _
    refine ⟨fun k hk => ?_, fun k hk => ?_, fun k hk => ?_, fun p hp => ?_, fun k hk => ?_, ?_⟩
    · rw [ea]; exact Nat.le_trans (A.an k hk) (mono k)
    · rw [en, eP]; dsimp only
      have := A.nP k hk
      split
      · rename_i e; subst e; split <;> omega
      · exact this
    · rw [eP]; exact A.lt k hk
    · rw [eb] at hp
      rcases List.mem_append.mp hp with hp | hp
      · obtain ⟨j', hj', z⟩ := A.pk p (List.mem_of_mem_eraseIdx hp)
        refine ⟨j', hj', ?_⟩
        rcases z with z | ⟨c, h1, h2⟩
        · rw [eP]; exact .inl z
        · exact .inr ⟨c, Nat.le_trans h1 (mono j'), h2⟩
      · rw [List.mem_singleton.mp hp]
        exact ⟨j, hj, .inr ⟨_, Nat.le_refl _, rfl⟩⟩
    · rw [eP]; exact A.lP k hk
    · rw [eb, List.length_append, le]; have := A.lB; simp only [List.length_cons, List.length_nil]; omega
/-- the number of a data packet of the channel j -/
def dnum (j : Nat) : LV → Option Nat
  | .tup [.int s, .int t, .str k, .int i, _] => if s = sr j ∧ t = tg j ∧ k = Str.ofString "data" then some i.toNat else none
  | _ => none
theorem dnum_dat (j i : Nat) (x : LV) : dnum j (dat j i x) = some i := by simp [dnum, dat]
theorem srtg : ∀ j, j < 6 → ∀ k, k < 6 → sr j = sr k → tg j = tg k → j = k := by decide
theorem dnum_ne {j k i : Nat} {x : LV} (hj : j < 6) (hk : k < 6) (e : k ≠ j) : dnum j (dat k i x) = none := by
  simp only [dnum, dat]
  rw [if_neg]
  rintro ⟨h1, h2, _⟩
  exact e (srtg k hk j hj h1 h2)
theorem dnum_ack {j k c : Nat} : dnum j (ack k c) = none := by
  simp only [dnum, ack]
  rw [if_neg]
  rintro ⟨_, _, h⟩
  exact absurd h (by decide +kernel)
def dns (j : Nat) (bag : List LV) : List Nat := bag.filterMap (dnum j)
structure EI (M : Mut) : Prop where
  sub : ∀ j, j < 6 → (List.range' (M.n j + 1) ((M.P j).length - M.n j)).Sublist (dns j M.bag)
  last : ∀ j, j < 6 → M.a j = (M.P j).length ∨ dns j M.bag ≠ [] ∨ ack j (M.P j).length ∈ M.bag
def wt (bag : List LV) : Nat := (bag.map fun p => match p with | .tup [_, _, .str k, _, _] => if k = Str.ofString "ack" then 1 else 2 | _ => 2).sum
theorem wt_cons_dat {j i : Nat} {x : LV} {r : List LV} : wt (dat j i x :: r) = 2 + wt r := by
  have : ¬ (Str.ofString "data" = Str.ofString "ack") := by decide +kernel
  simp [wt, dat, this]
theorem wt_cons_ack {j c : Nat} {r : List LV} : wt (ack j c :: r) = 1 + wt r := by simp [wt, ack]
theorem wt_snoc_ack {j c : Nat} {r : List LV} : wt (r ++ [ack j c]) = wt r + 1 := by simp [wt, ack]
theorem wt_le (bag : List LV) : wt bag ≤ 2 * bag.length := by
  induction bag with
  | nil => simp [wt]
  | cons p r ih =>
    have : wt (p :: r) ≤ 2 + wt r := by
      unfold wt
      rw [List.map_cons, List.sum_cons]
      split
      · split <;> omega
      · omega
    rw [List.length_cons]; omega
theorem sub_tl {a n : Nat} {l : List Nat} (h : (List.range' a n).Sublist l) : (List.range' (a + 1) (n - 1)).Sublist l := by
  cases n with
  | zero => simp
  | succ n => rw [List.range'_succ] at h; exact (List.sublist_cons_self _ _).trans h
theorem sub_hd {a n b : Nat} {l : List Nat} (h : (List.range' a n).Sublist (b :: l)) : (List.range' (a + 1) (n - 1)).Sublist l ∧ (a ≠ b → (List.range' a n).Sublist l) := by
  cases n with
  | zero => simp
  | succ n =>
    rw [List.range'_succ] at h ⊢
    cases h with
    | cons _ h => exact ⟨(List.sublist_cons_self _ _).trans h, fun _ => h⟩
    | cons_cons _ h => exact ⟨h, fun e => absurd rfl e⟩
theorem EI.step {M M' : Mut} {b : Nat} {p : LV} {rest : List LV} (A : AI M b) (E : EI M) (hb : M.bag = p :: rest) (S : Stp M 0 p M') : EI M' ∧ wt M'.bag + 1 = wt M.bag := by
  obtain ⟨eP, j, hj, ⟨c, hc, rfl, en, ea, eb⟩ | ⟨r, x, hx, rfl, ea, en, eb⟩⟩ := S
  · rw [hb, List.eraseIdx_cons_zero] at eb
    refine ⟨⟨fun k hk => ?_, fun k hk => ?_⟩, by rw [eb, hb, wt_cons_ack]; omega⟩
    · have := E.sub k hk
      rw [hb] at this
      rw [en, eP, eb]
      simpa [dns, List.filterMap_cons, dnum_ack] using this
    · have := E.last k hk
      rw [hb] at this
      rw [ea, eP, eb]; dsimp only
      have nP := A.nP k hk
      have an := A.an k hk
      rcases this with h | h | h
      · left; split
        · rename_i e; subst e; omega
        · exact h
      · right; left; simpa [dns, List.filterMap_cons, dnum_ack] using h
      · rcases List.mem_cons.mp h with h | h
        · left
          have : k = j ∧ (M.P k).length = c := by
            simp only [ack, LV.tup.injEq, List.cons.injEq, LV.int.injEq] at h
            refine ⟨srtg k hk j hj h.2.1 h.1, ?_⟩
            have := h.2.2.2.1
            omega
          obtain ⟨rfl, e⟩ := this
          rw [if_pos rfl]; omega
        · exact .inr (.inr h)
  · rw [hb, List.eraseIdx_cons_zero] at eb
    have hr := (List.getElem?_eq_some_iff.mp hx).1
    refine ⟨⟨fun k hk => ?_, fun k hk => ?_⟩, by rw [eb, hb, wt_cons_dat, wt_snoc_ack]; omega⟩
    · have := E.sub k hk
      rw [hb] at this
      have ed : dns k (rest ++ [ack j (M'.n j)]) = dns k rest := by simp [dns, dnum_ack]
      rw [eP, eb, ed, en]; dsimp only
      by_cases e : k = j
      · subst e
        rw [show dns k (dat k (r + 1) x :: rest) = (r + 1) :: dns k rest by simp [dns, dnum_dat]] at this
        rw [if_pos rfl]
        obtain ⟨h1, h2⟩ := sub_hd this
        split
        · rw [show (M.P k).length - (M.n k + 1) = (M.P k).length - M.n k - 1 by omega]; exact h1
        · exact h2 (by omega)
      · rw [if_neg e]
        rw [show dns k (dat j (r + 1) x :: rest) = dns k rest by simp [dns, dnum_ne hk hj (Ne.symm e)]] at this
        exact this
    · have := E.last k hk
      rw [hb] at this
      have ed : dns k (rest ++ [ack j (M'.n j)]) = dns k rest := by simp [dns, dnum_ack]
      rw [ea, eP, eb, ed]
      by_cases e : k = j
      · subst e
        by_cases en2 : M'.n k = (M.P k).length
        · right; right; rw [en2]; exact List.mem_append_right _ (.head _)
        · right; left
          have := E.sub k hk
          rw [hb, show dns k (dat k (r + 1) x :: rest) = (r + 1) :: dns k rest by simp [dns, dnum_dat]] at this
          obtain ⟨h1, h2⟩ := sub_hd this
          have nP := A.nP k hk
          intro e0
          rw [e0] at h1 h2
          have en3 : M'.n k = if r = M.n k then M.n k + 1 else M.n k := by rw [en]; dsimp only; rw [if_pos rfl]
          split at en3
          · have := h1.length_le; simp at this; omega
          · have := (h2 (by omega)).length_le; simp at this; omega
      · rcases this with h | h | h
        · exact .inl h
        · right; left
          rwa [show dns k (dat j (r + 1) x :: rest) = dns k rest by simp [dns, dnum_ne hk hj (Ne.symm e)]] at h
        · right; right
          rcases List.mem_cons.mp h with h | h
          · exact absurd h (by
              intro h
              have := congrArg (fun p => match p with | LV.tup [_, _, .str k, _, _] => decide (k = Str.ofString "ack") | _ => false) h
              revert this
              simp only [ack, dat]
              decide +kernel)
          · exact List.mem_append_left _ h
end
end K04
namespace K04
open PySem L2 LL
variable {G : Glob} {T : Tab} {C : Addr}
section
variable {CO CI CN : Addr}
def upsL (M : Mut) (i : Nat) : List LV := (List.range i).flatMap fun s => sendUp M s 3
theorem ups_at (M : Mut) : ∀ j, j < 6 → ∃ A B, M.bag ++ upsL M 3 = A ++ (datL M j ++ B) := by
  have e : upsL M 3 = datL M 0 ++ datL M 1 ++ (datL M 2 ++ datL M 3 ++ (datL M 4 ++ datL M 5)) := by
    simp [upsL, List.range_succ, sendUp, List.filter, jix]
  rw [e]
  refine six ⟨M.bag, datL M 1 ++ (datL M 2 ++ datL M 3 ++ (datL M 4 ++ datL M 5)), ?_⟩ ⟨M.bag ++ datL M 0, (datL M 2 ++ datL M 3 ++ (datL M 4 ++ datL M 5)), ?_⟩ ⟨M.bag ++ datL M 0 ++ datL M 1, (datL M 3 ++ (datL M 4 ++ datL M 5)), ?_⟩ ⟨M.bag ++ datL M 0 ++ datL M 1 ++ datL M 2, ((datL M 4 ++ datL M 5)), ?_⟩ ⟨M.bag ++ datL M 0 ++ datL M 1 ++ datL M 2 ++ datL M 3, datL M 5, ?_⟩ ⟨M.bag ++ datL M 0 ++ datL M 1 ++ datL M 2 ++ datL M 3 ++ datL M 4, [], ?_⟩ <;> simp
theorem dns_datL (M : Mut) (j : Nat) : dns j (datL M j) = List.range' (M.a j + 1) ((M.P j).length - M.a j) := by
  unfold dns datL
  have : ∀ (l : List LV) (k : Nat), (List.mapIdx (fun i x => dat j (k + i + 1) x) l).filterMap (dnum j) = List.range' (k + 1) l.length := by
    intro l
    induction l with
    | nil => intro k; simp
    | cons x l ih =>
      intro k
      rw [List.mapIdx_cons, List.filterMap_cons]
      have : dnum j (dat j (k + 0 + 1) x) = some (k + 1) := dnum_dat _ _ _
      rw [this]
      simp only
      have := ih (k + 1)
      rw [show (fun i => dat j (k + (i + 1) + 1)) = (fun i => dat j (k + 1 + i + 1)) by funext i; rw [show k + (i + 1) + 1 = k + 1 + i + 1 by omega]]
      rw [this, List.length_cons, List.range'_succ]
  have h2 := this (M.P j) 0
  simp only [Nat.zero_add] at h2
  have e : (List.drop (M.a j) (List.mapIdx (fun i x => dat j (i + 1) x) (M.P j))).filterMap (dnum j) = ((List.mapIdx (fun i x => dat j (i + 1) x) (M.P j)).filterMap (dnum j)).drop (M.a j) := by
    have gen : ∀ (l : List LV) (n : Nat), (∀ y ∈ l, (dnum j y).isSome) → (l.drop n).filterMap (dnum j) = (l.filterMap (dnum j)).drop n := by
      intro l
      induction l with
      | nil => intro n _; simp
      | cons y l ih =>
        intro n hy
        obtain ⟨v, hv⟩ := Option.isSome_iff_exists.mp (hy y (.head _))
        cases n with
        | zero => simp
        | succ n => rw [List.drop_succ_cons, List.filterMap_cons, hv]; simp only [List.drop_succ_cons]; exact ih n fun z hz => hy z (.tail _ hz)
    refine gen _ _ fun y hy => ?_
    obtain ⟨i, hi, rfl⟩ := List.mem_iff_getElem.mp hy
    rw [List.getElem_mapIdx, dnum_dat]; rfl
  rw [e, h2, List.drop_range']
  congr 1 <;> omega
theorem ei_send {M : Mut} {b : Nat} (A : AI M b) : EI (ME M (M.bag ++ upsL M 3)) := by
  refine ⟨fun j hj => ?_, fun j hj => ?_⟩
  · show (List.range' (M.n j + 1) ((M.P j).length - M.n j)).Sublist (dns j (M.bag ++ upsL M 3))
    obtain ⟨X, Y, e⟩ := ups_at M j hj
    rw [e]
    unfold dns
    rw [List.filterMap_append, List.filterMap_append]
    refine List.Sublist.trans ?_ (List.sublist_append_right _ _)
    refine List.Sublist.trans ?_ (List.sublist_append_left _ _)
    have := dns_datL M j
    unfold dns at this
    rw [this]
    have an := A.an j hj
    have e2 : List.range' (M.n j + 1) ((M.P j).length - M.n j) = (List.range' (M.a j + 1) ((M.P j).length - M.a j)).drop (M.n j - M.a j) := by
      rw [List.drop_range']; congr 1 <;> omega
    rw [e2]
    exact List.drop_sublist _ _
  · show M.a j = (M.P j).length ∨ dns j (M.bag ++ upsL M 3) ≠ [] ∨ _
    by_cases h : M.a j = (M.P j).length
    · exact .inl h
    · right; left
      obtain ⟨X, Y, e⟩ := ups_at M j hj
      rw [e]
      intro z
      have l := A.an j hj
      have l2 := A.nP j hj
      have : dns j (datL M j) = [] := by
        unfold dns at z ⊢
        rw [List.filterMap_append, List.filterMap_append] at z
        exact (List.append_eq_nil_iff.mp (List.append_eq_nil_iff.mp z).2).1
      rw [dns_datL] at this
      have := congrArg List.length this
      simp at this
      omega
theorem pk_dat {M : Mut} {j : Nat} {p : LV} (hp : p ∈ datL M j) : ∃ i x, (M.P j)[i]? = some x ∧ p = dat j (i + 1) x := by
  unfold datL at hp
  have := List.mem_of_mem_drop hp
  obtain ⟨i, hi, rfl⟩ := List.mem_iff_getElem.mp this
  rw [List.length_mapIdx] at hi
  exact ⟨i, (M.P j)[i], List.getElem?_eq_getElem hi, by rw [List.getElem_mapIdx]⟩
theorem pk_send {M : Mut} {s n : Nat} (hs : s < 3) (hn : n ≤ 3) {p : LV} (hp : p ∈ sendUp M s n) : Pk M p := by
  unfold sendUp at hp
  obtain ⟨t, ht, hp⟩ := List.mem_flatMap.mp hp
  obtain ⟨ht, ht2⟩ := List.mem_filter.mp ht
  have ht := List.mem_range.mp ht
  have ht2 := of_decide_eq_true ht2
  refine ⟨jix s t, ?_, .inl (pk_dat hp)⟩
  obtain rfl | rfl | rfl : s = 0 ∨ s = 1 ∨ s = 2 := by omega
  all_goals
    obtain rfl | rfl | rfl : t = 0 ∨ t = 1 ∨ t = 2 := by omega
  all_goals decide
theorem sendUp_len2 {M : Mut} {B s : Nat} (h : ∀ j, j < 6 → (M.P j).length ≤ B) (hs : s < 3) : (sendUp M s 3).length ≤ 2 * B := by
  have e : ∀ j, j < 6 → (datL M j).length ≤ B := fun j hj => by rw [datL_len]; have := h j hj; omega
  have e0 := e 0 (by decide); have e1 := e 1 (by decide); have e2 := e 2 (by decide); have e3 := e 3 (by decide); have e4 := e 4 (by decide); have e5 := e 5 (by decide)
  obtain rfl | rfl | rfl : s = 0 ∨ s = 1 ∨ s = 2 := by omega
  all_goals simp [sendUp, List.range_succ, List.filter, jix]
  all_goals omega
/-- a site sends -/
theorem AI.send {M : Mut} {b s : Nat} (A : AI M b) (hs : s < 3) (hb : b ≤ 76) : AI (ME M (M.bag ++ sendUp M s 3)) (b + 1) := by
  refine ⟨A.an, A.nP, A.lt, fun p hp => ?_, fun j hj => ?_, ?_⟩
  · rcases List.mem_append.mp hp with h | h
    · exact A.pk p h
    · exact pk_send (M := M) hs (Nat.le_refl _) h
  · have := A.lP j hj; show (M.P j).length ≤ _; omega
  · show (M.bag ++ sendUp M s 3).length ≤ _
    rw [List.length_append]
    have := A.lB
    have := sendUp_len2 (M := M) (B := 130 * b) A.lP hs
    omega
theorem upsL_succ (M : Mut) (i : Nat) : upsL M (i + 1) = upsL M i ++ sendUp M i 3 := by
  unfold upsL; rw [List.range_succ, List.flatMap_append]; simp
end
end K04
namespace K04
open PySem L2 LL
variable {G : Glob} {T : Tab} {C : Addr}
section
variable {CO CI CN : Addr}
def slE (V : Ver) (a b c : Option LV) : LSt := [some (LV.loc (Nm.x [1]) V.vo), some (LV.loc (Nm.x [2]) V.ve), some (LV.loc (Nm.x [3]) V.vp), some (LV.loc (Nm.x [4]) V.vt), some (LV.loc (Nm.x [5]) V.va), some (LV.loc (Nm.x [0]) V.vk), some (.loc (.x [6]) V.vn), some (.loc (.x [8]) V.vb), a, b, c]
theorem ends_L1 {D : LEnds} {h : LH} {V : Ver} {M : Mut} {b : Nat} {x y z : Option LV} (g1 : G.fn "_law_send" = some (spSend CO CI CN)) (I : HI CO CI CN h V M) (A : AI M b) (hb : b ≤ 70)
    (q : ∀ h' x y z, HI CO CI CN h' V (ME M (M.bag ++ upsL M 3)) → AI (ME M (M.bag ++ upsL M 3)) (b + 3) → D.nx (slE V x y z) h') :
    wpS G T (.for (.name 8) (.rng (.cons (.int 3) .nil)) b_law_ends_well_L1) D (slE V x y z) h := by
  unfold slE
  walk_at "go"
  refine ⟨by decide, by decide, forK_rng (fun i s h' => (∃ x y z, s = slE V x y z) ∧ HI CO CI CN h' V (ME M (M.bag ++ upsL M i)) ∧ AI (ME M (M.bag ++ upsL M i)) (b + i)) ⟨⟨_, _, _, rfl⟩, ?_, ?_⟩ ?_ ?_⟩
  · rw [show upsL M 0 = [] from rfl, List.append_nil]; exact I
  · rw [show upsL M 0 = [] from rfl, List.append_nil]; exact A
  · rintro i s h1 hi ⟨⟨x, y, z, rfl⟩, J, B⟩
    have hi : i < 3 := hi
    have s1 := spSend.eq_1 CO CI CN
    unfold b_law_ends_well_L1 slE
    walk_at "go"
    refine ⟨V, rfl, rfl, rfl, rfl, rfl, ME M (M.bag ++ upsL M i), i, by omega, J, hi, B.lt, fun j hj => by have := B.lP j hj; omega, by have := B.lB; omega, fun j hj => Nat.le_trans (B.an j hj) (B.nP j hj), fun h2 J2 => fgt ?_⟩
    rw [upsL_succ, ← List.append_assoc]
    exact ⟨⟨_, _, _, rfl⟩, J2, B.send hi (by omega)⟩
  · rintro s h1 ⟨⟨x, y, z, rfl⟩, J, B⟩
    exact q _ _ _ _ J B
def EJ (CO CI CN : Addr) (h : LH) (V : Ver) (M M' : Mut) : Prop := HI CO CI CN h V M' ∧ AI M' 80 ∧ EI M' ∧ M'.P = M.P
theorem ends_L2 {D : LEnds} {h : LH} {V : Ver} {M : Mut} {x y z : Option LV} (g1 : G.fn "_law_deliver" = some (spDeliver CO CI CN)) (J : EJ CO CI CN h V M M)
    (q : ∀ h' x y z M', EJ CO CI CN h' V M M' → M'.bag = [] → D.nx (slE V x y z) h') :
    wpS G T (.for (.name 9) (.rng (.cons (.bin .add (.bin .mul (.int 2) (.blt .len (.cons (.var 7) .nil))) (.int 1)) .nil)) b_law_ends_well_L2) D (slE V x y z) h := by
  have f1 := J.1.bag
  have lB := J.2.1.lB
  unfold slE
  walk_at "go"
  refine ⟨.inl (by decide), by omega, by omega, forK_rng (fun i s h' => (∃ x y z, s = slE V x y z) ∧ ∃ M', EJ CO CI CN h' V M M' ∧ wt M'.bag + i ≤ 2 * M.bag.length) ⟨⟨_, _, _, rfl⟩, M, J, wt_le _⟩ ?_ ?_⟩
  · rintro i s h1 hi ⟨⟨x, y, z, rfl⟩, M', K, hw⟩
    have f2 := K.1.bag
    have s1 := spDeliver.eq_1 CO CI CN
    unfold b_law_ends_well_L2 slE
    walk_at "go"
    cases hb : M'.bag with
    | nil =>
      simp only [List.isEmpty_nil, Bool.not_true, Bool.not_false, if_true]
      exact q _ _ _ _ _ K hb
    | cons p rest =>
      simp only [List.isEmpty_cons, Bool.not_false, Bool.not_true, Bool.false_eq_true, if_false]
      refine ⟨V, rfl, rfl, rfl, rfl, rfl, rfl, M', 0, rfl, K.1, p, by rw [hb]; rfl, ⟨80, by decide, K.2.1⟩, fun h2 M2 J2 S2 => fgt ⟨⟨_, _, _, rfl⟩, M2, ?_⟩⟩
      obtain ⟨E2, w2⟩ := EI.step K.2.1 K.2.2.1 hb S2
      exact ⟨⟨J2, K.2.1.step (by rw [hb]; rfl) S2, E2, S2.1.trans K.2.2.2⟩, by omega⟩
  · rintro s h1 ⟨⟨x, y, z, rfl⟩, M', K, hw⟩
    have : (2 * (M.bag.length : Int) + 1).toNat = 2 * M.bag.length + 1 := by omega
    rw [this] at hw
    omega
theorem EI.done {M : Mut} {b : Nat} (A : AI M b) (E : EI M) (hb : M.bag = []) : ∀ j, j < 6 → M.n j = (M.P j).length ∧ M.a j = (M.P j).length := by
  intro j hj
  have h1 := E.sub j hj
  have h2 := E.last j hj
  have nP := A.nP j hj
  rw [hb] at h1 h2
  have h1 := h1.length_le
  simp [dns] at h1 h2
  exact ⟨by omega, h2⟩
def spEnds (CO CI CN : Addr) : LSp := fun xs h Q _ => ∃ V M, xs = [.loc (.x [1]) V.vo, .loc (.x [2]) V.ve, .loc (.x [3]) V.vp, .loc (.x [4]) V.vt, .loc (.x [5]) V.va, .loc (.x [0]) V.vk, .loc (.x [6]) V.vn, .loc (.x [8]) V.vb] ∧ HI CO CI CN h V M ∧ AI M 64 ∧ ∀ h', Q (.bl true) h'
theorem ends_L3 {D : LEnds} {h : LH} {V : Ver} {M : Mut} {b j : Nat} {x y z : Option LV} (g3 : G.meth CO "due" = some (spDue CO)) (t3 : (T.meth "due").isSome = true) (K : HI CO CI CN h V M) (A : AI M b) (hj : j < 6) (n1 : M.n j = (M.P j).length) (n2 : M.a j = (M.P j).length)
    (q : ∀ h' z, HI CO CI CN h' V M → D.nx (slE V x y z) h') : wpG G T (.name 10) (.tup [.int (sr j), .int (tg j)]) (slE V x y z) h (fun s2 h2 => wpSs G T b_law_ends_well_L3 D s2 h2) D.xc := by
  have e1 := K.outs
  have e3 := K.puts
  have e4 := K.taken
  have e5 := K.acked
  have e6 := K.put j hj
  have e7 := K.tkn j hj
  rw [n1, List.take_length] at e7
  have e9 := (K.out j hj).o
  have e10 := (K.out j hj).w
  rw [n2] at e9 e10
  rw [List.drop_length] at e10
  have d1 := getK_dct (fun j => .loc (.x [11, j]) (V.oj j)) j hj
  have d3 := getK_dct (fun j => .loc (.x [13, j]) (V.pj j)) j hj
  have d4 := getK_dct (fun j => .loc (.x [14, j]) (V.tj j)) j hj
  have d5 := getK_dct (fun j => .int (M.a j : Nat)) j hj
  rw [n2] at d5
  have s1 := spDue.eq_1 CO
  have oi := out_eq CO
  have eN := fun Q => lNe_lsts (Q := Q) (h := h) (n := .x [14, j]) (m := .x [13, j]) (v := V.tj j) (w := V.pj j) (k := 3) e7 e6 (fun y hy => (A.lt j hj y hy).1) (by decide)
  unfold b_law_ends_well_L3 slE
  walk_at "go"
  refine ⟨Nat.zero_le _, fun k1 d1 hk1 => ⟨by decide, alloc_any fun k2 hk2 d2 => ?_⟩⟩
  have nk : ¬ k1 = k2 := fun e => by rw [e, LH.set_same] at hk2; cases hk2
  have eD : dueL ((M.P j).length : Nat) [] = [] := rfl
  rw [eD]
  rw [eD] at hk2
  have eN := fun Q => lNe_lsts (Q := Q) (h := (h.set (.a k1) d1 (.lst [])).set (.a k2) d2 (.lst [])) (n := .a k1) (m := .a k2) (v := d1) (w := d2) (k := 4) (by rw [LH.set_ne (by simpa using nk), LH.set_same]) LH.set_same (by simp) (by decide)
  walk_at "go"
  have hk2' : h (.a k2) = none := by rw [LH.set_ne (by simpa using Ne.symm nk)] at hk2; exact hk2
  exact q _ _ (K.le fun m p e => by
      rw [LH.set_ne (fun z => by rw [z, hk2'] at e; cases e), LH.set_ne (fun z => by rw [z, hk1] at e; cases e)]
      exact e)
theorem ends_rest {Q : LQ} {X : LX} {h : LH} {V : Ver} {M M' : Mut} {x y z : Option LV} (ga : G.attr CI "count" = true) (g1 : G.meth CN "__len__" = some (spNLen CN)) (g2 : G.meth CN "packets" = some (spPackets CN)) (t2 : (T.meth "packets").isSome = true) (g3 : G.meth CO "due" = some (spDue CO)) (t3 : (T.meth "due").isSome = true) (g4 : G.fn "_law_holds" = some (spHolds CO CI CN))
    (J : EJ CO CI CN h V M M') (hb : M'.bag = []) (q : ∀ h', Q (.bl true) h') :
    wpSs G T (.cons (.ifs (.or (.cons (.var 7) (.cons (.cmp .ne (.olen (.var 6)) (.int 0)) (.cons (.cmp .ne (.meth (.var 6) "packets" .none (.nil)) (.lst (.nil))) .nil))))
    (.cons (.ret (.bl false)) (.nil))
    (.nil))
  (.cons (.for (.name 10) (.seq (.var 5)) b_law_ends_well_L3)
  (.cons (.ret (.call "_law_holds" (.cons (.var 0) (.cons (.var 1) (.cons (.var 2) (.cons (.var 3) (.cons (.var 4) (.cons (.var 5) .nil)))))))) (.nil)))) (ends Q X) (slE V x y z) h := by
  have e1 := J.1.bag
  have e2 := J.1.net.o
  have e3 := J.1.net.p
  have e4 := J.1.keys
  rw [hb] at e1 e3
  have s1 := spNLen.eq_1 CN
  have s2 := spPackets.eq_1 CN
  have s3 := spHolds.eq_1 CO CI CN
  have oi := net_eq CN
  unfold slE
  walk_at "go"
  rw [if_neg (by simp)]
  refine ⟨by decide, by decide, ?_⟩
  rw [if_neg (by simp)]
  refine fun k1 d1 hk1 => ⟨by decide, alloc_any fun k2 hk2 d2 => ?_⟩
  have nk : ¬ k1 = k2 := fun e => by rw [e, LH.set_same] at hk2; cases hk2
  have eN := fun Q => lNe_lsts (Q := Q) (h := (h.set (.a k1) d1 (.lst [])).set (.a k2) d2 (.lst [])) (n := .a k1) (m := .a k2) (v := d1) (w := d2) (k := 4) (by rw [LH.set_ne (by simpa using nk), LH.set_same]) LH.set_same (by simp) (by decide)
  walk_at "go"
  have hk2' : h (.a k2) = none := by rw [LH.set_ne (by simpa using Ne.symm nk)] at hk2; exact hk2
  have K0 : HI CO CI CN ((h.set (.a k1) d1 (.lst [])).set (.a k2) d2 (.lst [])) V M' := J.1.le fun m p e => by
      rw [LH.set_ne (fun z => by rw [z, hk2'] at e; cases e), LH.set_ne (fun z => by rw [z, hk1] at e; cases e)]
      exact e
  refine forK_lst (fun i s h' => (∃ x y z, s = slE V x y z) ∧ HI CO CI CN h' V M') ⟨⟨_, _, _, rfl⟩, K0⟩ (fun _ _ _ z => z.2.keys) ?_ ?_
  · rintro j u s h1 hx ⟨⟨x, y, z, rfl⟩, K⟩
    have hj : j < 6 := (List.getElem?_eq_some_iff.mp hx).1
    obtain rfl : u = .tup [.int (sr j), .int (tg j)] := by
      rw [List.getElem?_map, List.getElem?_range hj] at hx
      exact (Option.some.inj hx).symm
    obtain ⟨n1, n2⟩ := EI.done J.2.1 J.2.2.1 hb j hj
    exact ends_L3 g3 t3 K J.2.1 hj n1 n2 fun h' z K2 => fgt ⟨⟨_, _, _, rfl⟩, K2⟩
  · rintro s h1 ⟨⟨x, y, z, rfl⟩, K⟩
    unfold slE
    walk_at "go"
    exact ⟨V, rfl, rfl, rfl, rfl, rfl, rfl, M', K, 80, by decide, J.2.1, fun h2 K2 => fin (q _)⟩
end
end K04
namespace K04
open PySem L2 LL
variable {G : Glob} {T : Tab} {C : Addr}
section
variable {CO CI CN : Addr}
theorem k_ends (ga : G.attr CI "count" = true) (g1 : G.meth CN "__len__" = some (spNLen CN)) (g2 : G.meth CN "packets" = some (spPackets CN)) (t2 : (T.meth "packets").isSome = true) (g3 : G.meth CO "due" = some (spDue CO)) (t3 : (T.meth "due").isSome = true) (g4 : G.fn "_law_holds" = some (spHolds CO CI CN))
    (g5 : G.fn "_law_send" = some (spSend CO CI CN)) (g6 : G.fn "_law_deliver" = some (spDeliver CO CI CN)) : Keeps G T n_law_ends_well 8 b_law_ends_well (spEnds CO CI CN) := by
  rintro xs h Q X hn ⟨V, M, rfl, I, A, q⟩
  unfold b_law_ends_well
  rw [LL.Ss_cons]
  refine ends_L1 (x := none) (y := none) (z := none) g5 I A (by decide) fun h1 x y z I1 A1 => ?_
  show wpSs G T (.cons _ _) _ _ _
  rw [LL.Ss_cons]
  refine ends_L2 g6 ⟨I1, ⟨A1.an, A1.nP, A1.lt, A1.pk, fun j hj => by have := A1.lP j hj; omega, by have := A1.lB; omega⟩, ei_send A, rfl⟩ fun h2 x y z M2 J2 hb => ?_
  exact ends_rest ga g1 g2 t2 g3 t3 g4 J2 hb q

/-! ### the channels are made -/
structure PI (CO CI : Addr) (h : LH) (V : Ver) (M : Mut) (i : Nat) : Prop where
  keys : h (.x [0]) = some (V.vk, .lst ((List.range 6).map fun j => .tup [.int (sr j), .int (tg j)]))
  outs : h (.x [1]) = some (V.vo, .dT ((dctOf fun j => .loc (.x [11, j]) (V.oj j)).take i))
  ends : h (.x [2]) = some (V.ve, .dT ((dctOf fun j => .loc (.x [12, j]) (V.ej j)).take i))
  puts : h (.x [3]) = some (V.vp, .dT ((dctOf fun j => .loc (.x [13, j]) (V.pj j)).take i))
  taken : h (.x [4]) = some (V.vt, .dT ((dctOf fun j => .loc (.x [14, j]) (V.tj j)).take i))
  acked : h (.x [5]) = some (V.va, .dT ((dctOf fun j => .int (0 : Nat)).take i))
  out : ∀ j, j < i → Out CO h (.x [11, j]) (V.oj j) 0 (.a (M.wk j)) (M.wv j) []
  end_ : ∀ j, j < i → h (.x [12, j]) = some (V.ej j, .ins CI [("count", .int 0)])
  put : ∀ j, j < i → h (.x [13, j]) = some (V.pj j, .lst [])
  tkn : ∀ j, j < i → h (.x [14, j]) = some (V.tj j, .lst [])
  wne : ∀ a b, a < i → b < i → a ≠ b → M.wk a ≠ M.wk b
  fr : ∀ j, i ≤ j → ∀ c, 11 ≤ c → c ≤ 14 → h (.x [c, j]) = none
  f6 : h (.x [6]) = none
  f8 : h (.x [8]) = none
theorem putT (f : Nat → LV) (v : LV) : ∀ i, i < 6 → putK ((dctOf f).take i) [Sum.inl (sr i), Sum.inl (tg i)] v = (dctOf (fj f i v)).take (i + 1) := six rfl rfl rfl rfl rfl rfl
theorem lenT (f : Nat → LV) (i : Nat) : ((dctOf f).take i).length < sizeLine := by
  rw [List.length_take, dct_len]; show _ < 2 ^ 24; omega
theorem dT_f {f g : Nat → LV} {i : Nat} {v : LV} (h1 : v = g i) (h2 : ∀ j, j ≠ i → f j = g j) : fj f i v = g := by
  funext j; unfold fj; split
  · rename_i e; rw [e, h1]
  · rename_i e; exact h2 j e
theorem make_one {D : LEnds} {h : LH} {V : Ver} {M : Mut} {i : Nat} {s0 x8 x9 x10 x11 x12 x13 x14 x15 : Option LV} (g1 : G.cls "Outgoing" = some (CO, spInit CO)) (g2 : G.cls "Incoming" = some (CI, spInI CI)) (I : PI CO CI h V M i) (hi : i < 6)
    (q : ∀ h' V' M', PI CO CI h' V' M' (i + 1) → (V'.vk = V.vk ∧ V'.vo = V.vo ∧ V'.ve = V.ve ∧ V'.vp = V.vp ∧ V'.vt = V.vt ∧ V'.va = V.va) → D.nx [s0, some (.loc (.x [0]) V.vk), some (.loc (.x [1]) V.vo), some (.loc (.x [2]) V.ve), some (.loc (.x [3]) V.vp), some (.loc (.x [4]) V.vt), some (.loc (.x [5]) V.va), some (.tup [.int (sr i), .int (tg i)]), x8, x9, x10, x11, x12, x13, x14, x15] h') :
    wpSs G T b_law_L1 D [s0, some (.loc (.x [0]) V.vk), some (.loc (.x [1]) V.vo), some (.loc (.x [2]) V.ve), some (.loc (.x [3]) V.vp), some (.loc (.x [4]) V.vt), some (.loc (.x [5]) V.va), some (.tup [.int (sr i), .int (tg i)]), x8, x9, x10, x11, x12, x13, x14, x15] h := by
  have s1 := spInit.eq_1 CO
  have s2 := spInI.eq_1 CI
  have f11 := I.fr i (Nat.le_refl _) 11 (by decide) (by decide)
  have f12 := I.fr i (Nat.le_refl _) 12 (by decide) (by decide)
  have f13 := I.fr i (Nat.le_refl _) 13 (by decide) (by decide)
  have f14 := I.fr i (Nat.le_refl _) 14 (by decide) (by decide)
  have e1 := I.outs
  have e2 := I.ends
  have e3 := I.puts
  have e4 := I.taken
  have e5 := I.acked
  unfold b_law_L1
  walk_at "go"
  refine alloc_at (.x [11, i]) f11 fun v1 => ?_
  walk_at "go"
  refine fun k wv hk h1 O1 F1 => ?_
  have g1' : h1 (.x [1]) = _ := (F1 _ (by simp) (by simp)).trans ((LH.set_ne (by simp)).trans e1)
  have g2' : h1 (.x [2]) = _ := (F1 _ (by simp) (by simp)).trans ((LH.set_ne (by simp)).trans e2)
  have g3' : h1 (.x [3]) = _ := (F1 _ (by simp) (by simp)).trans ((LH.set_ne (by simp)).trans e3)
  have g4' : h1 (.x [4]) = _ := (F1 _ (by simp) (by simp)).trans ((LH.set_ne (by simp)).trans e4)
  have g5' : h1 (.x [5]) = _ := (F1 _ (by simp) (by simp)).trans ((LH.set_ne (by simp)).trans e5)
  have g12' : h1 (.x [12, i]) = none := (F1 _ (by simp) (by simp)).trans ((LH.set_ne (by simp)).trans f12)
  have g13' : h1 (.x [13, i]) = none := (F1 _ (by simp) (by simp)).trans ((LH.set_ne (by simp)).trans f13)
  have g14' : h1 (.x [14, i]) = none := (F1 _ (by simp) (by simp)).trans ((LH.set_ne (by simp)).trans f14)
  walk_at "go"
  refine ⟨lenT _ _, alloc_at (.x [12, i]) (by simp [LH.set_ap, g12']) fun v2 => ?_⟩
  walk_at "go"
  refine ⟨lenT _ _, by decide, alloc_at (.x [13, i]) (by simp [LH.set_ap, g13']) fun v3 => ?_⟩
  walk_at "go"
  refine ⟨lenT _ _, by decide, alloc_at (.x [14, i]) (by simp [LH.set_ap, g14']) fun v4 => ?_⟩
  walk_at "go"
  refine ⟨lenT _ _, lenT _ _, ?_⟩
  rw [putT _ _ i hi, putT _ _ i hi, putT _ _ i hi, putT _ _ i hi, putT _ _ i hi]
  have hk' : h (.a k) = none := by simpa [LH.set_ap] using hk
  have F : ∀ r, r ≠ .x [11, i] → r ≠ .a k → h1 r = h r := fun r h1 h2 => (F1 r h1 h2).trans (LH.set_ne h1)
  refine q _ { V with oj := fj V.oj i v1, ej := fj V.ej i v2, pj := fj V.pj i v3, tj := fj V.tj i v4 } { M with wk := fj M.wk i k, wv := fj M.wv i wv } ?_ ⟨rfl, rfl, rfl, rfl, rfl, rfl⟩
  have i1 : ∀ j, j < i + 1 → j = i ∨ j < i := fun j hj => by omega
  have wk : ∀ j, j < i → M.wk j ≠ k := fun j hj e => by have := (I.out j hj).w; rw [e, hk'] at this; cases this
  have ed : ∀ (f g : Nat → LV), (∀ j, j ≤ i → f j = g j) → (dctOf f).take (i + 1) = (dctOf g).take (i + 1) := by
    intro f g h
    unfold dctOf
    rw [← List.map_take, ← List.map_take, List.map_congr_left]
    intro j hj
    rw [List.take_range, List.mem_range] at hj
    rw [h j (by omega)]
  refine ⟨?_, ?_, ?_, ?_, ?_, ?_, fun j hj => ?_, fun j hj => ?_, fun j hj => ?_, fun j hj => ?_, fun a b ha hb hab => ?_, fun j hj c hc hc2 => ?_, ?_, ?_⟩
  · simp only [LH.set_ap, Nm.x.injEq, List.cons.injEq, reduceCtorEq, and_false, if_false, Nat.reduceEqDiff, and_true]
    rw [F _ (by simp) (by simp)]; exact I.keys
  · simp only [LH.set_ap, Nm.x.injEq, List.cons.injEq, reduceCtorEq, and_false, if_false, Nat.reduceEqDiff, and_true, if_true]
    refine congrArg (fun z => some (V.vo, LO.dT z)) (ed _ _ fun j hj => ?_)
    unfold fj; split <;> (rename_i e; (try subst e); simp)
  · simp only [LH.set_ap, Nm.x.injEq, List.cons.injEq, reduceCtorEq, and_false, if_false, Nat.reduceEqDiff, and_true, if_true]
    refine congrArg (fun z => some (V.ve, LO.dT z)) (ed _ _ fun j hj => ?_)
    unfold fj; split <;> (rename_i e; (try subst e); simp)
  · simp only [LH.set_ap, Nm.x.injEq, List.cons.injEq, reduceCtorEq, and_false, if_false, Nat.reduceEqDiff, and_true, if_true]
    refine congrArg (fun z => some (V.vp, LO.dT z)) (ed _ _ fun j hj => ?_)
    unfold fj; split <;> (rename_i e; (try subst e); simp)
  · simp only [LH.set_ap, Nm.x.injEq, List.cons.injEq, reduceCtorEq, and_false, if_false, Nat.reduceEqDiff, and_true, if_true]
    refine congrArg (fun z => some (V.vt, LO.dT z)) (ed _ _ fun j hj => ?_)
    unfold fj; split <;> (rename_i e; (try subst e); simp)
  · simp only [LH.set_ap, if_true]
    refine congrArg (fun z => some (V.va, LO.dT z)) (ed _ _ fun j hj => ?_)
    unfold fj; split <;> (rename_i e; (try subst e); simp)
  · rcases i1 j hj with rfl | hj
    · refine ⟨?_, ?_⟩
      · simp only [LH.set_ap, Nm.x.injEq, List.cons.injEq, reduceCtorEq, and_false, if_false, Nat.reduceEqDiff, and_true, fj_same]
        exact O1.1
      · simp only [LH.set_ap, Nm.x.injEq, List.cons.injEq, reduceCtorEq, and_false, if_false, Nat.reduceEqDiff, and_true, fj_same]
        exact O1.2
    · have ne : j ≠ i := by omega
      refine ⟨?_, ?_⟩
      · simp only [LH.set_ap, Nm.x.injEq, List.cons.injEq, reduceCtorEq, and_false, if_false, Nat.reduceEqDiff, and_true, fj_ne ne]
        rw [F _ (by simpa using ne) (by simp)]; exact (I.out j hj).o
      · simp only [LH.set_ap, Nm.x.injEq, List.cons.injEq, reduceCtorEq, and_false, if_false, Nat.reduceEqDiff, and_true, fj_ne ne]
        rw [F _ (by simp) (by simpa using wk j hj)]; exact (I.out j hj).w
  · rcases i1 j hj with rfl | hj
    · simp only [LH.set_ap, Nm.x.injEq, List.cons.injEq, reduceCtorEq, and_false, if_false, Nat.reduceEqDiff, and_true, fj_same, if_true]
    · have ne : j ≠ i := by omega
      simp only [LH.set_ap, Nm.x.injEq, List.cons.injEq, reduceCtorEq, and_false, if_false, Nat.reduceEqDiff, and_true, fj_ne ne, ne]
      rw [F _ (by simp) (by simp)]; exact I.end_ j hj
  · rcases i1 j hj with rfl | hj
    · simp only [LH.set_ap, Nm.x.injEq, List.cons.injEq, reduceCtorEq, and_false, if_false, Nat.reduceEqDiff, and_true, fj_same, if_true]
    · have ne : j ≠ i := by omega
      simp only [LH.set_ap, Nm.x.injEq, List.cons.injEq, reduceCtorEq, and_false, if_false, Nat.reduceEqDiff, and_true, fj_ne ne, ne]
      rw [F _ (by simp) (by simp)]; exact I.put j hj
  · rcases i1 j hj with rfl | hj
    · simp only [LH.set_ap, Nm.x.injEq, List.cons.injEq, reduceCtorEq, and_false, if_false, Nat.reduceEqDiff, and_true, fj_same, if_true]
    · have ne : j ≠ i := by omega
      simp only [LH.set_ap, Nm.x.injEq, List.cons.injEq, reduceCtorEq, and_false, if_false, Nat.reduceEqDiff, and_true, fj_ne ne, ne]
      rw [F _ (by simp) (by simp)]; exact I.tkn j hj
  · show fj M.wk i k a ≠ fj M.wk i k b
    rcases i1 a ha with rfl | ha <;> rcases i1 b hb with rfl | hb
    · exact absurd rfl hab
    · rw [fj_same, fj_ne (Ne.symm hab)]; exact (wk b hb).symm
    · rw [fj_same, fj_ne hab]; exact wk a ha
    · rw [fj_ne (by omega), fj_ne (by omega)]; exact I.wne a b ha hb hab
  · have ne : j ≠ i := by omega
    simp only [LH.set_ap, Nm.x.injEq, List.cons.injEq, reduceCtorEq, and_false, if_false, Nat.reduceEqDiff, and_true, ne]
    rw [F _ (by simpa using fun _ => ne) (by simp)]; exact I.fr j (by omega) c hc hc2
  · simp only [LH.set_ap, Nm.x.injEq, List.cons.injEq, reduceCtorEq, and_false, if_false, Nat.reduceEqDiff, and_true]
    rw [F _ (by simp) (by simp)]; exact I.f6
  · simp only [LH.set_ap, Nm.x.injEq, List.cons.injEq, reduceCtorEq, and_false, if_false, Nat.reduceEqDiff, and_true]
    rw [F _ (by simp) (by simp)]; exact I.f8
end
end K04
namespace K04
open PySem L2 LL
variable {G : Glob} {T : Tab} {C : Addr}
section
variable {CO CI CN : Addr}
theorem AI.up {M : Mut} {b c : Nat} (A : AI M b) (h : b ≤ c) : AI M c :=
  ⟨A.an, A.nP, A.lt, A.pk, fun j hj => by have := A.lP j hj; omega, by have := A.lB; omega⟩
theorem AI.put {M : Mut} {b j : Nat} {ys : List LV} (A : AI M b) (h1 : ∀ y ∈ ys, Lt y) (h2 : ys.length ≤ 124) : AI (MP M j ys) (b + 1) := by
  have e : ∀ k, (MP M j ys).P k = M.P k ++ if k = j then ys else [] := fun k => by
    show fj M.P j (M.P j ++ ys) k = _
    unfold fj; split
    · rename_i e; subst e; rfl
    · rw [List.append_nil]
  refine ⟨A.an, fun k hk => ?_, fun k hk x hx => ?_, fun p hp => ?_, fun k hk => ?_, ?_⟩
  · rw [e, List.length_append]; have := A.nP k hk; show M.n k ≤ _; omega
  · rw [e] at hx
    rcases List.mem_append.mp hx with h | h
    · exact A.lt k hk x h
    · split at h
      · exact h1 x h
      · cases h
  · obtain ⟨k, hk, ⟨i, x, hx, z⟩ | z⟩ := A.pk p hp
    · exact ⟨k, hk, .inl ⟨i, x, by rw [e, List.getElem?_append_left (List.getElem?_eq_some_iff.mp hx).1]; exact hx, z⟩⟩
    · exact ⟨k, hk, .inr z⟩
  · rw [e, List.length_append]
    have := A.lP k hk
    split
    · omega
    · simp only [List.length_nil]; omega
  · have := A.lB; show M.bag.length ≤ _; omega
theorem AI.bag {M : Mut} {b : Nat} {bag : List LV} (A : AI M b) (h : ∀ p ∈ bag, p ∈ M.bag) (h2 : bag.length ≤ M.bag.length + 1) : AI (ME M bag) (b + 1) :=
  ⟨A.an, A.nP, A.lt, fun p hp => A.pk p (h p hp), fun j hj => by have := A.lP j hj; show (M.P j).length ≤ _; omega, by have := A.lB; show bag.length ≤ _; omega⟩
def slL (ns : List Int) (V : Ver) (k x10 x11 x12 x13 x14 x15 : Option LV) : LSt := [some (.rol ns), some (.loc (.x [0]) V.vk), some (.loc (.x [1]) V.vo), some (.loc (.x [2]) V.ve), some (.loc (.x [3]) V.vp), some (.loc (.x [4]) V.vt), some (.loc (.x [5]) V.va), k, some (.loc (.x [6]) V.vn), some (.loc (.x [8]) V.vb), x10, x11, x12, x13, x14, x15]
theorem law_T3 {D : LEnds} {ns : List Int} {h : LH} {V : Ver} {M : Mut} {b : Nat} {k x10 x11 x12 x13 x15 : Option LV} (g2 : G.meth CN "packets" = some (spPackets CN)) (t2 : (T.meth "packets").isSome = true) (g4 : G.fn "_law_holds" = some (spHolds CO CI CN))
    (I : HI CO CI CN h V M) (A : AI M b) (hb : b ≤ 80) (q : ∀ h', HI CO CI CN h' V M → D.nx (slL ns V k x10 x11 x12 x13 (some (.bl true)) x15) h') :
    wpSs G T b_law_T3 D (slL ns V k x10 x11 x12 x13 (some (.bl true)) x15) h := by
  have e1 := I.bag
  have e2 := I.net.o
  have e3 := I.net.p
  have s2 := spPackets.eq_1 CN
  have oi := net_eq CN
  unfold b_law_T3 slL
  walk_at "go"
  refine fun k1 d1 hk1 => ?_
  have eN := fun Q => lNe_lsts (Q := Q) (h := h.set (.a k1) d1 (.lst M.bag)) (n := .a k1) (m := .x [8]) (v := d1) (w := V.vb) (k := 4) LH.set_same (by rw [LH.set_ne (by simp)]; exact e1) (fun y hy => A.pld hy) (by decide)
  have s3 := spHolds.eq_1 CO CI CN
  walk_at "go"
  refine ⟨V, rfl, rfl, rfl, rfl, rfl, rfl, M, I.le fun m p e => ?_, b, hb, A, fun h' I' => q _ I'⟩
  rw [LH.set_ne (fun z => by rw [z, hk1] at e; cases e)]; exact e
theorem law_L2 {D : LEnds} {ns : List Int} {h : LH} {V : Ver} {M : Mut} {b : Nat} {r : Int} {k x10 x11 x12 x15 : Option LV} (g6 : G.fn "_law_deliver" = some (spDeliver CO CI CN)) (I : HI CO CI CN h V M) (A : AI M b) (hb : b ≤ 80)
    (q : ∀ h' M' x15, HI CO CI CN h' V M' → AI M' b → D.nx (slL ns V k x10 x11 x12 (some (.int r)) (some (.bl true)) x15) h') :
    ForK G T (.name 15) b_law_L2 D (slL ns V k x10 x11 x12 (some (.int r)) (some (.bl true)) x15) (rngIt 0 (1 + r % 4).toNat) h := by
  refine forK_rng (fun i s h' => (∃ x15, s = slL ns V k x10 x11 x12 (some (.int r)) (some (.bl true)) x15) ∧ ∃ M', HI CO CI CN h' V M' ∧ AI M' b) ⟨⟨_, rfl⟩, M, I, A⟩ ?_ ?_
  · rintro i s h1 hi ⟨⟨x15, rfl⟩, M', K, B⟩
    have f2 := K.bag
    have s1 := spDeliver.eq_1 CO CI CN
    unfold b_law_L2 slL
    walk_at "go"
    cases hb : M'.bag with
    | nil =>
      simp only [List.isEmpty_nil, Bool.not_true, Bool.false_eq_true, if_false]
      exact fgt ⟨⟨_, rfl⟩, M', K, B⟩
    | cons p rest =>
      have hp : 0 < M'.bag.length := by rw [hb]; simp
      rw [← hb]
      have m0 := Int.emod_nonneg (r / 4 + 7 * (0 + (i : Int))) (show ((M'.bag.length : Nat) : Int) ≠ 0 by omega)
      have m1 := Int.emod_lt_of_pos (r / 4 + 7 * (0 + (i : Int))) (show (0 : Int) < (M'.bag.length : Nat) by omega)
      obtain ⟨n, hn⟩ := Int.eq_ofNat_of_zero_le m0
      have hn' : n < M'.bag.length := by omega
      rw [if_pos (by rw [hb]; rfl)]
      refine ⟨cdivw (by decide) (by decide), .inl (by decide), by omega, ?_⟩
      rw [hn]
      refine ⟨V, rfl, rfl, rfl, rfl, rfl, rfl, M', n, rfl, K, M'.bag[n], List.getElem?_eq_getElem hn', ⟨b, by assumption, B⟩, fun h2 M2 J2 S2 => fgt ⟨⟨_, rfl⟩, M2, J2, B.step (List.getElem?_eq_getElem hn') S2⟩⟩
  · rintro s h1 ⟨⟨x15, rfl⟩, M', K, B⟩
    exact q _ _ _ K B
theorem emodN {a : Int} {n : Nat} (h : 0 < n) : ∃ m : Nat, a % (n : Int) = m ∧ m < n := by
  have m0 := Int.emod_nonneg a (show ((n : Nat) : Int) ≠ 0 by omega)
  have m1 := Int.emod_lt_of_pos a (show (0 : Int) < (n : Nat) by omega)
  obtain ⟨k, hk⟩ := Int.eq_ofNat_of_zero_le m0
  exact ⟨k, hk, by omega⟩
theorem iteI {c : Prop} [Decidable c] {a b : Prop} (h1 : c → a) (h2 : ¬ c → b) : if c then a else b := by
  by_cases h : c
  · rw [if_pos h]; exact h1 h
  · rw [if_neg h]; exact h2 h
def spLaw : LSp := fun xs h Q _ => ∃ ns : List Int, xs = [.rol ns] ∧ ns.length ≤ 63 ∧ (∀ n, h n = none) ∧ ∀ h', Q (.bl true) h'
theorem law_body {D : LEnds} {ns : List Int} {h : LH} {V : Ver} {M : Mut} {b : Nat} {k x11 x12 x13 x14 x15 : Option LV} (g1 : G.fn "_law_number" = some spNum) (g2 : G.meth CN "packets" = some (spPackets CN)) (t2 : (T.meth "packets").isSome = true) (g4 : G.fn "_law_holds" = some (spHolds CO CI CN))
    (g5 : G.fn "_law_send" = some (spSend CO CI CN)) (g6 : G.fn "_law_deliver" = some (spDeliver CO CI CN)) (g7 : G.fn "_law_put" = some (spPutL CO CI CN)) (g8 : G.fn "_law_take" = some (spTake CO CI CN)) (g9 : G.meth CN "repeat" = some (spRepeat CN)) (t9 : (T.meth "repeat").isSome = true)
    (I : HI CO CI CN h V M) (A : AI M b) (hb : b < ns.length) (hn : ns.length ≤ 63) (q : ∀ h' M' k x10 x11 x12 x13 x14 x15, HI CO CI CN h' V M' → AI M' (b + 1) → D.nx (slL ns V k x10 x11 x12 x13 x14 x15) h') :
    wpSs G T b_law_L4 D (slL ns V k (some (.int (0 + (b : Nat)))) x11 x12 x13 x14 x15) h := by
  have e1 := I.bag
  have e2 := I.keys
  have s1 := spNum.eq_1
  have e0 : atI ns (0 + (b : Int)) = ns[b]? := by
    rw [Int.zero_add]
    rw [List.getElem?_eq_getElem (by omega)]
    exact atI_nat (List.getElem?_eq_getElem (by omega))
  rw [List.getElem?_eq_getElem (by omega)] at e0
  have T3 := fun {h' : LH} {M' : Mut} {k x10 x11 x12 x13 x15 : Option LV} (I' : HI CO CI CN h' V M') (A' : AI M' (b + 1)) => law_T3 (D := D) (ns := ns) (k := k) (x10 := x10) (x11 := x11) (x12 := x12) (x13 := x13) (x15 := x15) g2 t2 g4 I' A' (by omega) fun h2 I2 => q h2 M' _ _ _ _ _ _ _ I2 A'
  unfold slL at T3
  unfold b_law_L4 slL
  walk_at "go"
  refine ⟨by omega, by omega, fun p => ?_⟩
  walk_at "sd"
  have e3 := I.outs
  have e4 := I.puts
  have e5 := I.net.o
  have e6 := I.net.p
  have s2 := spRepeat.eq_1 CN
  have oi := net_eq CN
  have up := A.up (Nat.le_succ b)
  refine iteI (fun hd => ?_) fun hd => ?_
  · obtain ⟨j, hj, hj6⟩ := emodN (a := p / 9) (n := 6) (by decide)
    rw [show p / 9 % 6 = (j : Int) from hj, show atI (List.map (fun j => LV.tup [LV.int (sr j), LV.int (tg j)]) (List.range 6)) (j : Int) = some (.tup [.int (sr j), .int (tg j)]) from atI_nat (by rw [List.getElem?_map, List.getElem?_range hj6]; rfl)]
    have d1 := getK_dct (fun j => .loc (.x [11, j]) (V.oj j)) j hj6
    have d2 := getK_dct (fun j => .loc (.x [13, j]) (V.pj j)) j hj6
    walk_at "go"
    walk_at "sd"
    refine ⟨V, M, j, _, rfl, I, hj6, Nat.le_trans (A.an j hj6) (A.nP j hj6), A.nP j hj6, by have := A.lP j hj6; omega, fun h2 ys I2 l1 l2 => T3 I2 (A.put l1 l2)⟩
  · refine iteI (fun hd2 => ?_) fun hd2 => ?_
    · refine iteI (fun hd3 => ?_) fun hd3 => ?_
      · obtain ⟨j, hj, hj3⟩ := emodN (a := p / 9) (n := 3) (by decide)
        walk_at "sd"
        refine ⟨V, M, j, by rw [show p / 9 % 3 = (j : Int) from hj], I, hj3, A.lt, fun j hj => by have := A.lP j hj; omega, by have := A.lB; omega, fun j hj => Nat.le_trans (A.an j hj) (A.nP j hj), fun h2 I2 => T3 I2 (A.send hj3 (by omega))⟩
      · exact T3 I up
    · refine iteI (fun hd3 => ?_) fun hd3 => ?_
      · refine iteI (fun hne => ?_) fun hne => ?_
        · skip
          have hp : 0 < M.bag.length := by
            cases hb : M.bag with
            | nil => rw [hb] at hne; simp at hne
            | cons x r => simp
          obtain ⟨j, hj, hjl⟩ := emodN (a := p / 9) (n := M.bag.length) hp
          refine ⟨by omega, V, M, j, M.bag[j], by rw [hj], I, List.getElem?_eq_getElem hjl, ?_, by have := A.lB; omega, fun h2 I2 => T3 I2 (A.bag (fun p hp => List.mem_of_mem_eraseIdx hp) (by have := List.length_eraseIdx_le M.bag j; omega))⟩
          have pl := A.pld (List.getElem_mem hjl)
          obtain ⟨j', _, ⟨i, x, _, e⟩ | ⟨c, _, e⟩⟩ := A.pk _ (List.getElem_mem hjl)
          · rw [e] at pl ⊢; exact ⟨pl, _, rfl⟩
          · rw [e] at pl ⊢; exact ⟨pl, _, rfl⟩
        · rw [if_neg (by omega), if_neg (by omega)]; exact T3 I up
      · refine iteI (fun hd4 => ?_) fun hd4 => ?_
        · refine iteI (fun hne => ?_) fun hne => ?_
          · skip
            have hp : 0 < M.bag.length := by
              cases hb : M.bag with
              | nil => rw [hb] at hne; simp at hne
              | cons x r => simp
            obtain ⟨j, hj, hjl⟩ := emodN (a := p / 9) (n := M.bag.length) hp
            have hx := List.getElem?_eq_getElem hjl
            have ax := atI_nat hx
            have hp' : (0 : Int) < (M.bag.length : Nat) := by omega
            walk_at "go"
            have lB := A.lB
            exact ⟨by omega, by show _ < 2 ^ 24; omega, T3 (I.bags _) (A.bag (fun p hp => by
              rcases List.mem_append.mp hp with h | h
              · exact h
              · rw [List.mem_singleton.mp h]; exact List.getElem_mem hjl) (by simp))⟩
          · rw [if_neg (by omega)]; exact T3 I up
        · refine iteI (fun hd5 => ?_) fun hd5 => ?_
          · walk_at "sd"
            exact law_L2 (D := { D with nx := wpSs G T b_law_T3 D }) g6 I up (by omega) fun h2 M2 x15 I2 A2 => T3 I2 A2
          · exact T3 I up
end
end K04
namespace K04
open PySem L2 LL
variable {G : Glob} {T : Tab} {C : Addr}
section
variable {CO CI CN : Addr}
theorem k_law (g0 : G.cls "Outgoing" = some (CO, spInit CO)) (g0' : G.cls "Incoming" = some (CI, spInI CI)) (g0'' : G.cls "Network" = some (CN, spNInit CN)) (g1 : G.fn "_law_number" = some spNum) (g2 : G.meth CN "packets" = some (spPackets CN)) (t2 : (T.meth "packets").isSome = true) (g4 : G.fn "_law_holds" = some (spHolds CO CI CN))
    (g5 : G.fn "_law_send" = some (spSend CO CI CN)) (g6 : G.fn "_law_deliver" = some (spDeliver CO CI CN)) (g7 : G.fn "_law_put" = some (spPutL CO CI CN)) (g8 : G.fn "_law_take" = some (spTake CO CI CN)) (g9 : G.meth CN "repeat" = some (spRepeat CN)) (t9 : (T.meth "repeat").isSome = true) (g10 : G.fn "_law_ends_well" = some (spEnds CO CI CN)) : Keeps G T n_law 1 b_law spLaw := by
  rintro xs h Q X hn ⟨ns, rfl, hl, hh, q⟩
  unfold b_law n_law
  walk_at "go"
  walk_at "sd"
  refine alloc_at (.x [0]) (hh _) fun vk => .inr (alloc_at (.x [1]) (by simp [LH.set_ap, hh]) fun vo => .inr (alloc_at (.x [2]) (by simp [LH.set_ap, hh]) fun ve => .inr (alloc_at (.x [3]) (by simp [LH.set_ap, hh]) fun vp => .inr (alloc_at (.x [4]) (by simp [LH.set_ap, hh]) fun vt => .inr (alloc_at (.x [5]) (by simp [LH.set_ap, hh]) fun va => ?_)))))
  walk_at "go"
  let V0 : Ver := ⟨vk, vo, ve, vp, vt, va, 0, 0, 0, 0, fun _ => 0, fun _ => 0, fun _ => 0, fun _ => 0⟩
  let M0 : Mut := ⟨fun _ => 0, fun _ => 0, fun _ => [], fun _ => 0, fun _ => 0, []⟩
  refine forK_lst (xs := (List.range 6).map fun j => .tup [.int (sr j), .int (tg j)]) (fun i s h' => ∃ V M, (V.vk = vk ∧ V.vo = vo ∧ V.ve = ve ∧ V.vp = vp ∧ V.vt = vt ∧ V.va = va) ∧ PI CO CI h' V M i ∧ ∃ k x8 x9 x10 x11 x12 x13 x14 x15, s = [some (.rol ns), some (.loc (.x [0]) vk), some (.loc (.x [1]) vo), some (.loc (.x [2]) ve), some (.loc (.x [3]) vp), some (.loc (.x [4]) vt), some (.loc (.x [5]) va), k, x8, x9, x10, x11, x12, x13, x14, x15]) ⟨V0, M0, ⟨rfl, rfl, rfl, rfl, rfl, rfl⟩, ?_, _, _, _, _, _, _, _, _, _, rfl⟩ ?_ ?_ ?_
  · constructor
    · simp [LH.set_ap]; exact ⟨rfl, rfl⟩
    · simp [LH.set_ap]; rfl
    · simp [LH.set_ap]; rfl
    · simp [LH.set_ap]; rfl
    · simp [LH.set_ap]; rfl
    · simp [LH.set_ap]; rfl
    · intro j hj; omega
    · intro j hj; omega
    · intro j hj; omega
    · intro j hj; omega
    · intro a b hj; omega
    · intro j _ c _ _; simp [LH.set_ap, hh]
    · simp [LH.set_ap, hh]
    · simp [LH.set_ap, hh]
  · rintro i s h' ⟨V, M, ⟨e1, _⟩, P, _⟩
    rw [← e1]; exact P.keys
  · rintro i x s h' hx ⟨V, M, ⟨rfl, rfl, rfl, rfl, rfl, rfl⟩, P, k, x8, x9, x10, x11, x12, x13, x14, x15, rfl⟩
    have hj : i < 6 := (List.getElem?_eq_some_iff.mp hx).1
    obtain rfl : x = .tup [.int (sr i), .int (tg i)] := by
      rw [List.getElem?_map, List.getElem?_range hj] at hx
      exact (Option.some.inj hx).symm
    rw [LL.G_name]
    exact make_one g0 g0' P hj fun h2 V' M' P' ⟨a1, a2, a3, a4, a5, a6⟩ => fgt ⟨V', M', ⟨a1, a2, a3, a4, a5, a6⟩, P', _, _, _, _, _, _, _, _, _, rfl⟩
  · rintro s h1 ⟨V, M, ⟨rfl, rfl, rfl, rfl, rfl, rfl⟩, P, k, x8, x9, x10, x11, x12, x13, x14, x15, rfl⟩
    have s1 := spNInit.eq_1 CN
    have P : PI CO CI h1 V M 6 := P
    have f6 := P.f6
    walk_at "go"
    refine alloc_at (.x [6]) f6 fun vn => ?_
    walk_at "go"
    refine fun nk nv hk h2 N F => ⟨Nat.zero_le _, alloc_at (.x [8]) ?_ fun vb => ?_⟩
    · rw [F _ (by simp) (by simp), if_neg (by simp)]; exact P.f8
    have F' : ∀ m, m ≠ .x [6] → m ≠ .x [8] → m ≠ .a nk → (h2.set (.x [8]) vb (.lst [])) m = h1 m := fun m a b c => by
      rw [LH.set_ne b, F _ a c, if_neg a]
    have wk : ∀ j, j < 6 → M.wk j ≠ nk := fun j hj e => by have := (P.out j hj).w; rw [e] at this; simp [this] at hk
    have J : HI CO CI CN (h2.set (.x [8]) vb (.lst [])) { V with vn := vn, vb := vb, nk := nk, nv := nv } { M with P := fun _ => [], n := fun _ => 0, a := fun _ => 0, bag := [] } := by
      refine ⟨?_, ?_, ?_, ?_, ?_, ?_, ⟨?_, ?_⟩, LH.set_same, fun j hj => ⟨?_, ?_⟩, fun j hj => ?_, fun j hj => ?_, fun j hj => ?_, P.wne, wk⟩
      · rw [F' _ (by simp) (by simp) (by simp)]; exact P.keys
      · rw [F' _ (by simp) (by simp) (by simp)]; exact P.outs
      · rw [F' _ (by simp) (by simp) (by simp)]; exact P.ends
      · rw [F' _ (by simp) (by simp) (by simp)]; exact P.puts
      · rw [F' _ (by simp) (by simp) (by simp)]; exact P.taken
      · rw [F' _ (by simp) (by simp) (by simp)]; exact P.acked
      · rw [LH.set_ne (by simp)]; exact N.o
      · rw [LH.set_ne (by simp)]; exact N.p
      · rw [F' _ (by simp) (by simp) (by simp)]; exact (P.out j hj).o
      · rw [F' _ (by simp) (by simp) (by simpa using wk j hj)]; exact (P.out j hj).w
      · rw [F' _ (by simp) (by simp) (by simp)]; exact P.end_ j hj
      · rw [F' _ (by simp) (by simp) (by simp)]; exact P.put j hj
      · rw [F' _ (by simp) (by simp) (by simp)]; exact P.tkn j hj
    generalize hV : ({ V with vn := vn, vb := vb, nk := nk, nv := nv } : Ver) = W at J
    refine ⟨by omega, by omega, forK_rng (fun i s h' => (∃ k x10 x11 x12 x13 x14 x15, s = slL ns W k x10 x11 x12 x13 x14 x15) ∧ ∃ M', HI CO CI CN h' W M' ∧ AI M' i) ⟨⟨_, _, _, _, _, _, _, by rw [← hV]; rfl⟩, _, J, ⟨fun _ _ => Nat.le_refl _, fun _ _ => Nat.le_refl _, fun _ _ x hx => (by cases hx), fun p hp => (by cases hp), fun _ _ => Nat.zero_le _, Nat.zero_le _⟩⟩ ?_ ?_⟩
    · rintro i s h' hi ⟨⟨k, x10, x11, x12, x13, x14, x15, rfl⟩, M', K, A⟩
      have hi : i < ns.length := by omega
      show wpSs G T b_law_L4 _ (slL ns W k (some (.int (0 + (i : Nat)))) x11 x12 x13 x14 x15) h'
      exact law_body g1 g2 t2 g4 g5 g6 g7 g8 g9 t9 K A hi hl fun h2 M2 k x10 x11 x12 x13 x14 x15 I2 A2 => fgt ⟨⟨_, _, _, _, _, _, _, rfl⟩, M2, I2, A2⟩
    · rintro s h' ⟨⟨k, x10, x11, x12, x13, x14, x15, rfl⟩, M', K, A⟩
      have s2 := spEnds.eq_1 CO CI CN
      unfold slL
      walk_at "go"
      refine ⟨W, rfl, rfl, rfl, rfl, rfl, rfl, rfl, rfl, M', K, A.up (by omega), fun h2 => fin (q _)⟩
theorem law_sp (ns : List Int) (Q : LQ) (X : LX) (h : ns.length ≤ 63) (q : ∀ h, Q (.bl true) h) : spLaw [.rol ns] (fun _ => none) Q X := ⟨ns, rfl, h, fun _ => rfl, q⟩
end
end K04

namespace K04
open PySem L2 LL
/-- what the program's names stand for -/
def gl (C0 C1 C2 E0 E1 : Addr) : Glob :=
  { fn := fun x => ([("_law_number", spNum), ("_law_send", spSend C0 C1 C2), ("_law_take", spTake C0 C1 C2), ("_law_deliver", spDeliver C0 C1 C2), ("_law_holds", spHolds C0 C1 C2), ("_law_put", spPutL C0 C1 C2), ("_law_ends_well", spEnds C0 C1 C2), ("law", spLaw)] : List (Str × LSp)).lookup x
    cls := fun x => ([("Outgoing", C0, spInit C0), ("Incoming", C1, spInI C1), ("Network", C2, spNInit C2)] : List (Str × Addr × LSp)).lookup x
    meth := fun C m => pick C m ([(C0, "put", spPut C0), (C0, "due", spDue C0), (C0, "acknowledge", spAcknowledge C0), (C1, "accepts", spAccepts C1), (C1, "accept", spAccept C1), (C2, "__len__", spNLen C2), (C2, "_check", spCheck C2), (C2, "post", spPost C2), (C2, "take_out", spTakeOut C2), (C2, "repeat", spRepeat C2), (C2, "packets", spPackets C2)] : List (Addr × Str × LSp))
    prop := fun C m => pick C m ([(C0, "acknowledged", spAck C0), (C0, "put_count", spCount C0)] : List (Addr × Str × LSp))
    attr := fun C m => (pick C m ([(C0, "_acknowledged", ()), (C0, "_waiting", ()), (C1, "count", ()), (C2, "_packets", ())] : List (Addr × Str × Unit))).isSome
    con := fun x => ([] : List (Str × LV)).lookup x
    exc := fun x => ([("FarheapError", E0), ("Unknown", E1)] : List (Str × Addr)).lookup x }
end K04
local macro_rules | `(tactic| walk_at "side") => `(tactic| (first | rfl | (simp [K04.gl, LL.pick_ofS, LL.pick_nil, *]; done)))
namespace K04
open PySem L2 LL
def topS (i : Nat) : Stmt := PySem.Challenge.pw_farheap_k04_whole_letters_once_in_order.main.body.getD i (.Pass ⟨0, 0, 0, 0⟩)
abbrev st_Outgoing_init : Stmt := inClass (topS 4) 0
theorem sc_Outgoing_init : FnScope n_Outgoing_init ["self"] (defScope st_Outgoing_init) := ⟨rfl, rfl, rfl, by decide +kernel, rfl, by decide +kernel, by decide +kernel⟩
theorem ok_Outgoing_init : okSs ⟨n_Outgoing_init, (defScope st_Outgoing_init).names, tb.tab, 0, true⟩ b_Outgoing_init (defBody st_Outgoing_init) = true := by decide +kernel
abbrev st_Outgoing_acknowledged : Stmt := inClass (topS 4) 1
theorem sc_Outgoing_acknowledged : FnScope n_Outgoing_acknowledged ["self"] (defScope st_Outgoing_acknowledged) := ⟨rfl, rfl, rfl, by decide +kernel, rfl, by decide +kernel, by decide +kernel⟩
theorem ok_Outgoing_acknowledged : okSs ⟨n_Outgoing_acknowledged, (defScope st_Outgoing_acknowledged).names, tb.tab, 0, true⟩ b_Outgoing_acknowledged (defBody st_Outgoing_acknowledged) = true := by decide +kernel
abbrev st_Outgoing_put_count : Stmt := inClass (topS 4) 2
theorem sc_Outgoing_put_count : FnScope n_Outgoing_put_count ["self"] (defScope st_Outgoing_put_count) := ⟨rfl, rfl, rfl, by decide +kernel, rfl, by decide +kernel, by decide +kernel⟩
theorem ok_Outgoing_put_count : okSs ⟨n_Outgoing_put_count, (defScope st_Outgoing_put_count).names, tb.tab, 0, true⟩ b_Outgoing_put_count (defBody st_Outgoing_put_count) = true := by decide +kernel
abbrev st_Outgoing_put : Stmt := inClass (topS 4) 3
theorem sc_Outgoing_put : FnScope n_Outgoing_put ["self", "letter"] (defScope st_Outgoing_put) := ⟨rfl, rfl, rfl, by decide +kernel, rfl, by decide +kernel, by decide +kernel⟩
theorem ok_Outgoing_put : okSs ⟨n_Outgoing_put, (defScope st_Outgoing_put).names, tb.tab, 0, true⟩ b_Outgoing_put (defBody st_Outgoing_put) = true := by decide +kernel
abbrev st_Outgoing_due : Stmt := inClass (topS 4) 4
theorem sc_Outgoing_due : FnScope n_Outgoing_due ["self"] (defScope st_Outgoing_due) := ⟨rfl, rfl, rfl, by decide +kernel, rfl, by decide +kernel, by decide +kernel⟩
theorem ok_Outgoing_due : okSs ⟨n_Outgoing_due, (defScope st_Outgoing_due).names, tb.tab, 0, true⟩ b_Outgoing_due (defBody st_Outgoing_due) = true := by decide +kernel
abbrev st_Outgoing_acknowledge : Stmt := inClass (topS 4) 5
theorem sc_Outgoing_acknowledge : FnScope n_Outgoing_acknowledge ["self", "number"] (defScope st_Outgoing_acknowledge) := ⟨rfl, rfl, rfl, by decide +kernel, rfl, by decide +kernel, by decide +kernel⟩
theorem ok_Outgoing_acknowledge : okSs ⟨n_Outgoing_acknowledge, (defScope st_Outgoing_acknowledge).names, tb.tab, 0, true⟩ b_Outgoing_acknowledge (defBody st_Outgoing_acknowledge) = true := by decide +kernel
abbrev st_Incoming_init : Stmt := inClass (topS 5) 0
theorem sc_Incoming_init : FnScope n_Incoming_init ["self"] (defScope st_Incoming_init) := ⟨rfl, rfl, rfl, by decide +kernel, rfl, by decide +kernel, by decide +kernel⟩
theorem ok_Incoming_init : okSs ⟨n_Incoming_init, (defScope st_Incoming_init).names, tb.tab, 0, true⟩ b_Incoming_init (defBody st_Incoming_init) = true := by decide +kernel
abbrev st_Incoming_accepts : Stmt := inClass (topS 5) 1
theorem sc_Incoming_accepts : FnScope n_Incoming_accepts ["self", "number"] (defScope st_Incoming_accepts) := ⟨rfl, rfl, rfl, by decide +kernel, rfl, by decide +kernel, by decide +kernel⟩
theorem ok_Incoming_accepts : okSs ⟨n_Incoming_accepts, (defScope st_Incoming_accepts).names, tb.tab, 0, true⟩ b_Incoming_accepts (defBody st_Incoming_accepts) = true := by decide +kernel
abbrev st_Incoming_accept : Stmt := inClass (topS 5) 2
theorem sc_Incoming_accept : FnScope n_Incoming_accept ["self"] (defScope st_Incoming_accept) := ⟨rfl, rfl, rfl, by decide +kernel, rfl, by decide +kernel, by decide +kernel⟩
theorem ok_Incoming_accept : okSs ⟨n_Incoming_accept, (defScope st_Incoming_accept).names, tb.tab, 0, true⟩ b_Incoming_accept (defBody st_Incoming_accept) = true := by decide +kernel
abbrev st_Network_init : Stmt := inClass (topS 6) 0
theorem sc_Network_init : FnScope n_Network_init ["self"] (defScope st_Network_init) := ⟨rfl, rfl, rfl, by decide +kernel, rfl, by decide +kernel, by decide +kernel⟩
theorem ok_Network_init : okSs ⟨n_Network_init, (defScope st_Network_init).names, tb.tab, 0, true⟩ b_Network_init (defBody st_Network_init) = true := by decide +kernel
abbrev st_Network___len__ : Stmt := inClass (topS 6) 1
theorem sc_Network___len__ : FnScope n_Network___len__ ["self"] (defScope st_Network___len__) := ⟨rfl, rfl, rfl, by decide +kernel, rfl, by decide +kernel, by decide +kernel⟩
theorem ok_Network___len__ : okSs ⟨n_Network___len__, (defScope st_Network___len__).names, tb.tab, 0, true⟩ b_Network___len__ (defBody st_Network___len__) = true := by decide +kernel
abbrev st_Network__check : Stmt := inClass (topS 6) 3
theorem sc_Network__check : FnScope n_Network__check ["self", "index"] (defScope st_Network__check) := ⟨rfl, rfl, rfl, by decide +kernel, rfl, by decide +kernel, by decide +kernel⟩
theorem ok_Network__check : okSs ⟨n_Network__check, (defScope st_Network__check).names, tb.tab, 0, true⟩ b_Network__check (defBody st_Network__check) = true := by decide +kernel
abbrev st_Network_post : Stmt := inClass (topS 6) 4
theorem sc_Network_post : FnScope n_Network_post ["self", "packet"] (defScope st_Network_post) := ⟨rfl, rfl, rfl, by decide +kernel, rfl, by decide +kernel, by decide +kernel⟩
theorem ok_Network_post : okSs ⟨n_Network_post, (defScope st_Network_post).names, tb.tab, 0, true⟩ b_Network_post (defBody st_Network_post) = true := by decide +kernel
abbrev st_Network_take_out : Stmt := inClass (topS 6) 5
theorem sc_Network_take_out : FnScope n_Network_take_out ["self", "index"] (defScope st_Network_take_out) := ⟨rfl, rfl, rfl, by decide +kernel, rfl, by decide +kernel, by decide +kernel⟩
theorem ok_Network_take_out : okSs ⟨n_Network_take_out, (defScope st_Network_take_out).names, tb.tab, 1, true⟩ b_Network_take_out (defBody st_Network_take_out) = true := by decide +kernel
abbrev st_Network_repeat : Stmt := inClass (topS 6) 6
theorem sc_Network_repeat : FnScope n_Network_repeat ["self", "index"] (defScope st_Network_repeat) := ⟨rfl, rfl, rfl, by decide +kernel, rfl, by decide +kernel, by decide +kernel⟩
theorem ok_Network_repeat : okSs ⟨n_Network_repeat, (defScope st_Network_repeat).names, tb.tab, 1, true⟩ b_Network_repeat (defBody st_Network_repeat) = true := by decide +kernel
abbrev st_Network_packets : Stmt := inClass (topS 6) 7
theorem sc_Network_packets : FnScope n_Network_packets ["self"] (defScope st_Network_packets) := ⟨rfl, rfl, rfl, by decide +kernel, rfl, by decide +kernel, by decide +kernel⟩
theorem ok_Network_packets : okSs ⟨n_Network_packets, (defScope st_Network_packets).names, tb.tab, 0, true⟩ b_Network_packets (defBody st_Network_packets) = true := by decide +kernel
abbrev st_law_number : Stmt := topS 8
theorem sc_law_number : FnScope n_law_number ["_law_cell", "_law_k"] (defScope st_law_number) := ⟨rfl, rfl, rfl, by decide +kernel, rfl, by decide +kernel, by decide +kernel⟩
theorem ok_law_number : okSs ⟨n_law_number, (defScope st_law_number).names, tb.tab, 0, true⟩ b_law_number (defBody st_law_number) = true := by decide +kernel
abbrev st_law_send : Stmt := topS 9
theorem sc_law_send : FnScope n_law_send ["_law_outs", "_law_puts", "_law_acked", "_law_net", "_law_bag", "_law_source"] (defScope st_law_send) := ⟨rfl, rfl, rfl, by decide +kernel, rfl, by decide +kernel, by decide +kernel⟩
theorem ok_law_send : okSs ⟨n_law_send, (defScope st_law_send).names, tb.tab, 1, true⟩ b_law_send (defBody st_law_send) = true := by decide +kernel
abbrev st_law_take : Stmt := topS 10
theorem sc_law_take : FnScope n_law_take ["_law_net", "_law_bag", "_law_index"] (defScope st_law_take) := ⟨rfl, rfl, rfl, by decide +kernel, rfl, by decide +kernel, by decide +kernel⟩
theorem ok_law_take : okSs ⟨n_law_take, (defScope st_law_take).names, tb.tab, 2, true⟩ b_law_take (defBody st_law_take) = true := by decide +kernel
abbrev st_law_deliver : Stmt := topS 11
theorem sc_law_deliver : FnScope n_law_deliver ["_law_outs", "_law_ends", "_law_taken", "_law_acked", "_law_net", "_law_bag", "_law_index"] (defScope st_law_deliver) := ⟨rfl, rfl, rfl, by decide +kernel, rfl, by decide +kernel, by decide +kernel⟩
theorem ok_law_deliver : okSs ⟨n_law_deliver, (defScope st_law_deliver).names, tb.tab, 3, true⟩ b_law_deliver (defBody st_law_deliver) = true := by decide +kernel
abbrev st_law_holds : Stmt := topS 12
theorem sc_law_holds : FnScope n_law_holds ["_law_outs", "_law_ends", "_law_puts", "_law_taken", "_law_acked", "_law_keys"] (defScope st_law_holds) := ⟨rfl, rfl, rfl, by decide +kernel, rfl, by decide +kernel, by decide +kernel⟩
theorem ok_law_holds : okSs ⟨n_law_holds, (defScope st_law_holds).names, tb.tab, 2, true⟩ b_law_holds (defBody st_law_holds) = true := by decide +kernel
abbrev st_law_put : Stmt := topS 13
theorem sc_law_put : FnScope n_law_put ["_law_out", "_law_put_here", "_law_part"] (defScope st_law_put) := ⟨rfl, rfl, rfl, by decide +kernel, rfl, by decide +kernel, by decide +kernel⟩
theorem ok_law_put : okSs ⟨n_law_put, (defScope st_law_put).names, tb.tab, 1, true⟩ b_law_put (defBody st_law_put) = true := by decide +kernel
abbrev st_law_ends_well : Stmt := topS 14
theorem sc_law_ends_well : FnScope n_law_ends_well ["_law_outs", "_law_ends", "_law_puts", "_law_taken", "_law_acked", "_law_keys", "_law_net", "_law_bag"] (defScope st_law_ends_well) := ⟨rfl, rfl, rfl, by decide +kernel, rfl, by decide +kernel, by decide +kernel⟩
theorem ok_law_ends_well : okSs ⟨n_law_ends_well, (defScope st_law_ends_well).names, tb.tab, 4, true⟩ b_law_ends_well (defBody st_law_ends_well) = true := by decide +kernel
abbrev st_law : Stmt := topS 15
theorem sc_law : FnScope n_law ["_law_script"] (defScope st_law) := ⟨rfl, rfl, rfl, by decide +kernel, rfl, by decide +kernel, by decide +kernel⟩
theorem ok_law : okSs ⟨n_law, (defScope st_law).names, tb.tab, 5, true⟩ b_law (defBody st_law) = true := by decide +kernel
theorem all_mk {l : PySem.W.OpenLaw} {w : World} {K : PySem.W.Frag} {h : Heap} {mg : Str → Option Value} {fa C0 C1 C2 E0 E1 f0 f1 f2 f3 f4 f5 f6 f7 f8 f9 f10 f11 f12 f13 f14 f15 f16 f17 f18 f19 f20 f21 f22 f23 p1 p2 : Addr} {rr1 rr2 : List Value} (X : K.In h) (N : h.Ns mainGlobals mg) (hfa : mg "law" = some (.ref fa))
    {od0 an0 : Option Addr} {sl0 : Array (Option Value)} {oc0 kV0 dc0 pm0 cd0 ct0 : Value}
    {od1 an1 : Option Addr} {sl1 : Array (Option Value)} {oc1 kV1 dc1 pm1 cd1 ct1 : Value}
    {od2 an2 : Option Addr} {sl2 : Array (Option Value)} {oc2 kV2 dc2 pm2 cd2 ct2 : Value}
    {od3 an3 : Option Addr} {sl3 : Array (Option Value)} {oc3 kV3 dc3 pm3 cd3 ct3 : Value}
    {od4 an4 : Option Addr} {sl4 : Array (Option Value)} {oc4 kV4 dc4 pm4 cd4 ct4 : Value}
    {od5 an5 : Option Addr} {sl5 : Array (Option Value)} {oc5 kV5 dc5 pm5 cd5 ct5 : Value}
    {od6 an6 : Option Addr} {sl6 : Array (Option Value)} {oc6 kV6 dc6 pm6 cd6 ct6 : Value}
    {od7 an7 : Option Addr} {sl7 : Array (Option Value)} {oc7 kV7 dc7 pm7 cd7 ct7 : Value}
    {od8 an8 : Option Addr} {sl8 : Array (Option Value)} {oc8 kV8 dc8 pm8 cd8 ct8 : Value}
    {od9 an9 : Option Addr} {sl9 : Array (Option Value)} {oc9 kV9 dc9 pm9 cd9 ct9 : Value}
    {od10 an10 : Option Addr} {sl10 : Array (Option Value)} {oc10 kV10 dc10 pm10 cd10 ct10 : Value}
    {od11 an11 : Option Addr} {sl11 : Array (Option Value)} {oc11 kV11 dc11 pm11 cd11 ct11 : Value}
    {od12 an12 : Option Addr} {sl12 : Array (Option Value)} {oc12 kV12 dc12 pm12 cd12 ct12 : Value}
    {od13 an13 : Option Addr} {sl13 : Array (Option Value)} {oc13 kV13 dc13 pm13 cd13 ct13 : Value}
    {od14 an14 : Option Addr} {sl14 : Array (Option Value)} {oc14 kV14 dc14 pm14 cd14 ct14 : Value}
    {od15 an15 : Option Addr} {sl15 : Array (Option Value)} {oc15 kV15 dc15 pm15 cd15 ct15 : Value}
    {od16 an16 : Option Addr} {sl16 : Array (Option Value)} {oc16 kV16 dc16 pm16 cd16 ct16 : Value}
    {od17 an17 : Option Addr} {sl17 : Array (Option Value)} {oc17 kV17 dc17 pm17 cd17 ct17 : Value}
    {od18 an18 : Option Addr} {sl18 : Array (Option Value)} {oc18 kV18 dc18 pm18 cd18 ct18 : Value}
    {od19 an19 : Option Addr} {sl19 : Array (Option Value)} {oc19 kV19 dc19 pm19 cd19 ct19 : Value}
    {od20 an20 : Option Addr} {sl20 : Array (Option Value)} {oc20 kV20 dc20 pm20 cd20 ct20 : Value}
    {od21 an21 : Option Addr} {sl21 : Array (Option Value)} {oc21 kV21 dc21 pm21 cd21 ct21 : Value}
    {od22 an22 : Option Addr} {sl22 : Array (Option Value)} {oc22 kV22 dc22 pm22 cd22 ct22 : Value}
    {od23 an23 : Option Addr} {sl23 : Array (Option Value)} {oc23 kV23 dc23 pm23 cd23 ct23 : Value}
    (aC0 : PySem.W.nsIn K mainGlobals "Outgoing" = some (some (.ref C0)))
    (aC1 : PySem.W.nsIn K mainGlobals "Incoming" = some (some (.ref C1)))
    (aC2 : PySem.W.nsIn K mainGlobals "Network" = some (some (.ref C2)))
    (aE0 : PySem.W.nsIn K mainGlobals "FarheapError" = some (some (.ref E0)))
    (aE1 : PySem.W.nsIn K mainGlobals "Unknown" = some (some (.ref E1)))
    (a0 : PySem.W.findIn K (.ref C0) "__init__" = some (some (.ref f0)))
    (i0 : PySem.W.isFn K (.ref f0) = true)
    (l0 : K.lookup f0 = some ⟨oc0, od0, .func (PySem.W.fnOf "__init__" "Outgoing.__init__" (defArgs st_Outgoing_init) (defBody st_Outgoing_init) (defScope st_Outgoing_init) .none kV0 dc0 pm0 an0 cd0 ct0), sl0⟩)
    (c0 : PySem.W.codeIn K cd0 "Outgoing.__init__" = true)
    (k0 : PySem.W.keepIn K (.ref f0) = true)
    (a1 : PySem.W.findIn K (.ref C0) "acknowledged" = some (some (.ref p1)))
    (g1 : PySem.W.specialIn K (.ref p1) "__get__" = some (some (.builtin "property.__get__")))
    (t1 : PySem.W.takesIn K (.ref p1) = some true)
    (r1 : PySem.W.recIn K p1 "property" = some (.ref f1 :: rr1))
    (l1 : K.lookup f1 = some ⟨oc1, od1, .func (PySem.W.fnOf "acknowledged" "Outgoing.acknowledged" (defArgs st_Outgoing_acknowledged) (defBody st_Outgoing_acknowledged) (defScope st_Outgoing_acknowledged) .none kV1 dc1 pm1 an1 cd1 ct1), sl1⟩)
    (c1 : PySem.W.codeIn K cd1 "Outgoing.acknowledged" = true)
    (k1 : PySem.W.keepIn K (.ref f1) = true)
    (a2 : PySem.W.findIn K (.ref C0) "put_count" = some (some (.ref p2)))
    (g2 : PySem.W.specialIn K (.ref p2) "__get__" = some (some (.builtin "property.__get__")))
    (t2 : PySem.W.takesIn K (.ref p2) = some true)
    (r2 : PySem.W.recIn K p2 "property" = some (.ref f2 :: rr2))
    (l2 : K.lookup f2 = some ⟨oc2, od2, .func (PySem.W.fnOf "put_count" "Outgoing.put_count" (defArgs st_Outgoing_put_count) (defBody st_Outgoing_put_count) (defScope st_Outgoing_put_count) .none kV2 dc2 pm2 an2 cd2 ct2), sl2⟩)
    (c2 : PySem.W.codeIn K cd2 "Outgoing.put_count" = true)
    (k2 : PySem.W.keepIn K (.ref f2) = true)
    (a3 : PySem.W.findIn K (.ref C0) "put" = some (some (.ref f3)))
    (i3 : PySem.W.isFn K (.ref f3) = true)
    (l3 : K.lookup f3 = some ⟨oc3, od3, .func (PySem.W.fnOf "put" "Outgoing.put" (defArgs st_Outgoing_put) (defBody st_Outgoing_put) (defScope st_Outgoing_put) .none kV3 dc3 pm3 an3 cd3 ct3), sl3⟩)
    (c3 : PySem.W.codeIn K cd3 "Outgoing.put" = true)
    (k3 : PySem.W.keepIn K (.ref f3) = true)
    (a4 : PySem.W.findIn K (.ref C0) "due" = some (some (.ref f4)))
    (i4 : PySem.W.isFn K (.ref f4) = true)
    (l4 : K.lookup f4 = some ⟨oc4, od4, .func (PySem.W.fnOf "due" "Outgoing.due" (defArgs st_Outgoing_due) (defBody st_Outgoing_due) (defScope st_Outgoing_due) .none kV4 dc4 pm4 an4 cd4 ct4), sl4⟩)
    (c4 : PySem.W.codeIn K cd4 "Outgoing.due" = true)
    (k4 : PySem.W.keepIn K (.ref f4) = true)
    (a5 : PySem.W.findIn K (.ref C0) "acknowledge" = some (some (.ref f5)))
    (i5 : PySem.W.isFn K (.ref f5) = true)
    (l5 : K.lookup f5 = some ⟨oc5, od5, .func (PySem.W.fnOf "acknowledge" "Outgoing.acknowledge" (defArgs st_Outgoing_acknowledge) (defBody st_Outgoing_acknowledge) (defScope st_Outgoing_acknowledge) .none kV5 dc5 pm5 an5 cd5 ct5), sl5⟩)
    (c5 : PySem.W.codeIn K cd5 "Outgoing.acknowledge" = true)
    (k5 : PySem.W.keepIn K (.ref f5) = true)
    (a6 : PySem.W.findIn K (.ref C1) "__init__" = some (some (.ref f6)))
    (i6 : PySem.W.isFn K (.ref f6) = true)
    (l6 : K.lookup f6 = some ⟨oc6, od6, .func (PySem.W.fnOf "__init__" "Incoming.__init__" (defArgs st_Incoming_init) (defBody st_Incoming_init) (defScope st_Incoming_init) .none kV6 dc6 pm6 an6 cd6 ct6), sl6⟩)
    (c6 : PySem.W.codeIn K cd6 "Incoming.__init__" = true)
    (k6 : PySem.W.keepIn K (.ref f6) = true)
    (a7 : PySem.W.findIn K (.ref C1) "accepts" = some (some (.ref f7)))
    (i7 : PySem.W.isFn K (.ref f7) = true)
    (l7 : K.lookup f7 = some ⟨oc7, od7, .func (PySem.W.fnOf "accepts" "Incoming.accepts" (defArgs st_Incoming_accepts) (defBody st_Incoming_accepts) (defScope st_Incoming_accepts) .none kV7 dc7 pm7 an7 cd7 ct7), sl7⟩)
    (c7 : PySem.W.codeIn K cd7 "Incoming.accepts" = true)
    (k7 : PySem.W.keepIn K (.ref f7) = true)
    (a8 : PySem.W.findIn K (.ref C1) "accept" = some (some (.ref f8)))
    (i8 : PySem.W.isFn K (.ref f8) = true)
    (l8 : K.lookup f8 = some ⟨oc8, od8, .func (PySem.W.fnOf "accept" "Incoming.accept" (defArgs st_Incoming_accept) (defBody st_Incoming_accept) (defScope st_Incoming_accept) .none kV8 dc8 pm8 an8 cd8 ct8), sl8⟩)
    (c8 : PySem.W.codeIn K cd8 "Incoming.accept" = true)
    (k8 : PySem.W.keepIn K (.ref f8) = true)
    (a9 : PySem.W.findIn K (.ref C2) "__init__" = some (some (.ref f9)))
    (i9 : PySem.W.isFn K (.ref f9) = true)
    (l9 : K.lookup f9 = some ⟨oc9, od9, .func (PySem.W.fnOf "__init__" "Network.__init__" (defArgs st_Network_init) (defBody st_Network_init) (defScope st_Network_init) .none kV9 dc9 pm9 an9 cd9 ct9), sl9⟩)
    (c9 : PySem.W.codeIn K cd9 "Network.__init__" = true)
    (k9 : PySem.W.keepIn K (.ref f9) = true)
    (a10 : PySem.W.findIn K (.ref C2) "__len__" = some (some (.ref f10)))
    (i10 : PySem.W.isFn K (.ref f10) = true)
    (l10 : K.lookup f10 = some ⟨oc10, od10, .func (PySem.W.fnOf "__len__" "Network.__len__" (defArgs st_Network___len__) (defBody st_Network___len__) (defScope st_Network___len__) .none kV10 dc10 pm10 an10 cd10 ct10), sl10⟩)
    (c10 : PySem.W.codeIn K cd10 "Network.__len__" = true)
    (k10 : PySem.W.keepIn K (.ref f10) = true)
    (a11 : PySem.W.findIn K (.ref C2) "_check" = some (some (.ref f11)))
    (i11 : PySem.W.isFn K (.ref f11) = true)
    (l11 : K.lookup f11 = some ⟨oc11, od11, .func (PySem.W.fnOf "_check" "Network._check" (defArgs st_Network__check) (defBody st_Network__check) (defScope st_Network__check) .none kV11 dc11 pm11 an11 cd11 ct11), sl11⟩)
    (c11 : PySem.W.codeIn K cd11 "Network._check" = true)
    (k11 : PySem.W.keepIn K (.ref f11) = true)
    (a12 : PySem.W.findIn K (.ref C2) "post" = some (some (.ref f12)))
    (i12 : PySem.W.isFn K (.ref f12) = true)
    (l12 : K.lookup f12 = some ⟨oc12, od12, .func (PySem.W.fnOf "post" "Network.post" (defArgs st_Network_post) (defBody st_Network_post) (defScope st_Network_post) .none kV12 dc12 pm12 an12 cd12 ct12), sl12⟩)
    (c12 : PySem.W.codeIn K cd12 "Network.post" = true)
    (k12 : PySem.W.keepIn K (.ref f12) = true)
    (a13 : PySem.W.findIn K (.ref C2) "take_out" = some (some (.ref f13)))
    (i13 : PySem.W.isFn K (.ref f13) = true)
    (l13 : K.lookup f13 = some ⟨oc13, od13, .func (PySem.W.fnOf "take_out" "Network.take_out" (defArgs st_Network_take_out) (defBody st_Network_take_out) (defScope st_Network_take_out) .none kV13 dc13 pm13 an13 cd13 ct13), sl13⟩)
    (c13 : PySem.W.codeIn K cd13 "Network.take_out" = true)
    (k13 : PySem.W.keepIn K (.ref f13) = true)
    (a14 : PySem.W.findIn K (.ref C2) "repeat" = some (some (.ref f14)))
    (i14 : PySem.W.isFn K (.ref f14) = true)
    (l14 : K.lookup f14 = some ⟨oc14, od14, .func (PySem.W.fnOf "repeat" "Network.repeat" (defArgs st_Network_repeat) (defBody st_Network_repeat) (defScope st_Network_repeat) .none kV14 dc14 pm14 an14 cd14 ct14), sl14⟩)
    (c14 : PySem.W.codeIn K cd14 "Network.repeat" = true)
    (k14 : PySem.W.keepIn K (.ref f14) = true)
    (a15 : PySem.W.findIn K (.ref C2) "packets" = some (some (.ref f15)))
    (i15 : PySem.W.isFn K (.ref f15) = true)
    (l15 : K.lookup f15 = some ⟨oc15, od15, .func (PySem.W.fnOf "packets" "Network.packets" (defArgs st_Network_packets) (defBody st_Network_packets) (defScope st_Network_packets) .none kV15 dc15 pm15 an15 cd15 ct15), sl15⟩)
    (c15 : PySem.W.codeIn K cd15 "Network.packets" = true)
    (k15 : PySem.W.keepIn K (.ref f15) = true)
    (a16 : PySem.W.nsIn K mainGlobals "_law_number" = some (some (.ref f16)))
    (l16 : K.lookup f16 = some ⟨oc16, od16, .func (PySem.W.fnOf "_law_number" "_law_number" (defArgs st_law_number) (defBody st_law_number) (defScope st_law_number) .none kV16 dc16 pm16 an16 cd16 ct16), sl16⟩)
    (c16 : PySem.W.codeIn K cd16 "_law_number" = true)
    (k16 : PySem.W.keepIn K (.ref f16) = true)
    (a17 : PySem.W.nsIn K mainGlobals "_law_send" = some (some (.ref f17)))
    (l17 : K.lookup f17 = some ⟨oc17, od17, .func (PySem.W.fnOf "_law_send" "_law_send" (defArgs st_law_send) (defBody st_law_send) (defScope st_law_send) .none kV17 dc17 pm17 an17 cd17 ct17), sl17⟩)
    (c17 : PySem.W.codeIn K cd17 "_law_send" = true)
    (k17 : PySem.W.keepIn K (.ref f17) = true)
    (a18 : PySem.W.nsIn K mainGlobals "_law_take" = some (some (.ref f18)))
    (l18 : K.lookup f18 = some ⟨oc18, od18, .func (PySem.W.fnOf "_law_take" "_law_take" (defArgs st_law_take) (defBody st_law_take) (defScope st_law_take) .none kV18 dc18 pm18 an18 cd18 ct18), sl18⟩)
    (c18 : PySem.W.codeIn K cd18 "_law_take" = true)
    (k18 : PySem.W.keepIn K (.ref f18) = true)
    (a19 : PySem.W.nsIn K mainGlobals "_law_deliver" = some (some (.ref f19)))
    (l19 : K.lookup f19 = some ⟨oc19, od19, .func (PySem.W.fnOf "_law_deliver" "_law_deliver" (defArgs st_law_deliver) (defBody st_law_deliver) (defScope st_law_deliver) .none kV19 dc19 pm19 an19 cd19 ct19), sl19⟩)
    (c19 : PySem.W.codeIn K cd19 "_law_deliver" = true)
    (k19 : PySem.W.keepIn K (.ref f19) = true)
    (a20 : PySem.W.nsIn K mainGlobals "_law_holds" = some (some (.ref f20)))
    (l20 : K.lookup f20 = some ⟨oc20, od20, .func (PySem.W.fnOf "_law_holds" "_law_holds" (defArgs st_law_holds) (defBody st_law_holds) (defScope st_law_holds) .none kV20 dc20 pm20 an20 cd20 ct20), sl20⟩)
    (c20 : PySem.W.codeIn K cd20 "_law_holds" = true)
    (k20 : PySem.W.keepIn K (.ref f20) = true)
    (a21 : PySem.W.nsIn K mainGlobals "_law_put" = some (some (.ref f21)))
    (l21 : K.lookup f21 = some ⟨oc21, od21, .func (PySem.W.fnOf "_law_put" "_law_put" (defArgs st_law_put) (defBody st_law_put) (defScope st_law_put) .none kV21 dc21 pm21 an21 cd21 ct21), sl21⟩)
    (c21 : PySem.W.codeIn K cd21 "_law_put" = true)
    (k21 : PySem.W.keepIn K (.ref f21) = true)
    (a22 : PySem.W.nsIn K mainGlobals "_law_ends_well" = some (some (.ref f22)))
    (l22 : K.lookup f22 = some ⟨oc22, od22, .func (PySem.W.fnOf "_law_ends_well" "_law_ends_well" (defArgs st_law_ends_well) (defBody st_law_ends_well) (defScope st_law_ends_well) .none kV22 dc22 pm22 an22 cd22 ct22), sl22⟩)
    (c22 : PySem.W.codeIn K cd22 "_law_ends_well" = true)
    (k22 : PySem.W.keepIn K (.ref f22) = true)
    (a23 : PySem.W.nsIn K mainGlobals "law" = some (some (.ref f23)))
    (l23 : K.lookup f23 = some ⟨oc23, od23, .func (PySem.W.fnOf "law" "law" (defArgs st_law) (defBody st_law) (defScope st_law) .none kV23 dc23 pm23 an23 cd23 ct23), sl23⟩)
    (c23 : PySem.W.codeIn K cd23 "law" = true)
    (k23 : PySem.W.keepIn K (.ref f23) = true)
    (pgC0 : PySem.W.plainGet K C0 Str.empty = true)
    (hdC0 : PySem.W.hasDictIn K C0 = true)
    (poC0 : PySem.W.plainOver K C0 = true)
    (saC0 : PySem.W.findIn K (.ref C0) "__setattr__" = some (some (.builtin "object.__setattr__")))
    (mkC0 : PySem.W.makesIn K C0 = true)
    (kcC0 : PySem.W.keepIn K (.ref C0) = true)
    (nC0_0 : PySem.W.findIn K (.ref C0) "_acknowledged" = some none)
    (nC0_1 : PySem.W.findIn K (.ref C0) "_waiting" = some none)
    (pgC1 : PySem.W.plainGet K C1 Str.empty = true)
    (hdC1 : PySem.W.hasDictIn K C1 = true)
    (poC1 : PySem.W.plainOver K C1 = true)
    (saC1 : PySem.W.findIn K (.ref C1) "__setattr__" = some (some (.builtin "object.__setattr__")))
    (mkC1 : PySem.W.makesIn K C1 = true)
    (kcC1 : PySem.W.keepIn K (.ref C1) = true)
    (nC1_0 : PySem.W.findIn K (.ref C1) "count" = some none)
    (pgC2 : PySem.W.plainGet K C2 Str.empty = true)
    (hdC2 : PySem.W.hasDictIn K C2 = true)
    (poC2 : PySem.W.plainOver K C2 = true)
    (saC2 : PySem.W.findIn K (.ref C2) "__setattr__" = some (some (.builtin "object.__setattr__")))
    (mkC2 : PySem.W.makesIn K C2 = true)
    (kcC2 : PySem.W.keepIn K (.ref C2) = true)
    (nC2_0 : PySem.W.findIn K (.ref C2) "_packets" = some none)
    (exE0 : PySem.W.excIn K E0 PySem.HandSPX.veTail "ValueError.__new__" = true)
    (ekE0 : PySem.W.keepIn K (.ref E0) = true)
    (esE0 : PySem.W.subIn K (.ref E0) (.type "BaseException") = some true)
    (etE0 : PySem.W.typeIn K (.ref E0) = some (.type "type"))
    (exE1 : PySem.W.excIn K E1 PySem.HandSPX.veTail "ValueError.__new__" = true)
    (ekE1 : PySem.W.keepIn K (.ref E1) = true)
    (esE1 : PySem.W.subIn K (.ref E1) (.type "BaseException") = some true)
    (etE1 : PySem.W.typeIn K (.ref E1) = some (.type "type"))
    (z0 : PySem.W.nsIn K mainGlobals "enumerate" = some none)
    (z1 : PySem.W.nsIn K mainGlobals "int" = some none)
    (z2 : PySem.W.nsIn K mainGlobals "isinstance" = some none)
    (z3 : PySem.W.nsIn K mainGlobals "len" = some none)
    (z4 : PySem.W.nsIn K mainGlobals "list" = some none)
    (z5 : PySem.W.nsIn K mainGlobals "max" = some none)
    (z6 : PySem.W.nsIn K mainGlobals "range" = some none)
    (z7 : PySem.W.nsIn K mainGlobals "tuple" = some none)
    (neC1C0 : C1 ≠ C0)
    (neC2C0 : C2 ≠ C0)
    (neC2C1 : C2 ≠ C1)
    : ∃ fd : FuncData, (∀ (s : Shared) (v : Value), BindsTo s fd ⟨[v], []⟩ [("_law_script", v)]) ∧ ∀ base : Heap, K.In base → base.Ns mainGlobals mg → FnOk l.prog w K mg base (L2.CX l.prog w) 6 fa fd ["_law_script"] (liftSp K 1 spLaw) := by
  have e := hfa.symm.trans (PySem.W.mg_of X N a23)
  cases e
  have F0 := fun_mk (st := st_Outgoing_init) l0 c0 k0
  have b0 := F0.binds (ps := ["self"]) fun _ _ _ _ _ _ us hl => match us, hl with | [_], _ => rfl
  have F1 := fun_mk (st := st_Outgoing_acknowledged) l1 c1 k1
  have b1 := F1.binds (ps := ["self"]) fun _ _ _ _ _ _ us hl => match us, hl with | [_], _ => rfl
  have F2 := fun_mk (st := st_Outgoing_put_count) l2 c2 k2
  have b2 := F2.binds (ps := ["self"]) fun _ _ _ _ _ _ us hl => match us, hl with | [_], _ => rfl
  have F3 := fun_mk (st := st_Outgoing_put) l3 c3 k3
  have b3 := F3.binds (ps := ["self", "letter"]) fun _ _ _ _ _ _ us hl => match us, hl with | [_, _], _ => rfl
  have F4 := fun_mk (st := st_Outgoing_due) l4 c4 k4
  have b4 := F4.binds (ps := ["self"]) fun _ _ _ _ _ _ us hl => match us, hl with | [_], _ => rfl
  have F5 := fun_mk (st := st_Outgoing_acknowledge) l5 c5 k5
  have b5 := F5.binds (ps := ["self", "number"]) fun _ _ _ _ _ _ us hl => match us, hl with | [_, _], _ => rfl
  have F6 := fun_mk (st := st_Incoming_init) l6 c6 k6
  have b6 := F6.binds (ps := ["self"]) fun _ _ _ _ _ _ us hl => match us, hl with | [_], _ => rfl
  have F7 := fun_mk (st := st_Incoming_accepts) l7 c7 k7
  have b7 := F7.binds (ps := ["self", "number"]) fun _ _ _ _ _ _ us hl => match us, hl with | [_, _], _ => rfl
  have F8 := fun_mk (st := st_Incoming_accept) l8 c8 k8
  have b8 := F8.binds (ps := ["self"]) fun _ _ _ _ _ _ us hl => match us, hl with | [_], _ => rfl
  have F9 := fun_mk (st := st_Network_init) l9 c9 k9
  have b9 := F9.binds (ps := ["self"]) fun _ _ _ _ _ _ us hl => match us, hl with | [_], _ => rfl
  have F10 := fun_mk (st := st_Network___len__) l10 c10 k10
  have b10 := F10.binds (ps := ["self"]) fun _ _ _ _ _ _ us hl => match us, hl with | [_], _ => rfl
  have F11 := fun_mk (st := st_Network__check) l11 c11 k11
  have b11 := F11.binds (ps := ["self", "index"]) fun _ _ _ _ _ _ us hl => match us, hl with | [_, _], _ => rfl
  have F12 := fun_mk (st := st_Network_post) l12 c12 k12
  have b12 := F12.binds (ps := ["self", "packet"]) fun _ _ _ _ _ _ us hl => match us, hl with | [_, _], _ => rfl
  have F13 := fun_mk (st := st_Network_take_out) l13 c13 k13
  have b13 := F13.binds (ps := ["self", "index"]) fun _ _ _ _ _ _ us hl => match us, hl with | [_, _], _ => rfl
  have F14 := fun_mk (st := st_Network_repeat) l14 c14 k14
  have b14 := F14.binds (ps := ["self", "index"]) fun _ _ _ _ _ _ us hl => match us, hl with | [_, _], _ => rfl
  have F15 := fun_mk (st := st_Network_packets) l15 c15 k15
  have b15 := F15.binds (ps := ["self"]) fun _ _ _ _ _ _ us hl => match us, hl with | [_], _ => rfl
  have F16 := fun_mk (st := st_law_number) l16 c16 k16
  have b16 := F16.binds (ps := ["_law_cell", "_law_k"]) fun _ _ _ _ _ _ us hl => match us, hl with | [_, _], _ => rfl
  have F17 := fun_mk (st := st_law_send) l17 c17 k17
  have b17 := F17.binds (ps := ["_law_outs", "_law_puts", "_law_acked", "_law_net", "_law_bag", "_law_source"]) fun _ _ _ _ _ _ us hl => match us, hl with | [_, _, _, _, _, _], _ => rfl
  have F18 := fun_mk (st := st_law_take) l18 c18 k18
  have b18 := F18.binds (ps := ["_law_net", "_law_bag", "_law_index"]) fun _ _ _ _ _ _ us hl => match us, hl with | [_, _, _], _ => rfl
  have F19 := fun_mk (st := st_law_deliver) l19 c19 k19
  have b19 := F19.binds (ps := ["_law_outs", "_law_ends", "_law_taken", "_law_acked", "_law_net", "_law_bag", "_law_index"]) fun _ _ _ _ _ _ us hl => match us, hl with | [_, _, _, _, _, _, _], _ => rfl
  have F20 := fun_mk (st := st_law_holds) l20 c20 k20
  have b20 := F20.binds (ps := ["_law_outs", "_law_ends", "_law_puts", "_law_taken", "_law_acked", "_law_keys"]) fun _ _ _ _ _ _ us hl => match us, hl with | [_, _, _, _, _, _], _ => rfl
  have F21 := fun_mk (st := st_law_put) l21 c21 k21
  have b21 := F21.binds (ps := ["_law_out", "_law_put_here", "_law_part"]) fun _ _ _ _ _ _ us hl => match us, hl with | [_, _, _], _ => rfl
  have F22 := fun_mk (st := st_law_ends_well) l22 c22 k22
  have b22 := F22.binds (ps := ["_law_outs", "_law_ends", "_law_puts", "_law_taken", "_law_acked", "_law_keys", "_law_net", "_law_bag"]) fun _ _ _ _ _ _ us hl => match us, hl with | [_, _, _, _, _, _, _, _], _ => rfl
  have F23 := fun_mk (st := st_law) l23 c23 k23
  have b23 := F23.binds (ps := ["_law_script"]) fun _ _ _ _ _ _ us hl => match us, hl with | [_], _ => rfl
  have clC0 : Cls K C0 := ⟨pgC0, hdC0, poC0, saC0⟩
  have clC1 : Cls K C1 := ⟨pgC1, hdC1, poC1, saC1⟩
  have clC2 : Cls K C2 := ⟨pgC2, hdC2, poC2, saC2⟩
  have hp : ∀ C f sp, (gl C0 C1 C2 E0 E1).prop C f = some sp → (tb.tab.prop f).isSome = true := by
    intro C f sp e
    have e1 := pick_mem e
    simp only [List.mem_cons, List.not_mem_nil, or_false] at e1
    rcases e1 with e1 | e1
    · cases e1; rfl
    · cases e1; rfl
  refine ⟨PySem.W.fnOf "law" "law" (defArgs st_law) (defBody st_law) (defScope st_law) .none kV23 dc23 pm23 an23 cd23 ct23, fun s v => .of_eq rfl, fun base B1 B2 => ?_⟩
  have g : ∀ k, GOk (gl C0 C1 C2 E0 E1) tb.tab k l.prog w K mg base := by
    refine gok_of ?_ ?_ ?_ ?_ ?_ ?_ ?_ ?_
    · intro x lv n e
      have e1 := lookup_all e
      simp only [tb] at e1
      simp only [List.mem_cons, List.not_mem_nil, or_false] at e1
      rcases e1 with e1 | e1 | e1 | e1 | e1 | e1 | e1 | e1
      · cases e1; exact ⟨_, _, rfl, PySem.W.mg_of X N a16, k16, by decide, fun g => fn_at (ps := ["_law_cell", "_law_k"]) F16 sc_law_number b16 g hp ok_law_number (by apply k_num <;> walk_at "side")⟩
      · cases e1; exact ⟨_, _, rfl, PySem.W.mg_of X N a17, k17, by decide, fun g => fn_at (ps := ["_law_outs", "_law_puts", "_law_acked", "_law_net", "_law_bag", "_law_source"]) F17 sc_law_send b17 g hp ok_law_send (by apply k_send <;> walk_at "side")⟩
      · cases e1; exact ⟨_, _, rfl, PySem.W.mg_of X N a18, k18, by decide, fun g => fn_at (ps := ["_law_net", "_law_bag", "_law_index"]) F18 sc_law_take b18 g hp ok_law_take (by apply k_take_ <;> walk_at "side")⟩
      · cases e1; exact ⟨_, _, rfl, PySem.W.mg_of X N a19, k19, by decide, fun g => fn_at (ps := ["_law_outs", "_law_ends", "_law_taken", "_law_acked", "_law_net", "_law_bag", "_law_index"]) F19 sc_law_deliver b19 g hp ok_law_deliver (by apply k_deliver <;> walk_at "side")⟩
      · cases e1; exact ⟨_, _, rfl, PySem.W.mg_of X N a20, k20, by decide, fun g => fn_at (ps := ["_law_outs", "_law_ends", "_law_puts", "_law_taken", "_law_acked", "_law_keys"]) F20 sc_law_holds b20 g hp ok_law_holds (by apply k_holds <;> walk_at "side")⟩
      · cases e1; exact ⟨_, _, rfl, PySem.W.mg_of X N a21, k21, by decide, fun g => fn_at (ps := ["_law_out", "_law_put_here", "_law_part"]) F21 sc_law_put b21 g hp ok_law_put (by apply k_put_ <;> walk_at "side")⟩
      · cases e1; exact ⟨_, _, rfl, PySem.W.mg_of X N a22, k22, by decide, fun g => fn_at (ps := ["_law_outs", "_law_ends", "_law_puts", "_law_taken", "_law_acked", "_law_keys", "_law_net", "_law_bag"]) F22 sc_law_ends_well b22 g hp ok_law_ends_well (by apply k_ends <;> walk_at "side")⟩
      · cases e1; exact ⟨_, _, rfl, PySem.W.mg_of X N a23, k23, by decide, fun g => fn_at (ps := ["_law_script"]) F23 sc_law b23 g hp ok_law (by apply (k_law (CO := C0) (CI := C1) (CN := C2)) <;> walk_at "side")⟩
    · intro x lv n e
      have e1 := lookup_all e
      simp only [tb] at e1
      simp only [List.mem_cons, List.not_mem_nil, or_false] at e1
      rcases e1 with e1 | e1 | e1
      · cases e1; exact ⟨_, _, _, rfl, PySem.W.mg_of X N aC0, ⟨mkC0, a0, i0, kcC0⟩, by decide, fun g => fn_at (ps := ["self"]) F0 sc_Outgoing_init b0 g hp ok_Outgoing_init (by apply k_init <;> walk_at "side")⟩
      · cases e1; exact ⟨_, _, _, rfl, PySem.W.mg_of X N aC1, ⟨mkC1, a6, i6, kcC1⟩, by decide, fun g => fn_at (ps := ["self"]) F6 sc_Incoming_init b6 g hp ok_Incoming_init (by apply k_ini <;> walk_at "side")⟩
      · cases e1; exact ⟨_, _, _, rfl, PySem.W.mg_of X N aC2, ⟨mkC2, a9, i9, kcC2⟩, by decide, fun g => fn_at (ps := ["self"]) F9 sc_Network_init b9 g hp ok_Network_init (by apply k_ninit <;> walk_at "side")⟩
    · intro C m sp lv n e e2
      have e1 := pick_mem e
      simp only [List.mem_cons, List.not_mem_nil, or_false] at e1
      rcases e1 with e1 | e1 | e1 | e1 | e1 | e1 | e1 | e1 | e1 | e1 | e1
      · cases e1; cases (show some _ = some _ from e2); exact ⟨_, 1, by decide, clC0, ⟨a3, i3, k3⟩, by decide, fun g => fn_at (ps := ["self", "letter"]) F3 sc_Outgoing_put b3 g hp ok_Outgoing_put (by apply k_put <;> walk_at "side")⟩
      · cases e1; cases (show some _ = some _ from e2); exact ⟨_, 1, by decide, clC0, ⟨a4, i4, k4⟩, by decide, fun g => fn_at (ps := ["self"]) F4 sc_Outgoing_due b4 g hp ok_Outgoing_due (by apply k_due <;> walk_at "side")⟩
      · cases e1; cases (show some _ = some _ from e2); exact ⟨_, 1, by decide, clC0, ⟨a5, i5, k5⟩, by decide, fun g => fn_at (ps := ["self", "number"]) F5 sc_Outgoing_acknowledge b5 g hp ok_Outgoing_acknowledge (by apply k_acknowledge <;> walk_at "side")⟩
      · cases e1; cases (show some _ = some _ from e2); exact ⟨_, 1, by decide, clC1, ⟨a7, i7, k7⟩, by decide, fun g => fn_at (ps := ["self", "number"]) F7 sc_Incoming_accepts b7 g hp ok_Incoming_accepts (by apply k_accepts <;> walk_at "side")⟩
      · cases e1; cases (show some _ = some _ from e2); exact ⟨_, 1, by decide, clC1, ⟨a8, i8, k8⟩, by decide, fun g => fn_at (ps := ["self"]) F8 sc_Incoming_accept b8 g hp ok_Incoming_accept (by apply k_accept <;> walk_at "side")⟩
      · cases e1; cases (show some _ = some _ from e2); exact ⟨_, 1, by decide, clC2, ⟨a10, i10, k10⟩, by decide, fun g => fn_at (ps := ["self"]) F10 sc_Network___len__ b10 g hp ok_Network___len__ (by apply k_nlen <;> walk_at "side")⟩
      · cases e1; cases (show some _ = some _ from e2); exact ⟨_, 1, by decide, clC2, ⟨a11, i11, k11⟩, by decide, fun g => fn_at (ps := ["self", "index"]) F11 sc_Network__check b11 g hp ok_Network__check (by apply k_check <;> walk_at "side")⟩
      · cases e1; cases (show some _ = some _ from e2); exact ⟨_, 1, by decide, clC2, ⟨a12, i12, k12⟩, by decide, fun g => fn_at (ps := ["self", "packet"]) F12 sc_Network_post b12 g hp ok_Network_post (by apply k_post <;> walk_at "side")⟩
      · cases e1; cases (show some _ = some _ from e2); exact ⟨_, 2, by decide, clC2, ⟨a13, i13, k13⟩, by decide, fun g => fn_at (ps := ["self", "index"]) F13 sc_Network_take_out b13 g hp ok_Network_take_out (by apply k_take <;> walk_at "side")⟩
      · cases e1; cases (show some _ = some _ from e2); exact ⟨_, 2, by decide, clC2, ⟨a14, i14, k14⟩, by decide, fun g => fn_at (ps := ["self", "index"]) F14 sc_Network_repeat b14 g hp ok_Network_repeat (by apply k_repeat <;> walk_at "side")⟩
      · cases e1; cases (show some _ = some _ from e2); exact ⟨_, 1, by decide, clC2, ⟨a15, i15, k15⟩, by decide, fun g => fn_at (ps := ["self"]) F15 sc_Network_packets b15 g hp ok_Network_packets (by apply k_packets <;> walk_at "side")⟩
    · intro C m sp lv e e2
      have e1 := pick_mem e
      simp only [List.mem_cons, List.not_mem_nil, or_false] at e1
      rcases e1 with e1 | e1
      · cases e1; cases (show some _ = some _ from e2); exact ⟨_, _, 1, by decide, clC0, ⟨a1, g1, t1, _, r1⟩, by decide, fun g => fn_at (ps := ["self"]) F1 sc_Outgoing_acknowledged b1 g hp ok_Outgoing_acknowledged (by apply k_ack <;> walk_at "side")⟩
      · cases e1; cases (show some _ = some _ from e2); exact ⟨_, _, 1, by decide, clC0, ⟨a2, g2, t2, _, r2⟩, by decide, fun g => fn_at (ps := ["self"]) F2 sc_Outgoing_put_count b2 g hp ok_Outgoing_put_count (by apply k_count <;> walk_at "side")⟩
    · intro C m e
      obtain ⟨u, e⟩ := Option.isSome_iff_exists.mp e
      have e1 := pick_mem e
      simp only [List.mem_cons, List.not_mem_nil, or_false] at e1
      rcases e1 with e1 | e1 | e1 | e1
      · cases e1; exact ⟨clC0, nC0_0⟩
      · cases e1; exact ⟨clC0, nC0_1⟩
      · cases e1; exact ⟨clC1, nC1_0⟩
      · cases e1; exact ⟨clC2, nC2_0⟩
    · intro x v e
      have e1 := lookup_all e
      simp only [List.mem_cons, List.not_mem_nil, or_false] at e1
      try exact e1.elim
    · intro x e
      have e1 : x ∈ (["enumerate", "int", "isinstance", "len", "list", "max", "range", "tuple"] : List Str) := by
        obtain ⟨y, h1, h2⟩ := List.any_eq_true.mp e
        rw [← of_decide_eq_true h2]
        exact h1
      simp only [List.mem_cons, List.not_mem_nil, or_false] at e1
      rcases e1 with e1 | e1 | e1 | e1 | e1 | e1 | e1 | e1
      · cases e1; exact PySem.W.mg_none_of X N z0
      · cases e1; exact PySem.W.mg_none_of X N z1
      · cases e1; exact PySem.W.mg_none_of X N z2
      · cases e1; exact PySem.W.mg_none_of X N z3
      · cases e1; exact PySem.W.mg_none_of X N z4
      · cases e1; exact PySem.W.mg_none_of X N z5
      · cases e1; exact PySem.W.mg_none_of X N z6
      · cases e1; exact PySem.W.mg_none_of X N z7
    · intro x C e
      have e1 := lookup_all e
      simp only [List.mem_cons, List.not_mem_nil, or_false] at e1
      rcases e1 with e1 | e1
      · cases e1; exact ⟨PySem.W.mg_of X N aE0, exE0, ekE0, esE0, etE0, etE0⟩
      · cases e1; exact ⟨PySem.W.mg_of X N aE1, exE1, ekE1, esE1, etE1, etE1⟩
  exact fn_ok (ps := ["_law_script"]) F23 sc_law (g 5) hp ok_law (by apply (k_law (CO := C0) (CI := C1) (CN := C2)) <;> walk_at "side")
end K04
open PySem PySem.W PyProof.Rows
set_option maxRecDepth 100000 in
set_option maxHeartbeats 0 in
theorem PySem.Challenge.cw_farheap_k04_whole_letters_once_in_order_holds : PySem.Challenge.rw_farheap_k04_whole_letters_once_in_order.Holds := by
  w_on; o_law; k_head; (case hw => w_witness2)
  k_fill
  refine LL.walk (l := PySem.Challenge.rw_farheap_k04_whole_letters_once_in_order) (k := 6) (x := "_law_script") (sp := K04.spLaw) rfl rfl ⟨rfl, by decide, by decide⟩ (fun w h Y => PySem.W.kIn_of Y) ?F K04.law_sp
  case F =>
    intro w mg fa h KX G hmg
    refine' K04.all_mk KX G hmg ?aC0 ?aC1 ?aC2 ?aE0 ?aE1 ?a0 ?i0 ?l0 ?c0 ?k0 ?a1 ?g1 ?t1 ?r1 ?l1 ?c1 ?k1 ?a2 ?g2 ?t2 ?r2 ?l2 ?c2 ?k2 ?a3 ?i3 ?l3 ?c3 ?k3 ?a4 ?i4 ?l4 ?c4 ?k4 ?a5 ?i5 ?l5 ?c5 ?k5 ?a6 ?i6 ?l6 ?c6 ?k6 ?a7 ?i7 ?l7 ?c7 ?k7 ?a8 ?i8 ?l8 ?c8 ?k8 ?a9 ?i9 ?l9 ?c9 ?k9 ?a10 ?i10 ?l10 ?c10 ?k10 ?a11 ?i11 ?l11 ?c11 ?k11 ?a12 ?i12 ?l12 ?c12 ?k12 ?a13 ?i13 ?l13 ?c13 ?k13 ?a14 ?i14 ?l14 ?c14 ?k14 ?a15 ?i15 ?l15 ?c15 ?k15 ?a16 ?l16 ?c16 ?k16 ?a17 ?l17 ?c17 ?k17 ?a18 ?l18 ?c18 ?k18 ?a19 ?l19 ?c19 ?k19 ?a20 ?l20 ?c20 ?k20 ?a21 ?l21 ?c21 ?k21 ?a22 ?l22 ?c22 ?k22 ?a23 ?l23 ?c23 ?k23 ?pgC0 ?hdC0 ?poC0 ?saC0 ?mkC0 ?kcC0 ?nC0_0 ?nC0_1 ?pgC1 ?hdC1 ?poC1 ?saC1 ?mkC1 ?kcC1 ?nC1_0 ?pgC2 ?hdC2 ?poC2 ?saC2 ?mkC2 ?kcC2 ?nC2_0 ?exE0 ?ekE0 ?esE0 ?etE0 ?exE1 ?ekE1 ?esE1 ?etE1 ?z0 ?z1 ?z2 ?z3 ?z4 ?z5 ?z6 ?z7 ?neC1C0 ?neC2C0 ?neC2C1
    (case aC0 => k_is)
    (case aC1 => k_is)
    (case aC2 => k_is)
    (case aE0 => k_is)
    (case aE1 => k_is)
    (case a0 => k_is)
    (case i0 => k_is)
    (case l0 => k_is)
    (case c0 => k_is)
    (case k0 => k_is)
    (case a1 => k_is)
    (case g1 => k_is)
    (case t1 => k_is)
    (case r1 => k_is)
    (case l1 => k_is)
    (case c1 => k_is)
    (case k1 => k_is)
    (case a2 => k_is)
    (case g2 => k_is)
    (case t2 => k_is)
    (case r2 => k_is)
    (case l2 => k_is)
    (case c2 => k_is)
    (case k2 => k_is)
    (case a3 => k_is)
    (case i3 => k_is)
    (case l3 => k_is)
    (case c3 => k_is)
    (case k3 => k_is)
    (case a4 => k_is)
    (case i4 => k_is)
    (case l4 => k_is)
    (case c4 => k_is)
    (case k4 => k_is)
    (case a5 => k_is)
    (case i5 => k_is)
    (case l5 => k_is)
    (case c5 => k_is)
    (case k5 => k_is)
    (case a6 => k_is)
    (case i6 => k_is)
    (case l6 => k_is)
    (case c6 => k_is)
    (case k6 => k_is)
    (case a7 => k_is)
    (case i7 => k_is)
    (case l7 => k_is)
    (case c7 => k_is)
    (case k7 => k_is)
    (case a8 => k_is)
    (case i8 => k_is)
    (case l8 => k_is)
    (case c8 => k_is)
    (case k8 => k_is)
    (case a9 => k_is)
    (case i9 => k_is)
    (case l9 => k_is)
    (case c9 => k_is)
    (case k9 => k_is)
    (case a10 => k_is)
    (case i10 => k_is)
    (case l10 => k_is)
    (case c10 => k_is)
    (case k10 => k_is)
    (case a11 => k_is)
    (case i11 => k_is)
    (case l11 => k_is)
    (case c11 => k_is)
    (case k11 => k_is)
    (case a12 => k_is)
    (case i12 => k_is)
    (case l12 => k_is)
    (case c12 => k_is)
    (case k12 => k_is)
    (case a13 => k_is)
    (case i13 => k_is)
    (case l13 => k_is)
    (case c13 => k_is)
    (case k13 => k_is)
    (case a14 => k_is)
    (case i14 => k_is)
    (case l14 => k_is)
    (case c14 => k_is)
    (case k14 => k_is)
    (case a15 => k_is)
    (case i15 => k_is)
    (case l15 => k_is)
    (case c15 => k_is)
    (case k15 => k_is)
    (case a16 => k_is)
    (case l16 => k_is)
    (case c16 => k_is)
    (case k16 => k_is)
    (case a17 => k_is)
    (case l17 => k_is)
    (case c17 => k_is)
    (case k17 => k_is)
    (case a18 => k_is)
    (case l18 => k_is)
    (case c18 => k_is)
    (case k18 => k_is)
    (case a19 => k_is)
    (case l19 => k_is)
    (case c19 => k_is)
    (case k19 => k_is)
    (case a20 => k_is)
    (case l20 => k_is)
    (case c20 => k_is)
    (case k20 => k_is)
    (case a21 => k_is)
    (case l21 => k_is)
    (case c21 => k_is)
    (case k21 => k_is)
    (case a22 => k_is)
    (case l22 => k_is)
    (case c22 => k_is)
    (case k22 => k_is)
    (case a23 => k_is)
    (case l23 => k_is)
    (case c23 => k_is)
    (case k23 => k_is)
    (case pgC0 => k_is)
    (case hdC0 => k_is)
    (case poC0 => k_is)
    (case saC0 => k_is)
    (case mkC0 => k_is)
    (case kcC0 => k_is)
    (case nC0_0 => k_is)
    (case nC0_1 => k_is)
    (case pgC1 => k_is)
    (case hdC1 => k_is)
    (case poC1 => k_is)
    (case saC1 => k_is)
    (case mkC1 => k_is)
    (case kcC1 => k_is)
    (case nC1_0 => k_is)
    (case pgC2 => k_is)
    (case hdC2 => k_is)
    (case poC2 => k_is)
    (case saC2 => k_is)
    (case mkC2 => k_is)
    (case kcC2 => k_is)
    (case nC2_0 => k_is)
    (case exE0 => (first | decide +kernel | (with_unfolding_all rfl)))
    (case ekE0 => k_is)
    (case esE0 => k_is)
    (case etE0 => k_is)
    (case exE1 => (first | decide +kernel | (with_unfolding_all rfl)))
    (case ekE1 => k_is)
    (case esE1 => k_is)
    (case etE1 => k_is)
    (case z0 => k_is)
    (case z1 => k_is)
    (case z2 => k_is)
    (case z3 => k_is)
    (case z4 => k_is)
    (case z5 => k_is)
    (case z6 => k_is)
    (case z7 => k_is)
    (case neC1C0 => decide)
    (case neC2C0 => decide)
    (case neC2C1 => decide)
#print axioms PySem.Challenge.cw_farheap_k04_whole_letters_once_in_order_holds
