import PyProof.Rows.All
import Wide.All
import OpenK.AllK
import Wide.FinOn
import KE.KStateDown
import PySem.Challenge.RW_toll_k36_whole_lines_laid_in
import HandS.Base
import HandS.Call
import HandS.List
import HandS.Comp
import HandS.Ends
import HandS.Dict
import HandS.Iter
import HandS.Text
import HandS.More
import HandS.Words
import HandS.WordsList
import HandS.WordsDict
import HandS.WordsExc
import HandS.Exc
import HandS.ExcOwn
import HandS.ExcIs
import HandS.TryOnly
import HandS.TryMany
import HandS.TryElse
import HandS.IsInst
import HandS.TupAny
import HandS.Wide
import HandS.CallSlots
import HandS.Deep
import HandS.Flow
import HandS.Style
import HandS.Defaults
import HandS.Head0
import HandS.Head1
import HandS.Head2
import HandS.HeadEnd
import HandS.HeadHook1
import HandS.HeadHook2
import HandS.Zip0
import HandS.Zip
import HandS.TupSets
import HandS.DeepEq
import HandS.DictComp
import PyProof.NeKinds
import PyProof.P3Eq
import KE.KMinKey
import KE.KDictWalk
import PyProof.Rows.SetFrom
import HandS.Rev
import KE.KEqDict
import KE.KDictPairs
import KE.KTupSum
set_option Elab.async false
set_option linter.all false
set_option maxRecDepth 100000
set_option maxHeartbeats 1000000
/-! TL0: values without a heap (PV), a store of what may change (PO), how they lie in the layer's heap (Rp, Rel). -/
namespace TL
open PySem PySem.Spec PyProof.Rows L2

inductive PV where
  | non | bl (b : Bool) | int (i : Int) | str (x : Str) | tup (xs : List PV) | rol (xs : List PV) | kup (xs : List PV) | obj (n : Nat) | fn (a : Addr) | ty (n : String)

mutual
def pvb : PV → PV → Bool
  | .non, .non => true
  | .bl a, .bl b => a == b
  | .int a, .int b => a == b
  | .str a, .str b => a == b
  | .tup a, .tup b => pvbs a b
  | .rol a, .rol b => pvbs a b
  | .kup a, .kup b => pvbs a b
  | .obj a, .obj b => a == b
  | .fn a, .fn b => decide (a = b)
  | .ty a, .ty b => a == b
  | _, _ => false
def pvbs : List PV → List PV → Bool
  | [], [] => true
  | x :: xs, y :: ys => pvb x y && pvbs xs ys
  | _, _ => false
end
mutual
theorem pvb_iff : ∀ a b : PV, pvb a b = true ↔ a = b
  | .non, b => by cases b <;> simp [pvb]
  | .bl a, b => by cases b <;> simp [pvb]
  | .int a, b => by cases b <;> simp [pvb]
  | .str a, b => by cases b <;> simp [pvb]
  | .tup a, b => by
    cases b with
    | tup b => simp [pvb, pvbs_iff a b]
    | _ => simp [pvb]
  | .rol a, b => by
    cases b with
    | rol b => simp [pvb, pvbs_iff a b]
    | _ => simp [pvb]
  | .kup a, b => by
    cases b with
    | kup b => simp [pvb, pvbs_iff a b]
    | _ => simp [pvb]
  | .obj a, b => by cases b <;> simp [pvb]
  | .fn a, b => by cases b <;> simp [pvb]
  | .ty a, b => by cases b <;> simp [pvb]
theorem pvbs_iff : ∀ a b : List PV, pvbs a b = true ↔ a = b
  | [], b => by cases b <;> simp [pvbs]
  | x :: xs, b => by
    cases b with
    | nil => simp [pvbs]
    | cons y ys => simp [pvbs, pvb_iff x y, pvbs_iff xs ys]
end
instance : DecidableEq PV := fun a b => decidable_of_iff _ (pvb_iff a b)

mutual
/-- all that it names in the store lies below n -/
def bnd (n : Nat) : PV → Bool
  | .tup xs => bnds n xs
  | .rol xs => bnds n xs
  | .kup xs => bnds n xs
  | .obj i => decide (i < n)
  | .non => true
  | .bl _ => true
  | .int _ => true
  | .str _ => true
  | .fn _ => true
  | .ty _ => true
def bnds (n : Nat) : List PV → Bool
  | [] => true
  | x :: xs => bnd n x && bnds n xs
end
mutual
theorem bnd_mono {n m : Nat} (h : n ≤ m) : ∀ x : PV, bnd n x = true → bnd m x = true
  | .tup xs, q => bnds_mono h xs q
  | .rol xs, q => bnds_mono h xs q
  | .kup xs, q => bnds_mono h xs q
  | .obj i, q => by
    have q' : i < n := of_decide_eq_true q
    exact decide_eq_true (Nat.lt_of_lt_of_le q' h)
  | .non, _ => rfl
  | .bl _, _ => rfl
  | .int _, _ => rfl
  | .str _, _ => rfl
  | .fn _, _ => rfl
  | .ty _, _ => rfl
theorem bnds_mono {n m : Nat} (h : n ≤ m) : ∀ xs : List PV, bnds n xs = true → bnds m xs = true
  | [], _ => rfl
  | x :: xs, q => by
    have q' := Bool.and_eq_true_iff.mp q
    exact Bool.and_eq_true_iff.mpr ⟨bnd_mono h x q'.1, bnds_mono h xs q'.2⟩
end
theorem bnds_all {n : Nat} : ∀ {xs : List PV}, bnds n xs = true ↔ ∀ x ∈ xs, bnd n x = true
  | [] => by simp [bnds]
  | x :: xs => by simp [bnds, bnds_all (xs := xs)]
theorem bnds_get {n : Nat} {xs : List PV} (h : bnds n xs = true) {i : Nat} {x : PV} (e : xs[i]? = some x) : bnd n x = true :=
  bnds_all.mp h x (List.mem_of_getElem? e)
theorem bnds_append {n : Nat} {xs ys : List PV} : bnds n (xs ++ ys) = true ↔ bnds n xs = true ∧ bnds n ys = true := by
  rw [bnds_all, bnds_all, bnds_all]
  constructor
  · intro h
    exact ⟨fun x hx => h x (List.mem_append_left _ hx), fun x hx => h x (List.mem_append_right _ hx)⟩
  · rintro ⟨h1, h2⟩ x hx
    exact (List.mem_append.mp hx).elim (h1 x) (h2 x)

/-- what may change: a list, a dict (its pairs in order), an instance (its class, its attributes) -/
inductive PO where
  | lst (xs : List PV)
  | dic (lk : Bool) (kvs : List (PV × PV))
  | ins (C : Str) (fs : List (Str × PV))
abbrev Store := List PO
def bndO (n : Nat) : PO → Bool
  | .lst xs => bnds n xs
  | .dic _ kvs => bnds n (kvs.map (·.2))
  | .ins _ fs => bnds n (fs.map (·.2))
theorem bndO_mono {n m : Nat} (h : n ≤ m) : ∀ o : PO, bndO n o = true → bndO m o = true
  | .lst xs, q => bnds_mono h xs q
  | .dic _ kvs, q => bnds_mono h _ q
  | .ins _ fs, q => bnds_mono h _ q

abbrev Mp := Nat → Addr
def SqF (K : PySem.W.Frag) (H : Hp) (a : Addr) (xs : List V) : Prop :=
  (∃ o, H a = some (.frz o (.lst xs))) ∨
    ∃ (o : Obj) (its : Array Value) (n : Nat), K.lookup a = some o ∧ o.cls = .type "list" ∧ o.dict = none ∧ o.data = .seq its n ∧ its.size ≤ sizeLine ∧ Vals xs its.toList
/-- a tuple that is known to have no dict of its own: one that was laid strong, or one of the frame -/
def SqK (K : PySem.W.Frag) (H : Hp) (a : Addr) (xs : List V) : Prop :=
  (∃ o, H a = some (.frz o (.tup xs)) ∧ o.dict = none) ∨
    ∃ (o : Obj) (its : Array Value) (n : Nat), K.lookup a = some o ∧ o.cls = .type "tuple" ∧ o.dict = none ∧ o.data = .seq its n ∧ its.size ≤ sizeLine ∧ Vals xs its.toList
theorem SqK.t {K : PySem.W.Frag} {H : Hp} {a : Addr} {xs : List V} (h : SqK K H a xs) : SqT K H a xs := by
  rcases h with ⟨o, h, _⟩ | ⟨o, its, n, h1, h2, _, h3⟩
  · exact .inl (.inr ⟨o, h⟩)
  · exact .inr ⟨o, its, n, h1, h2, h3⟩
theorem SqF.l {K : PySem.W.Frag} {H : Hp} {a : Addr} {xs : List V} (h : SqF K H a xs) : SqL K H a xs := by
  rcases h with ⟨o, h⟩ | h
  · exact .inl (.inr ⟨o, h⟩)
  · exact .inr h
mutual
def Rp (K : PySem.W.Frag) (m : Mp) (H : Hp) : PV → V → Prop
  | .tup xs, v => ∃ a vs, v = .ref a ∧ H a = some (.tup vs) ∧ Rps K m H xs vs
  | .rol xs, v => ∃ a vs, v = .ref a ∧ SqF K H a vs ∧ Rps K m H xs vs
  | .kup xs, v => ∃ a vs, v = .ref a ∧ SqK K H a vs ∧ Rps K m H xs vs
  | .obj n, v => v = .ref (m n)
  | .non, v => v = .non
  | .bl b, v => v = .bl b
  | .int i, v => v = .int i
  | .str x, v => v = .str x
  | .fn a, v => v = .ref a
  | .ty n, v => v = .ty n
def Rps (K : PySem.W.Frag) (m : Mp) (H : Hp) : List PV → List V → Prop
  | [], vs => vs = []
  | x :: xs, vs => ∃ v r, vs = v :: r ∧ Rp K m H x v ∧ Rps K m H xs r
end
/-- from (m, H) on to (m', H'): what lies below n keeps its place, tuples and what is frozen stay -/
structure Ext (K : PySem.W.Frag) (n : Nat) (m : Mp) (H : Hp) (m' : Mp) (H' : Hp) : Prop where
  mi : ∀ i, i < n → m' i = m i
  tu : ∀ a xs, H a = some (.tup xs) → H' a = some (.tup xs)
  xd : ∀ a fs, H a = some (.xd fs) → H' a = some (.xd fs)
  fz : ∀ a xs, SqF K H a xs → SqF K H' a xs
  lk : ∀ a o u, H a = some (.frz o u) → H' a = some (.frz o u)
/-- the same, but that something may have been unlocked -/
structure Ext0 (K : PySem.W.Frag) (n : Nat) (m : Mp) (H : Hp) (m' : Mp) (H' : Hp) : Prop where
  mi : ∀ i, i < n → m' i = m i
  tu : ∀ a xs, H a = some (.tup xs) → H' a = some (.tup xs)
  xd : ∀ a fs, H a = some (.xd fs) → H' a = some (.xd fs)
  fz : ∀ a xs, SqF K H a xs → SqF K H' a xs
  fk : ∀ a xs, SqK K H a xs → SqK K H' a xs
theorem Ext.e0 {K : PySem.W.Frag} {n : Nat} {m m' : Mp} {H H' : Hp} (e : Ext K n m H m' H') : Ext0 K n m H m' H' := ⟨e.mi, e.tu, e.xd, e.fz, fun a _ h => h.elim (fun ⟨o, h1, h2⟩ => .inl ⟨o, e.lk a o _ h1, h2⟩) .inr⟩
section
variable {K : PySem.W.Frag} {n n' : Nat} {m m' m2 : Mp} {H H' H2 : Hp}
theorem Ext.refl : Ext K n m H m H := ⟨fun _ _ => rfl, fun _ _ h => h, fun _ _ h => h, fun _ _ h => h, fun _ _ _ h => h⟩
theorem Ext.trans (a : Ext K n m H m' H') (b : Ext K n' m' H' m2 H2) (h : n ≤ n') : Ext K n m H m2 H2 :=
  ⟨fun i hi => (b.mi i (Nat.lt_of_lt_of_le hi h)).trans (a.mi i hi), fun c xs q => b.tu c xs (a.tu c xs q), fun c xs q => b.xd c xs (a.xd c xs q), fun c xs q => b.fz c xs (a.fz c xs q), fun c o u q => b.lk c o u (a.lk c o u q)⟩
mutual
theorem Rp.ext0 (e : Ext0 K n m H m' H') : ∀ (x : PV) (v : V), bnd n x = true → Rp K m H x v → Rp K m' H' x v
  | .tup xs, v, b, h => by
    obtain ⟨a, vs, q, t, r⟩ := h
    exact ⟨a, vs, q, e.tu a vs t, Rps.ext0 e xs vs b r⟩
  | .rol xs, v, b, h => by
    obtain ⟨a, vs, q, t, r⟩ := h
    exact ⟨a, vs, q, e.fz a vs t, Rps.ext0 e xs vs b r⟩
  | .kup xs, v, b, h => by
    obtain ⟨a, vs, q, t, r⟩ := h
    exact ⟨a, vs, q, e.fk a vs t, Rps.ext0 e xs vs b r⟩
  | .obj i, v, b, h => by
    have b' : i < n := of_decide_eq_true b
    have h' : v = .ref (m i) := h
    show v = .ref (m' i)
    rw [e.mi i b']
    exact h'
  | .non, v, _, h => h
  | .bl _, v, _, h => h
  | .int _, v, _, h => h
  | .str _, v, _, h => h
  | .fn _, v, _, h => h
  | .ty _, v, _, h => h
theorem Rps.ext0 (e : Ext0 K n m H m' H') : ∀ (xs : List PV) (vs : List V), bnds n xs = true → Rps K m H xs vs → Rps K m' H' xs vs
  | [], vs, _, h => h
  | x :: xs, vs, b, h => by
    obtain ⟨v, r, q, h1, h2⟩ := h
    have b' := Bool.and_eq_true_iff.mp b
    exact ⟨v, r, q, Rp.ext0 e x v b'.1 h1, Rps.ext0 e xs r b'.2 h2⟩
end
theorem Rp.ext (e : Ext K n m H m' H') (x : PV) (v : V) (b : bnd n x = true) (h : Rp K m H x v) : Rp K m' H' x v := Rp.ext0 e.e0 x v b h
theorem Rps.ext (e : Ext K n m H m' H') (xs : List PV) (vs : List V) (b : bnds n xs = true) (h : Rps K m H xs vs) : Rps K m' H' xs vs := Rps.ext0 e.e0 xs vs b h
theorem Rps.length : ∀ {xs : List PV} {vs : List V}, Rps K m H xs vs → vs.length = xs.length
  | [], vs, h => by
    have h' : vs = [] := h
    rw [h']; rfl
  | x :: xs, vs, h => by
    obtain ⟨v, r, rfl, _, h2⟩ := h
    rw [List.length_cons, List.length_cons, Rps.length h2]
theorem Rps.get : ∀ {xs : List PV} {vs : List V} {i : Nat} {x : PV}, Rps K m H xs vs → xs[i]? = some x → ∃ v, vs[i]? = some v ∧ Rp K m H x v
  | [], vs, i, x, h, e => by simp at e
  | y :: xs, vs, 0, x, h, e => by
    obtain ⟨v, r, rfl, h1, _⟩ := h
    simp at e
    subst e
    exact ⟨v, rfl, h1⟩
  | y :: xs, vs, i + 1, x, h, e => by
    obtain ⟨v, r, rfl, _, h2⟩ := h
    obtain ⟨u, e1, e2⟩ := Rps.get (i := i) h2 (by simpa using e)
    exact ⟨u, by simpa using e1, e2⟩
theorem Rps.get' : ∀ {xs : List PV} {vs : List V} {i : Nat} {v : V}, Rps K m H xs vs → vs[i]? = some v → ∃ x, xs[i]? = some x ∧ Rp K m H x v := by
  intro xs vs i v h e
  have hl : i < vs.length := (List.getElem?_eq_some_iff.mp e).1
  rw [h.length] at hl
  obtain ⟨u, e1, e2⟩ := h.get (List.getElem?_eq_getElem hl)
  rw [e] at e1
  cases e1
  exact ⟨_, List.getElem?_eq_getElem hl, e2⟩
theorem Rps.append : ∀ {xs ys : List PV} {vs us : List V}, Rps K m H xs vs → Rps K m H ys us → Rps K m H (xs ++ ys) (vs ++ us)
  | [], ys, vs, us, h, h' => by
    have e : vs = [] := h
    subst e
    exact h'
  | x :: xs, ys, vs, us, h, h' => by
    obtain ⟨v, r, rfl, h1, h2⟩ := h
    exact ⟨v, r ++ us, rfl, h1, Rps.append h2 h'⟩
theorem Rps.take : ∀ {xs : List PV} {vs : List V} (k : Nat), Rps K m H xs vs → Rps K m H (xs.take k) (vs.take k)
  | xs, vs, 0, h => by
    show [] = _ <;> simp
  | [], vs, k + 1, h => by
    have e : vs = [] := h
    subst e
    exact rfl
  | x :: xs, vs, k + 1, h => by
    obtain ⟨v, r, rfl, h1, h2⟩ := h
    exact ⟨v, r.take k, rfl, h1, Rps.take k h2⟩
theorem Rps.drop : ∀ {xs : List PV} {vs : List V} (k : Nat), Rps K m H xs vs → Rps K m H (xs.drop k) (vs.drop k)
  | xs, vs, 0, h => h
  | [], vs, k + 1, h => by
    have e : vs = [] := h
    subst e
    exact rfl
  | x :: xs, vs, k + 1, h => by
    obtain ⟨v, r, rfl, h1, h2⟩ := h
    exact Rps.drop k h2
theorem Rps.set : ∀ {xs : List PV} {vs : List V} {x : PV} {v : V} (k : Nat), Rps K m H xs vs → Rp K m H x v → Rps K m H (xs.set k x) (vs.set k v)
  | [], vs, x, v, k, h, _ => by
    have e : vs = [] := h
    subst e
    exact rfl
  | y :: xs, vs, x, v, 0, h, h' => by
    obtain ⟨u, r, rfl, _, h2⟩ := h
    exact ⟨v, r, rfl, h', h2⟩
  | y :: xs, vs, x, v, k + 1, h, h' => by
    obtain ⟨u, r, rfl, h1, h2⟩ := h
    exact ⟨u, r.set k v, rfl, h1, Rps.set k h2 h'⟩
theorem Rps.reverse : ∀ {xs : List PV} {vs : List V}, Rps K m H xs vs → Rps K m H xs.reverse vs.reverse
  | [], vs, h => by
    have e : vs = [] := h
    subst e
    exact rfl
  | x :: xs, vs, h => by
    obtain ⟨v, r, rfl, h1, h2⟩ := h
    rw [List.reverse_cons, List.reverse_cons]
    exact Rps.append (Rps.reverse h2) ⟨v, [], rfl, h1, rfl⟩
theorem Rps.one {x : PV} {v : V} (h : Rp K m H x v) : Rps K m H [x] [v] := ⟨v, [], rfl, h, rfl⟩

/-! ### keys of dicts -/
def keyOf : PV → Option Key
  | .int i => some (.inl i)
  | .str x => some (.inr x)
  | _ => none
def keysOf : List PV → Option (List Key)
  | [] => some []
  | x :: xs => match keyOf x, keysOf xs with
    | some k, some ks => some (k :: ks)
    | _, _ => none
def tkeyOf : PV → Option (List Key)
  | .tup xs => keysOf xs
  | _ => none
def KvK (K : PySem.W.Frag) (m : Mp) (H : Hp) : List (PV × PV) → List (Key × V) → Prop
  | [], l => l = []
  | p :: ps, l => ∃ q r, l = q :: r ∧ keyOf p.1 = some q.1 ∧ Rp K m H p.2 q.2 ∧ KvK K m H ps r
def KvT (K : PySem.W.Frag) (m : Mp) (H : Hp) : List (PV × PV) → List (List Key × V) → Prop
  | [], l => l = []
  | p :: ps, l => ∃ q r, l = q :: r ∧ tkeyOf p.1 = some q.1 ∧ Rp K m H p.2 q.2 ∧ KvT K m H ps r
def FsR (K : PySem.W.Frag) (m : Mp) (H : Hp) : List (Str × PV) → List (Str × V) → Prop
  | [], l => l = []
  | p :: ps, l => ∃ q r, l = q :: r ∧ p.1 = q.1 ∧ Rp K m H p.2 q.2 ∧ FsR K m H ps r
/-- the address of a module's class -/
def ca (mg : Str → Option Value) (x : Str) : Addr := match mg x with
  | some (.ref a) => a
  | _ => 0
def ObR (K : PySem.W.Frag) (mg : Str → Option Value) (m : Mp) (H : Hp) (a : Addr) : PO → Prop
  | .lst xs => ∃ vs, H a = some (.lst vs) ∧ Rps K m H xs vs
  | .dic false kvs => (∃ l, H a = some (.dK l) ∧ KvK K m H kvs l) ∨ ∃ l, H a = some (.dT l) ∧ KvT K m H kvs l
  | .dic true kvs => (∃ o l, H a = some (.frz o (.dK l)) ∧ KvK K m H kvs l) ∨ ∃ o l, H a = some (.frz o (.dT l)) ∧ KvT K m H kvs l
  | .ins C fs => ∃ dx l, H a = some (.ins (ca mg C) dx l) ∧ FsR K m H fs l
structure Rel (K : PySem.W.Frag) (mg : Str → Option Value) (m : Mp) (S : Store) (H : Hp) : Prop where
  inj : ∀ (i j : Nat), i < S.length → j < S.length → m i = m j → i = j
  ob : ∀ (i : Nat) (o : PO), S[i]? = some o → ObR K mg m H (m i) o
  wf : ∀ (i : Nat) (o : PO), S[i]? = some o → bndO S.length o = true
theorem KvK.ext0 (e : Ext0 K n m H m' H') : ∀ (kvs : List (PV × PV)) (l : List (Key × V)), bnds n (kvs.map (·.2)) = true → KvK K m H kvs l → KvK K m' H' kvs l
  | [], l, _, h => h
  | p :: ps, l, b, h => by
    obtain ⟨q, r, e0, h1, h2, h3⟩ := h
    have b' := Bool.and_eq_true_iff.mp b
    exact ⟨q, r, e0, h1, Rp.ext0 e _ _ b'.1 h2, KvK.ext0 e ps r b'.2 h3⟩
theorem KvT.ext0 (e : Ext0 K n m H m' H') : ∀ (kvs : List (PV × PV)) (l : List (List Key × V)), bnds n (kvs.map (·.2)) = true → KvT K m H kvs l → KvT K m' H' kvs l
  | [], l, _, h => h
  | p :: ps, l, b, h => by
    obtain ⟨q, r, e0, h1, h2, h3⟩ := h
    have b' := Bool.and_eq_true_iff.mp b
    exact ⟨q, r, e0, h1, Rp.ext0 e _ _ b'.1 h2, KvT.ext0 e ps r b'.2 h3⟩
theorem FsR.ext0 (e : Ext0 K n m H m' H') : ∀ (kvs : List (Str × PV)) (l : List (Str × V)), bnds n (kvs.map (·.2)) = true → FsR K m H kvs l → FsR K m' H' kvs l
  | [], l, _, h => h
  | p :: ps, l, b, h => by
    obtain ⟨q, r, e0, h1, h2, h3⟩ := h
    have b' := Bool.and_eq_true_iff.mp b
    exact ⟨q, r, e0, h1, Rp.ext0 e _ _ b'.1 h2, FsR.ext0 e ps r b'.2 h3⟩
/-- an object's own place keeps its content, the rest goes on -/
theorem ObR.ext0 {mg : Str → Option Value} (e : Ext0 K n m H m' H') {a : Addr} (ha : H' a = H a) : ∀ (o : PO), bndO n o = true → ObR K mg m H a o → ObR K mg m' H' a o
  | .lst xs, b, h => by
    obtain ⟨vs, h1, h2⟩ := h
    exact ⟨vs, ha.trans h1, h2.ext0 e xs vs b⟩
  | .dic false kvs, b, h => by
    rcases h with ⟨l, h1, h2⟩ | ⟨l, h1, h2⟩
    · exact .inl ⟨l, ha.trans h1, KvK.ext0 e kvs l b h2⟩
    · exact .inr ⟨l, ha.trans h1, KvT.ext0 e kvs l b h2⟩
  | .dic true kvs, b, h => by
    rcases h with ⟨o, l, h1, h2⟩ | ⟨o, l, h1, h2⟩
    · exact .inl ⟨o, l, ha.trans h1, KvK.ext0 e kvs l b h2⟩
    · exact .inr ⟨o, l, ha.trans h1, KvT.ext0 e kvs l b h2⟩
  | .ins C fs, b, h => by
    obtain ⟨dx, l, h1, h2⟩ := h
    exact ⟨dx, l, ha.trans h1, FsR.ext0 e fs l b h2⟩
theorem KvK.ext (e : Ext K n m H m' H') (kvs : List (PV × PV)) (l : List (Key × V)) (b : bnds n (kvs.map (·.2)) = true) (h : KvK K m H kvs l) : KvK K m' H' kvs l := KvK.ext0 e.e0 kvs l b h
theorem KvT.ext (e : Ext K n m H m' H') (kvs : List (PV × PV)) (l : List (List Key × V)) (b : bnds n (kvs.map (·.2)) = true) (h : KvT K m H kvs l) : KvT K m' H' kvs l := KvT.ext0 e.e0 kvs l b h
theorem FsR.ext (e : Ext K n m H m' H') (kvs : List (Str × PV)) (l : List (Str × V)) (b : bnds n (kvs.map (·.2)) = true) (h : FsR K m H kvs l) : FsR K m' H' kvs l := FsR.ext0 e.e0 kvs l b h
theorem ObR.ext {mg : Str → Option Value} (e : Ext K n m H m' H') {a : Addr} (ha : H' a = H a) (o : PO) (b : bndO n o = true) (h : ObR K mg m H a o) : ObR K mg m' H' a o := ObR.ext0 e.e0 ha o b h
/-- a place that is no tuple, no exception's dict, nothing frozen that is a list -/
def Wr (H : Hp) (a : Addr) : Prop := ∀ o, H a = some o → (∀ xs, o ≠ .tup xs) ∧ (∀ fs, o ≠ .xd fs) ∧ (∀ ob u, o ≠ .frz ob u)
theorem ObR.some {mg : Str → Option Value} {a : Addr} : ∀ {o : PO}, ObR K mg m H a o → ∃ u, H a = some u
  | .lst xs, h => by
    obtain ⟨vs, h1, _⟩ := h
    exact ⟨_, h1⟩
  | .dic false kvs, h => by
    rcases h with ⟨l, h1, h2⟩ | ⟨l, h1, h2⟩
    · exact ⟨_, h1⟩
    · exact ⟨_, h1⟩
  | .dic true kvs, h => by
    rcases h with ⟨o, l, h1, h2⟩ | ⟨o, l, h1, h2⟩
    · exact ⟨_, h1⟩
    · exact ⟨_, h1⟩
  | .ins C fs, h => by
    obtain ⟨dx, l, h1, _⟩ := h
    exact ⟨_, h1⟩
theorem ObR.wr {mg : Str → Option Value} {a : Addr} : ∀ {o : PO}, ObR K mg m H a o → (∀ kvs, o ≠ .dic true kvs) → Wr H a
  | .lst xs, h, _ => by
    obtain ⟨vs, h1, _⟩ := h
    intro o e
    rw [h1] at e
    cases e
    exact ⟨(fun _ z => by cases z), (fun _ z => by cases z), (fun _ _ z => by cases z)⟩
  | .dic false kvs, h, _ => by
    intro o e
    rcases h with ⟨l, h1, h2⟩ | ⟨l, h1, h2⟩ <;>
    · rw [h1] at e
      cases e
      exact ⟨(fun _ z => by cases z), (fun _ z => by cases z), (fun _ _ z => by cases z)⟩
  | .dic true kvs, _, hl => (hl kvs rfl).elim
  | .ins C fs, h, _ => by
    obtain ⟨dx, l, h1, _⟩ := h
    intro o e
    rw [h1] at e
    cases e
    exact ⟨(fun _ z => by cases z), (fun _ z => by cases z), (fun _ _ z => by cases z)⟩
/-- nothing that is tracked changes but at a, which holds no tuple and nothing frozen -/
theorem ext_upd {a : Addr} {u : HO} (ha : Wr H a) (mi : ∀ i, i < n → m' i = m i) : Ext K n m H m' (upd H a u) := by
  refine ⟨mi, fun b xs h => ?_, fun b xs h => ?_, fun b xs h => ?_, fun b o u h => ?_⟩
  · have hb : b ≠ a := fun z => by
      rw [z] at h
      exact (ha _ h).1 _ rfl
    rw [upd_ne hb]; exact h
  · have hb : b ≠ a := fun z => by
      rw [z] at h
      exact (ha _ h).2.1 _ rfl
    rw [upd_ne hb]; exact h
  · rcases h with ⟨o, h⟩ | h
    · have hb : b ≠ a := fun z => by
        rw [z] at h
        exact (ha _ h).2.2 _ _ rfl
      exact .inl ⟨o, by rw [upd_ne hb]; exact h⟩
    · exact .inr h
  · have hb : b ≠ a := fun z => by
      rw [z] at h
      exact (ha _ h).2.2 _ _ rfl
    rw [upd_ne hb]; exact h
theorem ext_new {a : Addr} {u : HO} (ha : H a = none) (mi : ∀ i, i < n → m' i = m i) : Ext K n m H m' (upd H a u) :=
  ext_upd (fun o q => by rw [ha] at q; cases q) mi
variable {mg : Str → Option Value} {S : Store}
theorem Rel.ne_new (r : Rel K mg m S H) {a : Addr} (ha : H a = none) {i : Nat} (hi : i < S.length) : m i ≠ a := fun z => by
  obtain ⟨u, h⟩ := (r.ob i S[i] (List.getElem?_eq_getElem hi)).some
  rw [z, ha] at h
  cases h
/-- a tuple (or what is not of the store) is laid -/
theorem Rel.newT (r : Rel K mg m S H) {a : Addr} {u : HO} (ha : H a = none) : Rel K mg m S (upd H a u) :=
  ⟨r.inj, fun i o e => (r.ob i o e).ext (ext_new (n := S.length) ha fun _ _ => rfl) (upd_ne (r.ne_new ha (List.getElem?_eq_some_iff.mp e).1)) o (r.wf i o e), r.wf⟩
def mNew (m : Mp) (n : Nat) (a : Addr) : Mp := fun i => if i = n then a else m i
theorem mNew_at {a : Addr} : mNew m n a n = a := by unfold mNew; rw [if_pos rfl]
theorem mNew_lt {a : Addr} {i : Nat} (h : i < n) : mNew m n a i = m i := by unfold mNew; rw [if_neg (by omega)]
/-- a new object of the store -/
theorem Rel.newO (r : Rel K mg m S H) {a : Addr} {u : HO} {o : PO} (ha : H a = none) (hb : bndO (S.length + 1) o = true) (ho : ObR K mg (mNew m S.length a) (upd H a u) a o) : Rel K mg (mNew m S.length a) (S ++ [o]) (upd H a u) := by
  refine ⟨fun i j hi hj e => ?_, fun i p e => ?_, fun i p e => ?_⟩
  · rw [List.length_append, List.length_singleton] at hi hj
    by_cases h1 : i = S.length
    · by_cases h2 : j = S.length
      · omega
      · have hj' : j < S.length := by omega
        rw [h1, mNew_at, mNew_lt hj'] at e
        exact absurd e.symm (r.ne_new ha hj')
    · have hi' : i < S.length := by omega
      by_cases h2 : j = S.length
      · rw [h2, mNew_at, mNew_lt hi'] at e
        exact absurd e (r.ne_new ha hi')
      · have hj' : j < S.length := by omega
        rw [mNew_lt hi', mNew_lt hj'] at e
        exact r.inj i j hi' hj' e
  · by_cases h1 : i < S.length
    · rw [List.getElem?_append_left h1] at e
      rw [mNew_lt h1]
      exact (r.ob i p e).ext (ext_new (n := S.length) ha fun i hi => mNew_lt hi) (upd_ne (r.ne_new ha h1)) p (r.wf i p e)
    · have h2 := (List.getElem?_eq_some_iff.mp e).1
      rw [List.length_append, List.length_singleton] at h2
      have h3 : i = S.length := by omega
      subst h3
      rw [List.getElem?_append_right (Nat.le_refl _), Nat.sub_self] at e
      have e' : o = p := Option.some.inj e
      subst e'
      rw [mNew_at]
      exact ho
  · rw [List.length_append, List.length_singleton]
    by_cases h1 : i < S.length
    · rw [List.getElem?_append_left h1] at e
      exact bndO_mono (Nat.le_succ _) p (r.wf i p e)
    · have h2 := (List.getElem?_eq_some_iff.mp e).1
      rw [List.length_append, List.length_singleton] at h2
      have h3 : i = S.length := by omega
      subst h3
      rw [List.getElem?_append_right (Nat.le_refl _), Nat.sub_self] at e
      have e' : o = p := Option.some.inj e
      subst e'
      exact hb
/-- an object of the store is written -/
theorem Rel.write (r : Rel K mg m S H) {k : Nat} {u : HO} {o q : PO} (hq : S[k]? = some q) (hl : ∀ kvs, q ≠ .dic true kvs) (hb : bndO S.length o = true) (ho : ObR K mg m (upd H (m k) u) (m k) o) : Rel K mg m (S.set k o) (upd H (m k) u) := by
  have hk := (List.getElem?_eq_some_iff.mp hq).1
  have he : Ext K S.length m H m (upd H (m k) u) := ext_upd ((r.ob k _ hq).wr hl) fun _ _ => rfl
  refine ⟨fun i j hi hj e => ?_, fun i p e => ?_, fun i p e => ?_⟩
  · rw [List.length_set] at hi hj
    exact r.inj i j hi hj e
  · by_cases h : k = i
    · subst h
      rw [List.getElem?_set_self hk] at e
      cases e
      exact ho
    · rw [List.getElem?_set_ne h] at e
      have hi := (List.getElem?_eq_some_iff.mp e).1
      exact (r.ob i p e).ext he (upd_ne fun z => h (r.inj k i hk hi z.symm)) p (r.wf i p e)
  · rw [List.length_set]
    by_cases h : k = i
    · subst h
      rw [List.getElem?_set_self hk] at e
      cases e
      exact hb
    · rw [List.getElem?_set_ne h] at e
      exact r.wf i p e
theorem Rel.ext_write (r : Rel K mg m S H) {k : Nat} {u : HO} {q : PO} (hq : S[k]? = some q) (hl : ∀ kvs, q ≠ .dic true kvs) : Ext K S.length m H m (upd H (m k) u) := ext_upd ((r.ob k _ hq).wr hl) fun _ _ => rfl
end
end TL

set_option Elab.async false
set_option linter.all false
set_option maxRecDepth 100000
set_option maxHeartbeats 1000000
/-! TL1: what an expression does on the store (Res), its reading in the layer (rdE, rdT, rdA), the rules of expressions. -/
namespace TL
open PySem PySem.Spec PyProof.Rows L2

inductive Res (α : Type) where
  | ok (x : α) (S : Store)
  | exc (c : Str) (p : Option (Str × PV)) (S : Store)
  | stuck
def Res.bind {α β : Type} (r : Res α) (k : α → Store → Res β) : Res β := match r with
  | .ok x S => k x S
  | .exc c p S => .exc c p S
  | .stuck => .stuck
theorem bind_ok {α β : Type} {x : α} {S : Store} {k : α → Store → Res β} : (Res.ok x S).bind k = k x S := rfl
theorem bind_exc {α β : Type} {c : Str} {p : Option (Str × PV)} {S : Store} {k : α → Store → Res β} : (Res.exc c p S).bind k = .exc c p S := rfl
theorem bind_stuck {α β : Type} {k : α → Store → Res β} : (Res.stuck : Res α).bind k = .stuck := rfl
abbrev Sl := List (Option PV)
abbrev CE (α : Type) := Sl → Store → Res α

def EnvR (K : PySem.W.Frag) (n : Nat) (m : Mp) (H : Hp) (ρ : Sl) (σ : L2.St) : Prop :=
  ρ.length = σ.length ∧ ∀ (i : Nat) (x : PV), ρ[i]? = some (some x) → bnd n x = true ∧ ∃ v, σ[i]? = some (some v) ∧ Rp K m H x v
structure At (K : PySem.W.Frag) (mg : Str → Option Value) (m : Mp) (S : Store) (H : Hp) (ρ : Sl) (σ : L2.St) : Prop where
  rel : Rel K mg m S H
  env : EnvR K S.length m H ρ σ
section
variable {K : PySem.W.Frag} {mg : Str → Option Value} {n n' : Nat} {m m' : Mp} {H H' : Hp} {S S' : Store} {ρ : Sl} {σ : L2.St}
theorem EnvR.ext (h : EnvR K n m H ρ σ) (e : Ext K n m H m' H') (l : n ≤ n') : EnvR K n' m' H' ρ σ :=
  ⟨h.1, fun i x q => by
    obtain ⟨b, v, e1, r⟩ := h.2 i x q
    exact ⟨bnd_mono l x b, v, e1, r.ext e x v b⟩⟩
theorem EnvR.set (h : EnvR K n m H ρ σ) {i : Nat} {x : PV} {v : V} (b : bnd n x = true) (r : Rp K m H x v) : EnvR K n m H (ρ.set i (some x)) (σ.set i (some v)) := by
  refine ⟨by rw [List.length_set, List.length_set]; exact h.1, fun j y q => ?_⟩
  by_cases hj : i = j
  · subst hj
    have hl : i < ρ.length := by
      have := (List.getElem?_eq_some_iff.mp q).1
      rw [List.length_set] at this
      exact this
    rw [List.getElem?_set_self hl] at q
    cases q
    exact ⟨b, v, by rw [List.getElem?_set_self (by rw [← h.1]; exact hl)], r⟩
  · rw [List.getElem?_set_ne hj] at q
    rw [List.getElem?_set_ne hj]
    exact h.2 j y q
/-- forgetting a slot -/
theorem EnvR.drop (h : EnvR K n m H ρ σ) {i : Nat} : EnvR K n m H (ρ.set i none) σ := by
  refine ⟨by rw [List.length_set]; exact h.1, fun j y q => ?_⟩
  by_cases hj : i = j
  · subst hj
    have hl : i < ρ.length := by
      have := (List.getElem?_eq_some_iff.mp q).1
      rw [List.length_set] at this
      exact this
    rw [List.getElem?_set_self hl] at q
    cases q
  · rw [List.getElem?_set_ne hj] at q
    exact h.2 j y q
theorem EnvR.setN (h : EnvR K n m H ρ σ) {i : Nat} {w : Option V} : EnvR K n m H (ρ.set i none) (σ.set i w) := by
  refine ⟨by rw [List.length_set, List.length_set]; exact h.1, fun j y q => ?_⟩
  by_cases hj : i = j
  · subst hj
    have hl : i < ρ.length := by
      have := (List.getElem?_eq_some_iff.mp q).1
      rw [List.length_set] at this
      exact this
    rw [List.getElem?_set_self hl] at q
    cases q
  · rw [List.getElem?_set_ne hj] at q
    rw [List.getElem?_set_ne hj]
    exact h.2 j y q
end

abbrev RR (α β : Type) := Nat → Mp → Hp → α → β → Prop
def RV (K : PySem.W.Frag) : RR PV V := fun n m H x v => bnd n x = true ∧ Rp K m H x v
def RL (K : PySem.W.Frag) : RR (List PV) (List V) := fun n m H x v => bnds n x = true ∧ Rps K m H x v
def RB : RR Bool Bool := fun _ _ _ b c => b = c
def RO : RR (Option Int) (Option Int) := fun _ _ _ b c => b = c
def Stb (K : PySem.W.Frag) {α β : Type} (R : RR α β) : Prop := ∀ {n n' : Nat} {m m' : Mp} {H H' : Hp} {x : α} {v : β}, Ext K n m H m' H' → n ≤ n' → R n m H x v → R n' m' H' x v
theorem stbV {K : PySem.W.Frag} : Stb K (RV K) := fun e l h => ⟨bnd_mono l _ h.1, h.2.ext e _ _ h.1⟩
theorem stbL {K : PySem.W.Frag} : Stb K (RL K) := fun e l h => ⟨bnds_mono l _ h.1, h.2.ext e _ _ h.1⟩
theorem stbB {K : PySem.W.Frag} : Stb K RB := fun _ _ h => h
theorem stbO {K : PySem.W.Frag} : Stb K RO := fun _ _ h => h

/-- what an exception carries -/
def XR (K : PySem.W.Frag) (n : Nat) (m : Mp) (H : Hp) : Option (Str × PV) → Option Addr → Prop
  | .none, d => d = .none
  | .some p, d => ∃ dd v, d = .some dd ∧ H dd = .some (.xd [(p.1, v)]) ∧ RV K n m H p.2 v
/-- what is wanted behind r, begun at (m, S, H) -/
def Fin (K : PySem.W.Frag) (mg : Str → Option Value) (W : WX) (σ : L2.St) (m : Mp) (S : Store) (H : Hp) {α β : Type} (R : RR α β) (Q : β → Hp → Prop) : Res α → Prop
  | .ok x S' => ∀ (m' : Mp) (H' : Hp) (v : β), Ext K S.length m H m' H' → S.length ≤ S'.length → Rel K mg m' S' H' → R S'.length m' H' x v → Q v H'
  | .exc c p S' => ∀ (m' : Mp) (H' : Hp) (d : Option Addr), Ext K S.length m H m' H' → S.length ≤ S'.length → Rel K mg m' S' H' → XR K S'.length m' H' p d → W (.ref (ca mg c)) d σ H'
  | .stuck => False
section
variable {K : PySem.W.Frag} {mg : Str → Option Value} {W : WX} {σ : L2.St} {m m1 : Mp} {S S1 : Store} {H H1 : Hp} {α β γ δ : Type} {R : RR α β} {R' : RR γ δ} {Q Q' : β → Hp → Prop}
theorem Fin.mono {r : Res α} (h : Fin K mg W σ m S H R Q r) (q : ∀ v H, Q v H → Q' v H) : Fin K mg W σ m S H R Q' r := by
  cases r with
  | ok x S' => exact fun m' H' v e l r rr => q _ _ (h m' H' v e l r rr)
  | exc c p S' => exact h
  | stuck => exact h
theorem Fin.from {r : Res α} (h : Fin K mg W σ m S H R Q r) (e : Ext K S.length m H m1 H1) (l : S.length ≤ S1.length) : Fin K mg W σ m1 S1 H1 R Q r := by
  cases r with
  | ok x S' => exact fun m' H' v e' l' r rr => h m' H' v (e.trans e' l) (Nat.le_trans l l') r rr
  | exc c p S' => exact fun m' H' d e' l' r => h m' H' d (e.trans e' l) (Nat.le_trans l l') r
  | stuck => exact h
theorem Fin.here {x : α} {v : β} (h : Fin K mg W σ m S H R Q (.ok x S)) (r : Rel K mg m S H) (q : R S.length m H x v) : Q v H :=
  h m H v Ext.refl (Nat.le_refl _) r q
/-- what goes on behind the first part -/
def Go (K : PySem.W.Frag) (mg : Str → Option Value) (W : WX) (ρ : Sl) (σ : L2.St) (m : Mp) (S : Store) (H : Hp) {α β γ δ : Type} (R : RR α β) (R' : RR γ δ) (Q : δ → Hp → Prop) (k : α → Store → Res γ) : β → Hp → Prop := fun v H1 =>
  ∃ m1 S1 x, At K mg m1 S1 H1 ρ σ ∧ R S1.length m1 H1 x v ∧ Ext K S.length m H m1 H1 ∧ S.length ≤ S1.length ∧ Fin K mg W σ m1 S1 H1 R' Q (k x S1)
theorem Fin.bind {ρ : Sl} {r : Res α} {k : α → Store → Res γ} {Q : δ → Hp → Prop} (a : At K mg m S H ρ σ) (h : Fin K mg W σ m S H R' Q (r.bind k)) : Fin K mg W σ m S H R (Go K mg W ρ σ m S H R R' Q k) r := by
  cases r with
  | ok x S1 => exact fun m1 H1 v e l r rr => ⟨m1, S1, x, ⟨r, a.env.ext e l⟩, rr, e, l, Fin.from h e l⟩
  | exc c p S' => exact h
  | stuck => exact h
end
def rdE (K : PySem.W.Frag) (mg : Str → Option Value) (W : WX) (c : CE PV) : TE := fun σ H Q => ∃ m S ρ, At K mg m S H ρ σ ∧ Fin K mg W σ m S H (RV K) Q (c ρ S)
def rdT (K : PySem.W.Frag) (mg : Str → Option Value) (W : WX) (c : CE Bool) : TT := fun σ H Q => ∃ m S ρ, At K mg m S H ρ σ ∧ Fin K mg W σ m S H RB Q (c ρ S)
def rdA (K : PySem.W.Frag) (mg : Str → Option Value) (W : WX) (c : CE (List PV)) : TA := fun σ H Q => ∃ m S ρ, At K mg m S H ρ σ ∧ Fin K mg W σ m S H (RL K) Q (c ρ S)
def rdO (K : PySem.W.Frag) (mg : Str → Option Value) (W : WX) (c : CE (Option Int)) : TO := fun σ H Q => ∃ m S ρ, At K mg m S H ρ σ ∧ Fin K mg W σ m S H RO Q (c ρ S)

abbrev DE (X : Cx) (W : WX) (e : Expr) (c : CE PV) : Prop := PE X e (rdE X.K X.mg W c)
abbrev DT (X : Cx) (W : WX) (e : Expr) (c : CE Bool) : Prop := PT X e (rdT X.K X.mg W c)
abbrev DW (X : Cx) (W : WX) (e : Expr) (c : CE Bool) : Prop := PW X e (rdT X.K X.mg W c)
abbrev DA (X : Cx) (W : WX) (es : List Expr) (c : CE (List PV)) : Prop := PA X es (rdA X.K X.mg W c)
abbrev DO (X : Cx) (W : WX) (e : Option Expr) (c : CE (Option Int)) : Prop := L2.PO X e (rdO X.K X.mg W c)

theorem pe_imp {X : Cx} {e : Expr} {t t' : TE} (h : PE X e t) (i : ∀ σ H Q, t' σ H Q → t σ H Q) : PE X e t' := ⟨fun pins s σ H Q I q => h.run pins s σ H Q I (i σ H Q q)⟩
theorem pt_imp {X : Cx} {e : Expr} {t t' : TT} (h : PT X e t) (i : ∀ σ H Q, t' σ H Q → t σ H Q) : PT X e t' := ⟨fun pins s σ H Q I q => h.run pins s σ H Q I (i σ H Q q)⟩
theorem pw_imp {X : Cx} {e : Expr} {t t' : TT} (h : PW X e t) (i : ∀ σ H Q, t' σ H Q → t σ H Q) : PW X e t' := ⟨fun wh pins s σ H Q I q => h.run wh pins s σ H Q I (i σ H Q q)⟩
theorem pa_imp {X : Cx} {e : List Expr} {t t' : TA} (h : PA X e t) (i : ∀ σ H Q, t' σ H Q → t σ H Q) : PA X e t' := ⟨fun p pins s σ H Q I q => h.run p pins s σ H Q I (i σ H Q q)⟩
theorem po_imp {X : Cx} {e : Option Expr} {t t' : TO} (h : L2.PO X e t) (i : ∀ σ H Q, t' σ H Q → t σ H Q) : L2.PO X e t' := ⟨fun pins s σ H Q I q => h.run pins s σ H Q I (i σ H Q q)⟩

/-! ### names, constants -/
def eVar (i : Nat) : CE PV := fun ρ S => match ρ[i]? with
  | some (some x) => .ok x S
  | _ => .stuck
def eK (x : PV) : CE PV := fun _ S => .ok x S
section
variable {X : Cx} {W : WX} {pos : Pos} {a b : Expr} {ca cb : CE PV}
theorem de_var (i : Nat) {x : Str} (hN : X.N[i]? = some x := by rfl) (hv : Vis X.env.scope x := by first | exact Or.inl rfl | exact Or.inr (Or.inl rfl) | exact Or.inr (Or.inr rfl)) (hd : (x == ("__debug__" : Str)) = false := by decide)
    (hcd : (x == ("__classdict__" : Str)) = false := by decide) : DE X W (.Name x pos) (eVar i) := by
  refine pe_imp (pe_var hN hv hd hcd) fun σ H Q h => ?_
  obtain ⟨m, S, ρ, at_, f⟩ := h
  unfold eVar at f
  cases e : ρ[i]? with
  | none => rw [e] at f; exact f.elim
  | some o =>
    rw [e] at f
    cases o with
    | none => exact f.elim
    | some x =>
      obtain ⟨hb, v, e1, r⟩ := at_.env.2 i x e
      exact ⟨v, e1, f.here at_.rel ⟨hb, r⟩⟩
theorem de_k {v : V} {x : PV} {e : Expr} (h : PE X e (tC v)) (b : ∀ n, bnd n x = true) (r : ∀ m H, Rp X.K m H x v) : DE X W e (eK x) := by
  refine pe_imp h fun σ H Q h => ?_
  obtain ⟨m, S, ρ, at_, f⟩ := h
  exact f.here at_.rel ⟨b _, r _ _⟩
theorem de_int {i j pos} : DE X W (.Constant (.int i) j pos) (eK (.int i)) := de_k pe_int (fun _ => rfl) fun _ _ => rfl
theorem de_bl {i j pos} : DE X W (.Constant (.bool i) j pos) (eK (.bl i)) := de_k pe_bl (fun _ => rfl) fun _ _ => rfl
theorem de_non {j pos} : DE X W (.Constant .none j pos) (eK .non) := de_k pe_non (fun _ => rfl) fun _ _ => rfl
theorem de_str {x j pos} : DE X W (.Constant (.str x) j pos) (eK (.str x)) := de_k pe_str (fun _ => rfl) fun _ _ => rfl

/-! ### two parts and an operation on their values -/
abbrev F2 := PV → PV → Store → Res PV
def eBin (f : F2) (ca cb : CE PV) : CE PV := fun ρ S => (ca ρ S).bind fun x S1 => (cb ρ S1).bind fun y S2 => f x y S2
def Op2 (K : PySem.W.Frag) (mg : Str → Option Value) (f : F2) (r : R2) : Prop := ∀ (W : WX) (σ : L2.St) (m : Mp) (S : Store) (H : Hp) (x y : PV) (v u : V) (Q : VK),
  Rel K mg m S H → RV K S.length m H x v → RV K S.length m H y u → Fin K mg W σ m S H (RV K) Q (f x y S) → r v u H Q
theorem rd_bin {f : F2} {r : R2} (h2 : Op2 X.K X.mg f r) (σ : L2.St) (H : Hp) (Q : VK) (h : rdE X.K X.mg W (eBin f ca cb) σ H Q) : tOp r (rdE X.K X.mg W ca) (rdE X.K X.mg W cb) σ H Q := by
  obtain ⟨m, S, ρ, at_, fin⟩ := h
  refine ⟨m, S, ρ, at_, (Fin.bind at_ fin).mono fun v H1 h1 => ?_⟩
  obtain ⟨m1, S1, x, at1, r1, e1, l1, f1⟩ := h1
  refine ⟨m1, S1, ρ, at1, (Fin.bind at1 f1).mono fun u H2 h2' => ?_⟩
  obtain ⟨m2, S2, y, at2, r2, e2, l2, f2⟩ := h2'
  exact h2 W σ m2 S2 H2 x y v u Q at2.rel (stbV e2 l2 r1) r2 f2
theorem de_op {op : Operator} {f : F2} {r : R2} (ho : OpR X (binaryOp op) r) (h2 : Op2 X.K X.mg f r) (ha : DE X W a ca) (hb : DE X W b cb) : DE X W (.BinOp a op b pos) (eBin f ca cb) :=
  pe_imp (pe_op ho ha hb) (rd_bin h2)
theorem de_cmp {op : CmpOp} {f : F2} {r : R2} (ho : OpR X (compareOp op) r) (h2 : Op2 X.K X.mg f r) (ha : DE X W a ca) (hb : DE X W b cb) (hm : behindInMarks op b = false := by first | exact nomark _ | rfl) : DE X W (.Compare a [op] [b] pos) (eBin f ca cb) :=
  pe_imp (pe_cmpR ho ha hb hm) (rd_bin h2)
/-- a value that ought to be a truth, as a test -/
def tBl (c : CE PV) : CE Bool := fun ρ S => (c ρ S).bind fun x S1 => match x with
  | .bl b => .ok b S1
  | _ => .stuck
theorem rd_tBl {c : CE PV} {t : TE} (i : ∀ σ H Q, rdE X.K X.mg W c σ H Q → t σ H Q) (σ : L2.St) (H : Hp) (Q : Bool → Hp → Prop) (h : rdT X.K X.mg W (tBl c) σ H Q) : t σ H fun x H' => ∃ k, x = .bl k ∧ Q k H' := by
  obtain ⟨m, S, ρ, at_, fin⟩ := h
  refine i _ _ _ ⟨m, S, ρ, at_, (Fin.bind at_ fin).mono fun v H1 h1 => ?_⟩
  obtain ⟨m1, S1, x, at1, r1, e1, l1, f1⟩ := h1
  cases x with
  | bl b =>
    have e : v = .bl b := r1.2
    exact ⟨b, e, f1.here at1.rel rfl⟩
  | _ => exact f1.elim
theorem dt_cmp {op : CmpOp} {f : F2} {r : R2} (ho : OpR X (compareOp op) r) (h2 : Op2 X.K X.mg f r) (ha : DE X W a ca) (hb : DE X W b cb) (hm : behindInMarks op b = false := by first | exact nomark _ | rfl) : DT X W (.Compare a [op] [b] pos) (tBl (eBin f ca cb)) :=
  pt_imp (pt_cmpR ho ha hb hm) fun σ H Q h => rd_tBl (t := tOp r (rdE X.K X.mg W ca) (rdE X.K X.mg W cb)) (rd_bin h2) σ H Q h
/-- a < b < c -/
def eChain (f g : F2) (ca cb cc : CE PV) : CE PV := fun ρ S => (ca ρ S).bind fun x S1 => (cb ρ S1).bind fun y S2 => (f x y S2).bind fun z S3 => match z with
  | .bl true => (cc ρ S3).bind fun u S4 => g y u S4
  | .bl false => .ok (.bl false) S3
  | _ => .stuck
theorem rd_chain {c : Expr} {cc : CE PV} {f g : F2} {r r' : R2} (h1 : Op2 X.K X.mg f r) (h2 : Op2 X.K X.mg g r') (σ : L2.St) (H : Hp) (Q : VK) (h : rdE X.K X.mg W (eChain f g ca cb cc) σ H Q) : tChain r r' (rdE X.K X.mg W ca) (rdE X.K X.mg W cb) (rdE X.K X.mg W cc) σ H Q := by
  obtain ⟨m, S, ρ, at_, fin⟩ := h
  refine ⟨m, S, ρ, at_, (Fin.bind at_ fin).mono fun v H1 q1 => ?_⟩
  obtain ⟨m1, S1, x, at1, r1, e1, l1, f1⟩ := q1
  refine ⟨m1, S1, ρ, at1, (Fin.bind at1 f1).mono fun u H2 q2 => ?_⟩
  obtain ⟨m2, S2, y, at2, r2, e2, l2, f2⟩ := q2
  refine h1 W σ m2 S2 H2 x y v u _ at2.rel (stbV e2 l2 r1) r2 ((Fin.bind at2 f2).mono fun z H3 q3 => ?_)
  obtain ⟨m3, S3, z', at3, r3, e3, l3, f3⟩ := q3
  cases z' with
  | bl b =>
    have ez : z = .bl b := r3.2
    refine ⟨b, ez, ?_⟩
    cases b with
    | false =>
      show (if false = true then _ else _)
      rw [if_neg Bool.false_ne_true]
      exact f3.here at3.rel ⟨rfl, rfl⟩
    | true =>
      show (if true = true then _ else _)
      rw [if_pos rfl]
      refine ⟨m3, S3, ρ, at3, (Fin.bind at3 f3).mono fun w H4 q4 => ?_⟩
      obtain ⟨m4, S4, t, at4, r4, e4, l4, f4⟩ := q4
      exact h2 W σ m4 S4 H4 y t u w Q at4.rel (stbV e4 l4 (stbV e3 l3 r2)) r4 f4
  | _ => exact f3.elim
end
end TL

set_option Elab.async false
set_option linter.all false
set_option maxRecDepth 100000
set_option maxHeartbeats 1000000
/-! TL2: operations on values. -/
namespace TL
open PySem PySem.Spec PyProof.Rows L2
section
variable {K : PySem.W.Frag} {mg : Str → Option Value} {W : WX} {σ : L2.St} {m : Mp} {S : Store} {H : Hp} {α β : Type} {Q : VK}
theorem Op2.or {f : F2} {r r' : R2} (h : ∀ (W : WX) (σ : L2.St) (m : Mp) (S : Store) (H : Hp) (x y : PV) (v u : V) (Q : VK),
    Rel K mg m S H → RV K S.length m H x v → RV K S.length m H y u → Fin K mg W σ m S H (RV K) Q (f x y S) → r v u H Q ∨ r' v u H Q) : Op2 K mg f (fun x y H Q => r x y H Q ∨ r' x y H Q) :=
  fun W σ m S H x y v u Q a b c d => h W σ m S H x y v u Q a b c d
/-- a new tuple -/
theorem Fin.tup {zs : List PV} {vs : List V} (f : Fin K mg W σ m S H (RV K) Q (.ok (.tup zs) S)) (r : Rel K mg m S H) (b : bnds S.length zs = true) (h : Rps K m H zs vs) {p : Addr} (hp : H p = none) : Q (.ref p) (upd H p (.tup vs)) := by
  have e : Ext K S.length m H m (upd H p (.tup vs)) := ext_new hp fun _ _ => rfl
  exact f m _ _ e (Nat.le_refl _) (r.newT hp) ⟨b, p, vs, rfl, upd_same, h.ext e zs vs b⟩
/-- a new list -/
theorem Fin.lst {zs : List PV} {vs : List V} (f : Fin K mg W σ m S H (RV K) Q (.ok (.obj S.length) (S ++ [.lst zs]))) (r : Rel K mg m S H) (b : bnds S.length zs = true) (h : Rps K m H zs vs) {p : Addr} (hp : H p = none) : Q (.ref p) (upd H p (.lst vs)) := by
  have e : Ext K S.length m H (mNew m S.length p) (upd H p (.lst vs)) := ext_new hp fun i hi => mNew_lt hi
  have l : S.length ≤ (S ++ [PO.lst zs]).length := by rw [List.length_append]; omega
  refine f (mNew m S.length p) _ _ e l (r.newO hp (bnds_mono (Nat.le_succ _) zs b) ⟨vs, upd_same, h.ext e zs vs b⟩) ⟨decide_eq_true ?_, ?_⟩
  · rw [List.length_append, List.length_singleton]; omega
  · show V.ref p = V.ref (mNew m S.length p S.length)
    rw [mNew_at]
theorem Fin.dicK {zs : List (PV × PV)} {vs : List (Key × V)} (f : Fin K mg W σ m S H (RV K) Q (.ok (.obj S.length) (S ++ [.dic false zs]))) (r : Rel K mg m S H) (b : bnds S.length (zs.map (·.2)) = true) (h : KvK K m H zs vs) {p : Addr} (hp : H p = none) : Q (.ref p) (upd H p (.dK vs)) := by
  have e : Ext K S.length m H (mNew m S.length p) (upd H p (.dK vs)) := ext_new hp fun i hi => mNew_lt hi
  have l : S.length ≤ (S ++ [PO.dic false zs]).length := by rw [List.length_append]; omega
  refine f (mNew m S.length p) _ _ e l (r.newO hp (bnds_mono (Nat.le_succ _) _ b) (.inl ⟨vs, upd_same, KvK.ext e zs vs b h⟩)) ⟨decide_eq_true ?_, ?_⟩
  · rw [List.length_append, List.length_singleton]; omega
  · show V.ref p = V.ref (mNew m S.length p S.length)
    rw [mNew_at]
/-- the list that stands at i in the store -/
theorem Rel.lst (r : Rel K mg m S H) {i : Nat} {xs : List PV} (e : S[i]? = some (.lst xs)) : bnds S.length xs = true ∧ ∃ vs, H (m i) = some (.lst vs) ∧ Rps K m H xs vs := ⟨r.wf i _ e, r.ob i _ e⟩
end

/-! ### arithmetic -/
def f2I (g : Int → Int → PV) : F2 := fun x y S => match x, y with
  | .int i, .int j => .ok (g i j) S
  | _, _ => .stuck
theorem op2_I {K : PySem.W.Frag} {mg : Str → Option Value} {g : Int → Int → PV} {g' : Int → Int → V} (hb : ∀ n i j, bnd n (g i j) = true) (hr : ∀ m H i j, Rp K m H (g i j) (g' i j)) : Op2 K mg (f2I g) (rI0 g') := by
  intro W σ m S H x y v u Q rel rx ry f
  unfold f2I at f
  cases x with
  | int i =>
    cases y with
    | int j => exact ⟨i, j, rx.2, ry.2, f.here rel ⟨hb _ _ _, hr _ _ _ _⟩⟩
    | _ => exact f.elim
  | _ => exact f.elim
def f2C (c : Int → Int → Bool) (g : Int → Int → Int) : F2 := fun x y S => match x, y with
  | .int i, .int j => if c i j = true then .ok (.int (g i j)) S else .stuck
  | _, _ => .stuck
theorem op2_C {K : PySem.W.Frag} {mg : Str → Option Value} {c : Int → Int → Bool} {C : Int → Int → Prop} {g : Int → Int → Int} (hc : ∀ i j, c i j = true → C i j) : Op2 K mg (f2C c g) (rI C fun i j => .int (g i j)) := by
  intro W σ m S H x y v u Q rel rx ry f
  unfold f2C at f
  cases x with
  | int i =>
    cases y with
    | int j =>
      by_cases h : c i j = true
      · have f' : Fin K mg W σ m S H (RV K) Q (if c i j = true then .ok (.int (g i j)) S else .stuck) := f
        rw [if_pos h] at f'
        exact ⟨i, j, rx.2, ry.2, hc i j h, f'.here rel ⟨rfl, rfl⟩⟩
      · have f' : Fin K mg W σ m S H (RV K) Q (if c i j = true then .ok (.int (g i j)) S else .stuck) := f
        rw [if_neg h] at f'
        exact f'.elim
    | _ => exact f.elim
  | _ => exact f.elim
/-- a + b: ints, texts, tuples, lists -/
def addV : F2 := fun x y S => match x, y with
  | .int i, .int j => .ok (.int (i + j)) S
  | .str a, .str b => if a.length + b.length ≤ sizeLine then .ok (.str (a ++ b)) S else .stuck
  | .tup a, .tup b => if a.length + b.length ≤ sizeLine then .ok (.tup (a ++ b)) S else .stuck
  | .kup a, .tup b => if a.length + b.length ≤ sizeLine ∧ a ≠ [] ∧ b ≠ [] then .ok (.tup (a ++ b)) S else .stuck
  | .obj i, .obj j => match S[i]?, S[j]? with
    | some (.lst a), some (.lst b) => if a.length + b.length ≤ sizeLine then .ok (.obj S.length) (S ++ [.lst (a ++ b)]) else .stuck
    | _, _ => .stuck
  | _, _ => .stuck
def rAddV (K : PySem.W.Frag) : R2 := fun x y H Q => rI0 (fun i j => .int (i + j)) x y H Q ∨ (∃ i j, x = .str i ∧ y = .str j ∧ i.length + j.length ≤ sizeLine ∧ Q (.str (i ++ j)) H) ∨ rCatA K x y H Q ∨ rCat x y H Q
theorem op_addV {X : Cx} : OpR X (binaryOp .Add) (rAddV X.K) := op_add.or (op_add_str.or (op_catA.or op_cat))
theorem op2_add {K : PySem.W.Frag} {mg : Str → Option Value} : Op2 K mg addV (rAddV K) := by
  intro W σ m S H x y v u Q rel rx ry f
  unfold addV at f
  cases x with
  | int i =>
    cases y with
    | int j => exact .inl ⟨i, j, rx.2, ry.2, f.here rel ⟨rfl, rfl⟩⟩
    | _ => exact f.elim
  | str a =>
    cases y with
    | str b =>
      simp only at f
      by_cases h : a.length + b.length ≤ sizeLine
      · rw [if_pos h] at f
        exact .inr (.inl ⟨a, b, rx.2, ry.2, h, f.here rel ⟨rfl, rfl⟩⟩)
      · rw [if_neg h] at f
        exact f.elim
    | _ => exact f.elim
  | tup a =>
    cases y with
    | tup b =>
      simp only at f
      obtain ⟨b1, p, vs, rfl, hp, hvs⟩ := rx
      obtain ⟨b2, q, us, rfl, hq, hus⟩ := ry
      have la := hvs.length
      have lb := hus.length
      by_cases h : a.length + b.length ≤ sizeLine
      · rw [if_pos h] at f
        refine .inr (.inr (.inl ⟨p, q, vs, us, rfl, rfl, SqT.of hp, SqT.of hq, by omega, fun e => ?_, fun e1 e2 => ?_, fun e1 e2 r hr => ?_⟩))
        · subst e
          have ea : a = [] := List.eq_nil_of_length_eq_zero (by rw [← la]; rfl)
          subst ea
          exact f.here rel ⟨b2, q, us, rfl, hq, hus⟩
        · subst e2
          have eb : b = [] := List.eq_nil_of_length_eq_zero (by rw [← lb]; rfl)
          subst eb
          rw [List.append_nil] at f
          exact f.here rel ⟨b1, p, vs, rfl, hp, hvs⟩
        · exact f.tup rel (bnds_append.mpr ⟨b1, b2⟩) (hvs.append hus) hr
      · rw [if_neg h] at f
        exact f.elim
    | _ => exact f.elim
  | kup a =>
    cases y with
    | tup b =>
      simp only at f
      obtain ⟨b1, p, vs, rfl, hp, hvs⟩ := rx
      obtain ⟨b2, q, us, rfl, hq, hus⟩ := ry
      have la := hvs.length
      have lb := hus.length
      by_cases h : a.length + b.length ≤ sizeLine ∧ a ≠ [] ∧ b ≠ []
      · rw [if_pos h] at f
        refine .inr (.inr (.inl ⟨p, q, vs, us, rfl, rfl, hp.t, SqT.of hq, by omega, fun e => ?_, fun e1 e2 => ?_, fun e1 e2 r hr => ?_⟩))
        · subst e
          exact absurd (List.eq_nil_of_length_eq_zero (by rw [← la]; rfl)) h.2.1
        · subst e2
          exact absurd (List.eq_nil_of_length_eq_zero (by rw [← lb]; rfl)) h.2.2
        · exact f.tup rel (bnds_append.mpr ⟨b1, b2⟩) (hvs.append hus) hr
      · rw [if_neg h] at f
        exact f.elim
    | _ => exact f.elim
  | obj i =>
    cases y with
    | obj j =>
      simp only at f
      have ex : v = .ref (m i) := rx.2
      have ey : u = .ref (m j) := ry.2
      cases ei : S[i]? with
      | none => rw [ei] at f; exact f.elim
      | some o =>
        rw [ei] at f
        cases o with
        | lst a =>
          cases ej : S[j]? with
          | none => rw [ej] at f; exact f.elim
          | some o' =>
            rw [ej] at f
            cases o' with
            | lst b =>
              simp only at f
              obtain ⟨b1, vs, h1, r1⟩ := rel.lst ei
              obtain ⟨b2, us, h2, r2⟩ := rel.lst ej
              have la := r1.length
              have lb := r2.length
              by_cases h : a.length + b.length ≤ sizeLine
              · rw [if_pos h] at f
                exact .inr (.inr (.inr ⟨m i, m j, vs, us, ex, ey, h1, h2, by omega, fun p hp => f.lst rel (bnds_append.mpr ⟨b1, b2⟩) (r1.append r2) hp⟩))
              · rw [if_neg h] at f
                exact f.elim
            | _ => exact f.elim
        | _ => exact f.elim
    | _ => exact f.elim
  | _ => exact f.elim
abbrev subV : F2 := f2I fun i j => .int (i - j)
theorem op2_sub {K : PySem.W.Frag} {mg : Str → Option Value} : Op2 K mg subV (rI0 fun i j => .int (i - j)) := op2_I (fun _ _ _ => rfl) fun _ _ _ _ => rfl
def mulOk (i j : Int) : Bool := (decide (i.natAbs < 2 ^ 64) || decide (j.natAbs < 2 ^ 64)) || decide (i.natAbs.log2 + j.natAbs.log2 < 1000000)
def CMulX (i j : Int) : Prop := IntMulOk i j
theorem mulOk_ok {i j : Int} (h : mulOk i j = true) : CMulX i j := by
  unfold mulOk at h
  rw [Bool.or_eq_true, Bool.or_eq_true] at h
  rcases h with (h | h) | h
  · have h' := of_decide_eq_true h
    exact CMul.ok (.inl (by omega))
  · have h' := of_decide_eq_true h
    exact CMul.ok (.inr (by omega))
  · have h' := of_decide_eq_true h
    exact CMulW.ok h'
/-- a * b: ints; a list some times over -/
def mulV : F2 := fun x y S => match x, y with
  | .int i, .int j => if mulOk i j = true then .ok (.int (i * j)) S else .stuck
  | .obj i, .int k => match S[i]? with
    | some (.lst a) => if -(2 ^ 63) ≤ k ∧ k < 2 ^ 63 ∧ a.length * k.toNat ≤ sizeLine then .ok (.obj S.length) (S ++ [.lst (List.replicate k.toNat a).flatten]) else .stuck
    | _ => .stuck
  | _, _ => .stuck
def rMulV : R2 := fun x y H Q => rI CMulX (fun i j => .int (i * j)) x y H Q ∨ rRep x y H Q
theorem op_mulV {X : Cx} : OpR X (binaryOp .Mult) rMulV := (opI fun _ _ _ _ _ _ _ hc q => mul_int q hc).or op_rep
theorem Rps.flat {K : PySem.W.Frag} {m : Mp} {H : Hp} {xs : List PV} {vs : List V} (h : Rps K m H xs vs) : ∀ k : Nat, Rps K m H (List.replicate k xs).flatten (List.replicate k vs).flatten
  | 0 => rfl
  | k + 1 => by
    rw [List.replicate_succ, List.replicate_succ, List.flatten_cons, List.flatten_cons]
    exact h.append (Rps.flat h k)
theorem bnds_flat {n : Nat} {xs : List PV} (h : bnds n xs = true) : ∀ k : Nat, bnds n (List.replicate k xs).flatten = true
  | 0 => rfl
  | k + 1 => by
    rw [List.replicate_succ, List.flatten_cons]
    exact bnds_append.mpr ⟨h, bnds_flat h k⟩
theorem op2_mul {K : PySem.W.Frag} {mg : Str → Option Value} : Op2 K mg mulV rMulV := by
  intro W σ m S H x y v u Q rel rx ry f
  unfold mulV at f
  cases x with
  | int i =>
    cases y with
    | int j =>
      simp only at f
      by_cases h : mulOk i j = true
      · rw [if_pos h] at f
        exact .inl ⟨i, j, rx.2, ry.2, mulOk_ok h, f.here rel ⟨rfl, rfl⟩⟩
      · rw [if_neg h] at f
        exact f.elim
    | _ => exact f.elim
  | obj i =>
    cases y with
    | int k =>
      simp only at f
      have ex : v = .ref (m i) := rx.2
      cases ei : S[i]? with
      | none => rw [ei] at f; exact f.elim
      | some o =>
        rw [ei] at f
        cases o with
        | lst a =>
          simp only at f
          obtain ⟨b1, vs, h1, r1⟩ := rel.lst ei
          have la := r1.length
          by_cases h : -(2 ^ 63) ≤ k ∧ k < 2 ^ 63 ∧ a.length * k.toNat ≤ sizeLine
          · rw [if_pos h] at f
            exact .inr ⟨m i, k, vs, ex, ry.2, h1, h.1, h.2.1, by rw [la]; exact h.2.2, fun p hp => f.lst rel (bnds_flat b1 _) (r1.flat _) hp⟩
          · rw [if_neg h] at f
            exact f.elim
        | _ => exact f.elim
    | _ => exact f.elim
  | _ => exact f.elim
def divOk (j : Int) : Bool := decide (j ≠ 0) && decide (j.natAbs.log2 < 9000)
def CDivX (_ j : Int) : Prop := j ≠ 0 ∧ j.natAbs.log2 < 9000
theorem op_fdivX {X : Cx} : OpR X (binaryOp .FloorDiv) (rI CDivX fun i j => .int (i.fdiv j)) := opI fun _ _ _ _ _ _ _ hc q => floordiv_int hc.1 q (.inl (PyProof.noPylong_of_log2 hc.2))
abbrev fdivV : F2 := f2C (fun _ j => divOk j) fun i j => i.fdiv j
theorem op2_fdiv {K : PySem.W.Frag} {mg : Str → Option Value} : Op2 K mg fdivV (rI CDivX fun i j => .int (i.fdiv j)) := op2_C fun i j h => by
  have h' := Bool.and_eq_true_iff.mp h
  exact ⟨of_decide_eq_true h'.1, of_decide_eq_true h'.2⟩
abbrev modV : F2 := f2C (fun _ j => decide (j ≠ 0)) fun i j => i.fmod j
theorem op2_mod {K : PySem.W.Frag} {mg : Str → Option Value} : Op2 K mg modV (rI (fun _ j => j ≠ 0) fun i j => .int (i.fmod j)) := op2_C fun i j h => of_decide_eq_true h
def powOk (i j : Int) : Bool := decide (0 ≤ j) && decide (j ≤ 1000000) && decide (i.natAbs < 2 ^ 64)
abbrev powV : F2 := f2C powOk fun i j => i ^ j.toNat
theorem op2_pow {K : PySem.W.Frag} {mg : Str → Option Value} : Op2 K mg powV (rI CPow fun i j => .int (i ^ j.toNat)) := op2_C fun i j h => by
  have h' := Bool.and_eq_true_iff.mp h
  have h2 := Bool.and_eq_true_iff.mp h'.1
  exact ⟨of_decide_eq_true h2.1, of_decide_eq_true h2.2, of_decide_eq_true h'.2⟩
/-! ### comparisons -/
abbrev ltV : F2 := f2I fun i j => .bl (decide (i < j))
abbrev leV : F2 := f2I fun i j => .bl (decide (i ≤ j))
abbrev gtV : F2 := f2I fun i j => .bl (decide (j < i))
abbrev geV : F2 := f2I fun i j => .bl (decide (j ≤ i))
theorem op2_lt {K : PySem.W.Frag} {mg : Str → Option Value} : Op2 K mg ltV (rI0 fun i j => .bl (decide (i < j))) := op2_I (fun _ _ _ => rfl) fun _ _ _ _ => rfl
theorem op2_le {K : PySem.W.Frag} {mg : Str → Option Value} : Op2 K mg leV (rI0 fun i j => .bl (decide (i ≤ j))) := op2_I (fun _ _ _ => rfl) fun _ _ _ _ => rfl
theorem op2_gt {K : PySem.W.Frag} {mg : Str → Option Value} : Op2 K mg gtV (rI0 fun i j => .bl (decide (j < i))) := op2_I (fun _ _ _ => rfl) fun _ _ _ _ => rfl
theorem op2_ge {K : PySem.W.Frag} {mg : Str → Option Value} : Op2 K mg geV (rI0 fun i j => .bl (decide (j ≤ i))) := op2_I (fun _ _ _ => rfl) fun _ _ _ _ => rfl
/-- the data that a value is -/
def dList (f : PV → Option PyData) : List PV → Option (List PyData)
  | [] => some []
  | x :: xs => match f x, dList f xs with
    | some d, some ds => some (d :: ds)
    | _, _ => none
def toD (S : Store) : Nat → PV → Option PyData
  | _, .non => some .none
  | _, .bl b => some (.bool b)
  | _, .int i => some (.int i)
  | _, .str x => some (.str x)
  | k + 1, .tup xs => (dList (toD S k) xs).map .tuple
  | k + 1, .kup xs => (dList (toD S k) xs).map .tuple
  | k + 1, .rol xs => (dList (toD S k) xs).map .list
  | k + 1, .obj i => match S[i]? with
    | some (.lst xs) => (dList (toD S k) xs).map .list
    | _ => none
  | _, _ => none
theorem dp_of {K : PySem.W.Frag} {mg : Str → Option Value} {m : Mp} {S : Store} {H : Hp} (r : Rel K mg m S H) : ∀ (k : Nat) (x : PV) (v : V) (d : PyData), Rp K m H x v → toD S k x = some d → Dp K H v d := by
  have all : ∀ (f : PV → Option PyData), (∀ x v d, Rp K m H x v → f x = some d → Dp K H v d) → ∀ (xs : List PV) (vs : List V) (ds : List PyData), Rps K m H xs vs → dList f xs = some ds → DpAll K H vs ds := by
    intro f hf xs
    induction xs with
    | nil =>
      intro vs ds h e
      have h' : vs = [] := h
      subst h'
      have e' : some [] = some ds := e
      cases e'
      exact .nil
    | cons x xs ih =>
      intro vs ds h e
      obtain ⟨v, r, rfl, h1, h2⟩ := h
      unfold dList at e
      cases e1 : f x with
      | none => rw [e1] at e; cases e
      | some d =>
        cases e2 : dList f xs with
        | none => rw [e1, e2] at e; cases e
        | some ds' =>
          rw [e1, e2] at e
          cases e
          exact .cons (hf x v d h1 e1) (ih r ds' h2 e2)
  intro k
  induction k with
  | zero =>
    intro x v d h e
    cases x with
    | non => cases e; have h' : v = .non := h; subst h'; exact .non
    | bl b => cases e; have h' : v = .bl b := h; subst h'; exact .bl b
    | int i => cases e; have h' : v = .int i := h; subst h'; exact .int i
    | str z => cases e; have h' : v = .str z := h; subst h'; exact .str z
    | _ => cases e
  | succ k ih =>
    intro x v d h e
    cases x with
    | non => cases e; have h' : v = .non := h; subst h'; exact .non
    | bl b => cases e; have h' : v = .bl b := h; subst h'; exact .bl b
    | int i => cases e; have h' : v = .int i := h; subst h'; exact .int i
    | str z => cases e; have h' : v = .str z := h; subst h'; exact .str z
    | tup xs =>
      obtain ⟨a, vs, rfl, h1, h2⟩ := h
      have e' : (dList (toD S k) xs).map PyData.tuple = some d := e
      cases q : dList (toD S k) xs with
      | none => rw [q] at e'; cases e'
      | some ds =>
        rw [q] at e'
        cases e'
        exact .tup (SqT.of h1) (all _ (fun x v d => ih x v d) xs vs ds h2 q)
    | kup xs =>
      obtain ⟨a, vs, rfl, h1, h2⟩ := h
      have e' : (dList (toD S k) xs).map PyData.tuple = some d := e
      cases q : dList (toD S k) xs with
      | none => rw [q] at e'; cases e'
      | some ds =>
        rw [q] at e'
        cases e'
        exact .tup h1.t (all _ (fun x v d => ih x v d) xs vs ds h2 q)
    | rol xs =>
      obtain ⟨a, vs, rfl, h1, h2⟩ := h
      have e' : (dList (toD S k) xs).map PyData.list = some d := e
      cases q : dList (toD S k) xs with
      | none => rw [q] at e'; cases e'
      | some ds =>
        rw [q] at e'
        cases e'
        exact .lst h1.l (all _ (fun x v d => ih x v d) xs vs ds h2 q)
    | obj i =>
      have h' : v = .ref (m i) := h
      subst h'
      cases ei : S[i]? with
      | none =>
        have e' : (match S[i]? with | some (.lst xs) => (dList (toD S k) xs).map PyData.list | _ => none) = some d := e
        rw [ei] at e'; cases e'
      | some o =>
        have e' : (match S[i]? with | some (.lst xs) => (dList (toD S k) xs).map PyData.list | _ => none) = some d := e
        rw [ei] at e'
        cases o with
        | lst xs =>
          obtain ⟨_, vs, h1, h2⟩ := r.lst ei
          simp only at e'
          cases q : dList (toD S k) xs with
          | none => rw [q] at e'; cases e'
          | some ds =>
            rw [q] at e'
            cases e'
            exact .lst (SqL.of h1) (all _ (fun x v d => ih x v d) xs vs ds h2 q)
        | _ => cases e'
    | fn a => cases e
    | ty n => cases e
def eqD (g : Bool → Bool) (x y : PV) (S : Store) : Res PV := match toD S 66 x, toD S 66 y with
  | some d, some e => if SeqAt.shaped d = true ∧ SeqAt.shaped e = true then .ok (.bl (g (PyData.eqv d e))) S else .stuck
  | _, _ => .stuck
def eqG (g : Bool → Bool) : F2 := fun x y S => match x, y with
  | .int i, .int j => .ok (.bl (g (decide (i = j)))) S
  | .str i, .str j => .ok (.bl (g (decide (i = j)))) S
  | x, y => eqD g x y S
abbrev eqV : F2 := eqG fun b => b
abbrev neV : F2 := eqG fun b => !b
def rEqX (K : PySem.W.Frag) (g : Bool → Bool) : R2 := fun x y H Q => (scal x y = true ∧ Q (.bl (g (decide (x = y)))) H) ∨ ∃ d e, Dp K H x d ∧ Dp K H y e ∧ SeqAt.shaped d = true ∧ SeqAt.shaped e = true ∧ Q (.bl (g (PyData.eqv d e))) H
theorem op_eqX {X : Cx} (hu : X.A.units + 64 < cLine) : OpR X (compareOp .Eq) (rEqX X.K fun b => b) := op_eq.or (op_eqD hu)
theorem op_neX {X : Cx} (hu : X.A.units + 64 < cLine) : OpR X (compareOp .NotEq) (rEqX X.K fun b => !b) := op_ne.or (op_neD hu)
theorem op2_eqG {K : PySem.W.Frag} {mg : Str → Option Value} (g : Bool → Bool) : Op2 K mg (eqG g) (rEqX K g) := by
  have gen : ∀ (W : WX) (σ : L2.St) (m : Mp) (S : Store) (H : Hp) (x y : PV) (v u : V) (Q : VK), Rel K mg m S H → RV K S.length m H x v → RV K S.length m H y u → Fin K mg W σ m S H (RV K) Q (eqD g x y S) → rEqX K g v u H Q := by
    intro W σ m S H x y v u Q rel rx ry f
    unfold eqD at f
    cases e1 : toD S 66 x with
    | none => rw [e1] at f; exact f.elim
    | some d =>
      cases e2 : toD S 66 y with
      | none => rw [e1, e2] at f; exact f.elim
      | some e =>
        rw [e1, e2] at f
        simp only at f
        by_cases h : SeqAt.shaped d = true ∧ SeqAt.shaped e = true
        · rw [if_pos h] at f
          exact .inr ⟨d, e, dp_of rel 66 x v d rx.2 e1, dp_of rel 66 y u e ry.2 e2, h.1, h.2, f.here rel ⟨rfl, rfl⟩⟩
        · rw [if_neg h] at f
          exact f.elim
  intro W σ m S H x y v u Q rel rx ry f
  unfold eqG at f
  cases x with
  | int i =>
    cases y with
    | int j =>
      have e1 : v = .int i := rx.2
      have e2 : u = .int j := ry.2
      subst e1 e2
      refine .inl ⟨rfl, ?_⟩
      have e : decide (V.int i = V.int j) = decide (i = j) := by rw [dec_int]; rfl
      rw [e]
      exact f.here rel ⟨rfl, rfl⟩
    | _ => exact gen W σ m S H _ _ v u Q rel rx ry f
  | str i =>
    cases y with
    | str j =>
      have e1 : v = .str i := rx.2
      have e2 : u = .str j := ry.2
      subst e1 e2
      refine .inl ⟨rfl, ?_⟩
      have e : decide (V.str i = V.str j) = decide (i = j) := by
        by_cases q : i = j
        · subst q; simp
        · rw [decide_eq_false q, decide_eq_false fun z => q (V.str.inj z)]
      rw [e]
      exact f.here rel ⟨rfl, rfl⟩
    | _ => exact gen W σ m S H _ _ v u Q rel rx ry f
  | _ => exact gen W σ m S H _ _ v u Q rel rx ry f
/-- is None, is not None -/
def isNon : PV → Bool
  | .non => true
  | _ => false
def isG (g : Bool → Bool) : F2 := fun x y S => match y with
  | .non => .ok (.bl (g (isNon x))) S
  | _ => .stuck
abbrev isV : F2 := isG fun b => b
abbrev isnV : F2 := isG fun b => !b
theorem op2_isG {K : PySem.W.Frag} {mg : Str → Option Value} (g : Bool → Bool) : Op2 K mg (isG g) (fun x y H Q => y = .non ∧ Q (.bl (g (decide (x = .non)))) H) := by
  intro W σ m S H x y v u Q rel rx ry f
  unfold isG at f
  cases y with
  | non =>
    refine ⟨ry.2, ?_⟩
    have e : decide (v = V.non) = isNon x := by
      cases x with
      | non =>
        have h : v = .non := rx.2
        subst h
        rfl
      | bl b => have h : v = .bl b := rx.2; subst h; rfl
      | int b => have h : v = .int b := rx.2; subst h; rfl
      | str b => have h : v = .str b := rx.2; subst h; rfl
      | tup b => obtain ⟨_, a, vs, rfl, _⟩ := rx; rfl
      | rol b => obtain ⟨_, a, vs, rfl, _⟩ := rx; rfl
      | kup b => obtain ⟨_, a, vs, rfl, _⟩ := rx; rfl
      | obj b => have h : v = .ref (m b) := rx.2; subst h; rfl
      | fn b => have h : v = .ref b := rx.2; subst h; rfl
      | ty b => have h : v = .ty b := rx.2; subst h; rfl
    rw [e]
    exact f.here rel ⟨rfl, rfl⟩
  | _ => exact f.elim
end TL

set_option Elab.async false
set_option linter.all false
set_option maxRecDepth 100000
set_option maxHeartbeats 1000000
/-! TL3: tests, displays, subscripts, dicts, slices, calls of defs. -/
namespace TL
open PySem PySem.Spec PyProof.Rows L2
section
variable {X : Cx} {W : WX} {pos : Pos} {a b : Expr} {rest : List Expr} {ca cb cc : CE PV} {ta tb : CE Bool}
theorem de_chain {op op' : CmpOp} {f g : F2} {r r' : R2} {c : Expr} (ho : OpR X (compareOp op) r) (h1 : Op2 X.K X.mg f r) (ho' : OpR X (compareOp op') r') (h2 : Op2 X.K X.mg g r') (ha : DE X W a ca) (hb : DE X W b cb) (hc : DE X W c cc)
    (hm : lastMarks [op, op'] [b, c] = false := by with_unfolding_all rfl) : DE X W (.Compare a [op, op'] [b, c] pos) (eChain f g ca cb cc) := pe_imp (pe_chain ho ho' ha hb hc hm) (rd_chain (c := c) h1 h2)
theorem dt_chain {op op' : CmpOp} {f g : F2} {r r' : R2} {c : Expr} (ho : OpR X (compareOp op) r) (h1 : Op2 X.K X.mg f r) (ho' : OpR X (compareOp op') r') (h2 : Op2 X.K X.mg g r') (ha : DE X W a ca) (hb : DE X W b cb) (hc : DE X W c cc)
    (hm : lastMarks [op, op'] [b, c] = false := by with_unfolding_all rfl) : DT X W (.Compare a [op, op'] [b, c] pos) (tBl (eChain f g ca cb cc)) :=
  pt_imp (pt_chain ho ho' ha hb hc hm) fun σ H Q h => rd_tBl (t := tChain r r' (rdE X.K X.mg W ca) (rdE X.K X.mg W cb) (rdE X.K X.mg W cc)) (rd_chain (c := c) h1 h2) σ H Q h
/-! ### truth -/
def truV (x : PV) (S : Store) : Option Bool := match x with
  | .non => some false
  | .bl b => some b
  | .int i => some (i != 0)
  | .str y => if y.length ≤ sizeLine then some ((y.length : Int) != 0) else none
  | .tup xs => some (!xs.isEmpty)
  | .kup xs => some (!xs.isEmpty)
  | .rol xs => some (!xs.isEmpty)
  | .obj i => match S[i]? with
    | some (.lst xs) => some (!xs.isEmpty)
    | _ => none
  | _ => none
def tTru (c : CE PV) : CE Bool := fun ρ S => (c ρ S).bind fun x S1 => match truV x S1 with
  | some b => .ok b S1
  | none => .stuck
theorem Rps.isEmpty {K : PySem.W.Frag} {m : Mp} {H : Hp} : ∀ {xs : List PV} {vs : List V}, Rps K m H xs vs → vs.isEmpty = xs.isEmpty
  | [], vs, h => by
    have h' : vs = [] := h
    rw [h']; rfl
  | x :: xs, vs, h => by
    obtain ⟨v, r, rfl, _⟩ := h
    rfl
theorem tru_of {K : PySem.W.Frag} {mg : Str → Option Value} {m : Mp} {S : Store} {H : Hp} {x : PV} {v : V} {k : Bool} (r : Rel K mg m S H) (h : RV K S.length m H x v) (e : truV x S = some k) : TruV K v H k := by
  unfold truV at e
  cases x with
  | non => have h' : v = .non := h.2; subst h'; cases e; rfl
  | bl b => have h' : v = .bl b := h.2; subst h'; cases e; rfl
  | int b => have h' : v = .int b := h.2; subst h'; cases e; rfl
  | str b =>
    have h' : v = .str b := h.2
    subst h'
    simp only at e
    by_cases q : b.length ≤ sizeLine
    · rw [if_pos q] at e
      cases e
      exact ⟨q, rfl⟩
    · rw [if_neg q] at e
      cases e
  | tup xs => obtain ⟨_, p, vs, rfl, h1, h2⟩ := h; cases e; exact .inr (.inl ⟨vs, SqT.of h1, by rw [h2.isEmpty]⟩)
  | kup xs => obtain ⟨_, p, vs, rfl, h1, h2⟩ := h; cases e; exact .inr (.inl ⟨vs, h1.t, by rw [h2.isEmpty]⟩)
  | rol xs => obtain ⟨_, p, vs, rfl, h1, h2⟩ := h; cases e; exact .inl ⟨vs, h1.l, by rw [h2.isEmpty]⟩
  | obj i =>
    have h' : v = .ref (m i) := h.2
    subst h'
    simp only at e
    cases ei : S[i]? with
    | none => rw [ei] at e; cases e
    | some o =>
      rw [ei] at e
      cases o with
      | lst xs =>
        cases e
        obtain ⟨_, vs, h1, h2⟩ := r.lst ei
        exact .inl ⟨vs, SqL.of h1, by rw [h2.isEmpty]⟩
      | _ => cases e
  | fn a => cases e
  | ty n => cases e
theorem dt_tru (h : DE X W a ca) (he : ∀ whole, isTrue a X.env whole = (do let v ← whole; standAt a.pos; holding [v] (truthy v)) := by intro _; rfl) : DT X W a (tTru ca) := by
  refine pt_imp (pt_truth h he) fun σ H Q h => ?_
  obtain ⟨m, S, ρ, at_, fin⟩ := h
  refine ⟨m, S, ρ, at_, (Fin.bind at_ fin).mono fun v H1 h1 => ?_⟩
  obtain ⟨m1, S1, x, at1, r1, e1, l1, f1⟩ := h1
  cases e : truV x S1 with
  | none => simp only [e] at f1; exact f1.elim
  | some k =>
    simp only [e] at f1
    exact ⟨k, tru_of at1.rel r1 e, f1.here at1.rel rfl⟩
/-! ### and, or, not -/
def cAnd (a b : CE Bool) : CE Bool := fun ρ S => (a ρ S).bind fun k S1 => if k = true then b ρ S1 else .ok false S1
def cOr (a b : CE Bool) : CE Bool := fun ρ S => (a ρ S).bind fun k S1 => if k = true then .ok true S1 else b ρ S1
def cNot (a : CE Bool) : CE Bool := fun ρ S => (a ρ S).bind fun k S1 => .ok (!k) S1
theorem dw_and1 (ha : DT X W a ta) : DW X W (.BoolOp .And [a] pos) ta := pw_and1 ha
theorem dw_or1 (ha : DT X W a ta) : DW X W (.BoolOp .Or [a] pos) ta := pw_or1 ha
theorem dw_and (ha : DT X W a ta) (hb : DW X W (.BoolOp .And (b :: rest) pos) tb) : DW X W (.BoolOp .And (a :: b :: rest) pos) (cAnd ta tb) := by
  refine pw_imp (L2.pw_and ha hb) fun σ H Q h => ?_
  obtain ⟨m, S, ρ, at_, fin⟩ := h
  refine ⟨m, S, ρ, at_, (Fin.bind at_ fin).mono fun v H1 h1 => ?_⟩
  obtain ⟨m1, S1, x, at1, r1, e1, l1, f1⟩ := h1
  have r1' : x = v := r1
  subst r1'
  cases x with
  | true =>
    show (if true = true then _ else _)
    rw [if_pos rfl]
    exact ⟨m1, S1, ρ, at1, f1⟩
  | false =>
    show (if false = true then _ else _)
    rw [if_neg Bool.false_ne_true]
    exact f1.here at1.rel rfl
theorem dw_or (ha : DT X W a ta) (hb : DW X W (.BoolOp .Or (b :: rest) pos) tb) : DW X W (.BoolOp .Or (a :: b :: rest) pos) (cOr ta tb) := by
  refine pw_imp (L2.pw_or ha hb) fun σ H Q h => ?_
  obtain ⟨m, S, ρ, at_, fin⟩ := h
  refine ⟨m, S, ρ, at_, (Fin.bind at_ fin).mono fun v H1 h1 => ?_⟩
  obtain ⟨m1, S1, x, at1, r1, e1, l1, f1⟩ := h1
  have r1' : x = v := r1
  subst r1'
  cases x with
  | true =>
    show (if true = true then _ else _)
    rw [if_pos rfl]
    exact f1.here at1.rel rfl
  | false =>
    show (if false = true then _ else _)
    rw [if_neg Bool.false_ne_true]
    exact ⟨m1, S1, ρ, at1, f1⟩
theorem dt_w (h : DW X W a ta) : DT X W a ta := h.pt
theorem dt_not (ha : DT X W a ta) : DT X W (.UnaryOp .Not a pos) (cNot ta) := by
  refine pt_imp (pt_not ha) fun σ H Q h => ?_
  obtain ⟨m, S, ρ, at_, fin⟩ := h
  refine ⟨m, S, ρ, at_, (Fin.bind at_ fin).mono fun v H1 h1 => ?_⟩
  obtain ⟨m1, S1, x, at1, r1, e1, l1, f1⟩ := h1
  have r1' : x = v := r1
  subst r1'
  exact f1.here at1.rel rfl
def eAnd (ca cb : CE PV) : CE PV := fun ρ S => (ca ρ S).bind fun x S1 => match x with
  | .bl k => if k = true then cb ρ S1 else .ok (.bl false) S1
  | _ => .stuck
def eOr (ca cb : CE PV) : CE PV := fun ρ S => (ca ρ S).bind fun x S1 => match x with
  | .bl k => if k = true then .ok (.bl true) S1 else cb ρ S1
  | _ => .stuck
def eNot (ca : CE PV) : CE PV := fun ρ S => (ca ρ S).bind fun x S1 => match x with
  | .bl k => .ok (.bl (!k)) S1
  | _ => .stuck
theorem de_one {op} (h : DE X W a ca) : DE X W (.BoolOp op [a] pos) ca := pe_one h
theorem de_and (ha : DE X W a ca) (hb : DE X W (.BoolOp .And (b :: rest) pos) cb) : DE X W (.BoolOp .And (a :: b :: rest) pos) (eAnd ca cb) := by
  refine pe_imp (pe_and ha hb) fun σ H Q h => ?_
  obtain ⟨m, S, ρ, at_, fin⟩ := h
  refine ⟨m, S, ρ, at_, (Fin.bind at_ fin).mono fun v H1 h1 => ?_⟩
  obtain ⟨m1, S1, x, at1, r1, e1, l1, f1⟩ := h1
  cases x with
  | bl k =>
    refine ⟨k, r1.2, ?_⟩
    cases k with
    | true =>
      show (if true = true then _ else _)
      rw [if_pos rfl]
      exact ⟨m1, S1, ρ, at1, f1⟩
    | false =>
      show (if false = true then _ else _)
      rw [if_neg Bool.false_ne_true]
      exact f1.here at1.rel ⟨rfl, rfl⟩
  | _ => exact f1.elim
theorem de_or (ha : DE X W a ca) (hb : DE X W (.BoolOp .Or (b :: rest) pos) cb) : DE X W (.BoolOp .Or (a :: b :: rest) pos) (eOr ca cb) := by
  refine pe_imp (pe_or ha hb) fun σ H Q h => ?_
  obtain ⟨m, S, ρ, at_, fin⟩ := h
  refine ⟨m, S, ρ, at_, (Fin.bind at_ fin).mono fun v H1 h1 => ?_⟩
  obtain ⟨m1, S1, x, at1, r1, e1, l1, f1⟩ := h1
  cases x with
  | bl k =>
    refine ⟨k, r1.2, ?_⟩
    cases k with
    | true =>
      show (if true = true then _ else _)
      rw [if_pos rfl]
      exact f1.here at1.rel ⟨rfl, rfl⟩
    | false =>
      show (if false = true then _ else _)
      rw [if_neg Bool.false_ne_true]
      exact ⟨m1, S1, ρ, at1, f1⟩
  | _ => exact f1.elim
theorem de_not (ha : DE X W a ca) : DE X W (.UnaryOp .Not a pos) (eNot ca) := by
  refine pe_imp (pe_not ha) fun σ H Q h => ?_
  obtain ⟨m, S, ρ, at_, fin⟩ := h
  refine ⟨m, S, ρ, at_, (Fin.bind at_ fin).mono fun v H1 h1 => ?_⟩
  obtain ⟨m1, S1, x, at1, r1, e1, l1, f1⟩ := h1
  cases x with
  | bl k => exact ⟨k, r1.2, f1.here at1.rel ⟨rfl, rfl⟩⟩
  | _ => exact f1.elim
def eIf (t : CE Bool) (ca cb : CE PV) : CE PV := fun ρ S => (t ρ S).bind fun k S1 => if k = true then ca ρ S1 else cb ρ S1
theorem de_if {c : Expr} (hc : DT X W c ta) (ha : DE X W a ca) (hb : DE X W b cb) : DE X W (.IfExp c a b pos) (eIf ta ca cb) := by
  refine pe_imp (pe_ifExp hc ha hb) fun σ H Q h => ?_
  obtain ⟨m, S, ρ, at_, fin⟩ := h
  refine ⟨m, S, ρ, at_, (Fin.bind at_ fin).mono fun v H1 h1 => ?_⟩
  obtain ⟨m1, S1, x, at1, r1, e1, l1, f1⟩ := h1
  have r1' : x = v := r1
  subst r1'
  cases x with
  | true =>
    show (if true = true then _ else _)
    rw [if_pos rfl]
    exact ⟨m1, S1, ρ, at1, f1⟩
  | false =>
    show (if false = true then _ else _)
    rw [if_neg Bool.false_ne_true]
    exact ⟨m1, S1, ρ, at1, f1⟩
def eNeg (ca : CE PV) : CE PV := fun ρ S => (ca ρ S).bind fun x S1 => match x with
  | .int i => .ok (.int (-i)) S1
  | _ => .stuck
theorem de_neg (ha : DE X W a ca) : DE X W (.UnaryOp .USub a pos) (eNeg ca) := by
  refine pe_imp (pe_un un_neg ha) fun σ H Q h => ?_
  obtain ⟨m, S, ρ, at_, fin⟩ := h
  refine ⟨m, S, ρ, at_, (Fin.bind at_ fin).mono fun v H1 h1 => ?_⟩
  obtain ⟨m1, S1, x, at1, r1, e1, l1, f1⟩ := h1
  cases x with
  | int k => exact ⟨k, r1.2, f1.here at1.rel ⟨rfl, rfl⟩⟩
  | _ => exact f1.elim
/-! ### lists of expressions, displays -/
def aNil : CE (List PV) := fun _ S => .ok [] S
def aCons (c : CE PV) (cs : CE (List PV)) : CE (List PV) := fun ρ S => (c ρ S).bind fun x S1 => (cs ρ S1).bind fun xs S2 => .ok (x :: xs) S2
variable {es : List Expr} {cs : CE (List PV)}
theorem da_nil : DA X W [] aNil := pa_imp pa_nil fun σ H Q h => by
  obtain ⟨m, S, ρ, at_, fin⟩ := h
  exact fin.here at_.rel ⟨rfl, rfl⟩
theorem da_cons (ha : DE X W a ca) (hr : DA X W es cs) (hs : starEach (a :: es) X.env = (false, eval a X.env) :: starEach es X.env := by rfl) : DA X W (a :: es) (aCons ca cs) := by
  refine pa_imp (pa_cons ha hr hs) fun σ H Q h => ?_
  obtain ⟨m, S, ρ, at_, fin⟩ := h
  refine ⟨m, S, ρ, at_, (Fin.bind at_ fin).mono fun v H1 h1 => ?_⟩
  obtain ⟨m1, S1, x, at1, r1, e1, l1, f1⟩ := h1
  refine ⟨m1, S1, ρ, at1, (Fin.bind at1 f1).mono fun vs H2 h2 => ?_⟩
  obtain ⟨m2, S2, xs, at2, r2, e2, l2, f2⟩ := h2
  obtain ⟨b1, p1⟩ := stbV e2 l2 r1
  exact f2.here at2.rel ⟨Bool.and_eq_true_iff.mpr ⟨b1, r2.1⟩, v, vs, rfl, p1, r2.2⟩
def eTup (cs : CE (List PV)) : CE PV := fun ρ S => (cs ρ S).bind fun xs S1 => if xs.length ≤ sizeLine then .ok (.tup xs) S1 else .stuck
def eLst (cs : CE (List PV)) : CE PV := fun ρ S => (cs ρ S).bind fun xs S1 => if xs.length ≤ sizeLine then .ok (.obj S1.length) (S1 ++ [.lst xs]) else .stuck
theorem de_tup {k : Nat} (h : DA X W es cs) : DE X W (.Tuple es k pos) (eTup cs) := by
  refine pe_imp (pe_tup h) fun σ H Q h => ?_
  obtain ⟨m, S, ρ, at_, fin⟩ := h
  refine ⟨m, S, ρ, at_, (Fin.bind at_ fin).mono fun v H1 h1 => ?_⟩
  obtain ⟨m1, S1, x, at1, r1, e1, l1, f1⟩ := h1
  dsimp only at f1
  by_cases q : x.length ≤ sizeLine
  · rw [if_pos q] at f1
    exact ⟨by rw [r1.2.length]; exact q, fun p hp => f1.tup at1.rel r1.1 r1.2 hp⟩
  · rw [if_neg q] at f1
    exact f1.elim
theorem de_lst (h : DA X W es cs) : DE X W (.List es pos) (eLst cs) := by
  refine pe_imp (pe_lst h) fun σ H Q h => ?_
  obtain ⟨m, S, ρ, at_, fin⟩ := h
  refine ⟨m, S, ρ, at_, (Fin.bind at_ fin).mono fun v H1 h1 => ?_⟩
  obtain ⟨m1, S1, x, at1, r1, e1, l1, f1⟩ := h1
  dsimp only at f1
  by_cases q : x.length ≤ sizeLine
  · rw [if_pos q] at f1
    exact ⟨by rw [r1.2.length]; exact q, fun p hp => f1.lst at1.rel r1.1 r1.2 hp⟩
  · rw [if_neg q] at f1
    exact f1.elim
def eDic : CE PV := fun ρ S => .ok (.obj S.length) (S ++ [.dic false []])
theorem de_dic : DE X W (.Dict [] [] pos) eDic := by
  refine pe_imp pe_dnewK fun σ H Q h => ?_
  obtain ⟨m, S, ρ, at_, fin⟩ := h
  intro p hp
  exact fin.dicK at_.rel rfl rfl hp
end
/-! ### dicts by their keys -/
def dget (kvs : List (PV × PV)) (k : PV) : Option PV := (kvs.find? fun kv => decide (kv.1 = k)).map (·.2)
def dput (kvs : List (PV × PV)) (k v : PV) : List (PV × PV) :=
  if (kvs.any fun kv => decide (kv.1 = k)) = true then kvs.map (fun kv => if kv.1 = k then (kv.1, v) else kv) else kvs ++ [(k, v)]
theorem keyOf_inj : ∀ {a b : PV} {k : Key}, keyOf a = some k → keyOf b = some k → a = b := by
  intro a b k h1 h2
  cases a with
  | int i =>
    cases b with
    | int j => rw [← h2] at h1; cases h1; rfl
    | str j => rw [← h2] at h1; cases h1
    | _ => cases h2
  | str i =>
    cases b with
    | int j => rw [← h2] at h1; cases h1
    | str j => rw [← h2] at h1; cases h1; rfl
    | _ => cases h2
  | _ => cases h1
theorem keysOf_inj : ∀ {a b : List PV} {k : List Key}, keysOf a = some k → keysOf b = some k → a = b
  | [], [], _, _, _ => rfl
  | [], y :: ys, k, h1, h2 => by
    cases h1
    unfold keysOf at h2
    split at h2 <;> cases h2
  | x :: xs, [], k, h1, h2 => by
    cases h2
    unfold keysOf at h1
    split at h1 <;> cases h1
  | x :: xs, y :: ys, k, h1, h2 => by
    unfold keysOf at h1 h2
    cases e1 : keyOf x with
    | none => rw [e1] at h1; cases h1
    | some k1 =>
      cases e2 : keysOf xs with
      | none => rw [e1, e2] at h1; cases h1
      | some ks1 =>
        cases e3 : keyOf y with
        | none => rw [e3] at h2; cases h2
        | some k2 =>
          cases e4 : keysOf ys with
          | none => rw [e3, e4] at h2; cases h2
          | some ks2 =>
            rw [e1, e2] at h1
            rw [e3, e4] at h2
            simp only [Option.some.injEq] at h1 h2
            rw [← h2] at h1
            obtain ⟨q1, q2⟩ := List.cons.inj h1
            subst q1 q2
            rw [keyOf_inj e1 e3, keysOf_inj e2 e4]
theorem tkeyOf_inj {a b : PV} {k : List Key} (h1 : tkeyOf a = some k) (h2 : tkeyOf b = some k) : a = b := by
  cases a with
  | tup xs =>
    cases b with
    | tup ys =>
      have e : xs = ys := keysOf_inj (k := k) h1 h2
      rw [e]
    | _ => cases h2
  | _ => cases h1
section
variable {K : PySem.W.Frag} {m : Mp} {H : Hp}
theorem KvK.get : ∀ {kvs : List (PV × PV)} {l : List (Key × V)} {k : PV} {kk : Key}, KvK K m H kvs l → keyOf k = some kk →
    (∀ x, dget kvs k = some x → ∃ v, valV l kk = some v ∧ Rp K m H x v) ∧ (dget kvs k = none → valV l kk = none)
  | [], l, k, kk, h, hk => by
    have h' : l = [] := h
    subst h'
    exact ⟨fun x e => (by cases e), fun _ => rfl⟩
  | p :: ps, l, k, kk, h, hk => by
    obtain ⟨q, r, rfl, h1, h2, h3⟩ := h
    by_cases e : p.1 = k
    · have eq : q.1 = kk := by
        rw [e, hk] at h1
        exact (Option.some.inj h1).symm
      have e1 : dget (p :: ps) k = some p.2 := by simp [dget, List.find?_cons, e]
      rw [valV_pos eq]
      exact ⟨fun x ex => by rw [e1] at ex; cases ex; exact ⟨q.2, rfl, h2⟩, fun z => by rw [e1] at z; cases z⟩
    · have eq : ¬ q.1 = kk := fun z => e (by rw [z] at h1; exact keyOf_inj h1 hk)
      have e1 : dget (p :: ps) k = dget ps k := by simp [dget, List.find?_cons, e]
      rw [valV_neg eq, e1]
      exact KvK.get h3 hk
theorem KvT.get : ∀ {kvs : List (PV × PV)} {l : List (List Key × V)} {k : PV} {kk : List Key}, KvT K m H kvs l → tkeyOf k = some kk →
    (∀ x, dget kvs k = some x → ∃ v, valV l kk = some v ∧ Rp K m H x v) ∧ (dget kvs k = none → valV l kk = none)
  | [], l, k, kk, h, hk => by
    have h' : l = [] := h
    subst h'
    exact ⟨fun x e => (by cases e), fun _ => rfl⟩
  | p :: ps, l, k, kk, h, hk => by
    obtain ⟨q, r, rfl, h1, h2, h3⟩ := h
    by_cases e : p.1 = k
    · have eq : q.1 = kk := by
        rw [e, hk] at h1
        exact (Option.some.inj h1).symm
      have e1 : dget (p :: ps) k = some p.2 := by simp [dget, List.find?_cons, e]
      rw [valV_pos eq]
      exact ⟨fun x ex => by rw [e1] at ex; cases ex; exact ⟨q.2, rfl, h2⟩, fun z => by rw [e1] at z; cases z⟩
    · have eq : ¬ q.1 = kk := fun z => e (by rw [z] at h1; exact tkeyOf_inj h1 hk)
      have e1 : dget (p :: ps) k = dget ps k := by simp [dget, List.find?_cons, e]
      rw [valV_neg eq, e1]
      exact KvT.get h3 hk
theorem KvK.length : ∀ {kvs : List (PV × PV)} {l : List (Key × V)}, KvK K m H kvs l → l.length = kvs.length
  | [], l, h => by
    have h' : l = [] := h
    rw [h']; rfl
  | p :: ps, l, h => by
    obtain ⟨q, r, rfl, _, _, h3⟩ := h
    rw [List.length_cons, List.length_cons, KvK.length h3]
theorem KvT.length : ∀ {kvs : List (PV × PV)} {l : List (List Key × V)}, KvT K m H kvs l → l.length = kvs.length
  | [], l, h => by
    have h' : l = [] := h
    rw [h']; rfl
  | p :: ps, l, h => by
    obtain ⟨q, r, rfl, _, _, h3⟩ := h
    rw [List.length_cons, List.length_cons, KvT.length h3]
theorem KvK.append : ∀ {kvs kws : List (PV × PV)} {l l' : List (Key × V)}, KvK K m H kvs l → KvK K m H kws l' → KvK K m H (kvs ++ kws) (l ++ l')
  | [], kws, l, l', h, h' => by
    have e : l = [] := h
    subst e
    exact h'
  | p :: ps, kws, l, l', h, h' => by
    obtain ⟨q, r, rfl, h1, h2, h3⟩ := h
    exact ⟨q, r ++ l', rfl, h1, h2, KvK.append h3 h'⟩
theorem KvT.append : ∀ {kvs kws : List (PV × PV)} {l l' : List (List Key × V)}, KvT K m H kvs l → KvT K m H kws l' → KvT K m H (kvs ++ kws) (l ++ l')
  | [], kws, l, l', h, h' => by
    have e : l = [] := h
    subst e
    exact h'
  | p :: ps, kws, l, l', h, h' => by
    obtain ⟨q, r, rfl, h1, h2, h3⟩ := h
    exact ⟨q, r ++ l', rfl, h1, h2, KvT.append h3 h'⟩
theorem KvK.anyk : ∀ {kvs : List (PV × PV)} {l : List (Key × V)} {k : PV} {kk : Key}, KvK K m H kvs l → keyOf k = some kk → (l.any fun kv => decide (kv.1 = kk)) = kvs.any fun kv => decide (kv.1 = k)
  | [], l, k, kk, h, hk => by
    have h' : l = [] := h
    rw [h']; rfl
  | p :: ps, l, k, kk, h, hk => by
    obtain ⟨q, r, rfl, h1, h2, h3⟩ := h
    rw [List.any_cons, List.any_cons, KvK.anyk h3 hk]
    have e : decide (q.1 = kk) = decide (p.1 = k) := by
      by_cases e : p.1 = k
      · have eq : q.1 = kk := by
          rw [e, hk] at h1
          exact (Option.some.inj h1).symm
        rw [decide_eq_true e, decide_eq_true eq]
      · have eq : ¬ q.1 = kk := fun z => e (by rw [z] at h1; exact keyOf_inj h1 hk)
        rw [decide_eq_false e, decide_eq_false eq]
    rw [e]
theorem KvT.anyk : ∀ {kvs : List (PV × PV)} {l : List (List Key × V)} {k : PV} {kk : List Key}, KvT K m H kvs l → tkeyOf k = some kk → (l.any fun kv => decide (kv.1 = kk)) = kvs.any fun kv => decide (kv.1 = k)
  | [], l, k, kk, h, hk => by
    have h' : l = [] := h
    rw [h']; rfl
  | p :: ps, l, k, kk, h, hk => by
    obtain ⟨q, r, rfl, h1, h2, h3⟩ := h
    rw [List.any_cons, List.any_cons, KvT.anyk h3 hk]
    have e : decide (q.1 = kk) = decide (p.1 = k) := by
      by_cases e : p.1 = k
      · have eq : q.1 = kk := by
          rw [e, hk] at h1
          exact (Option.some.inj h1).symm
        rw [decide_eq_true e, decide_eq_true eq]
      · have eq : ¬ q.1 = kk := fun z => e (by rw [z] at h1; exact tkeyOf_inj h1 hk)
        rw [decide_eq_false e, decide_eq_false eq]
    rw [e]
theorem KvK.upd1 : ∀ {kvs : List (PV × PV)} {l : List (Key × V)} {k x : PV} {kk : Key} {v : V}, KvK K m H kvs l → keyOf k = some kk → Rp K m H x v → KvK K m H (kvs.map fun kv => if kv.1 = k then (kv.1, x) else kv) (l.map fun kv => if kv.1 = kk then (kv.1, v) else kv)
  | [], l, k, x, kk, v, h, hk, hx => by
    have h' : l = [] := h
    subst h'
    exact rfl
  | p :: ps, l, k, x, kk, v, h, hk, hx => by
    obtain ⟨q, r, rfl, h1, h2, h3⟩ := h
    refine ⟨_, _, rfl, ?_, ?_, KvK.upd1 h3 hk hx⟩
    · dsimp only
      by_cases e : p.1 = k
      · have eq : q.1 = kk := by
          rw [e, hk] at h1
          exact (Option.some.inj h1).symm
        rw [if_pos e, if_pos eq]
        exact h1
      · have eq : ¬ q.1 = kk := fun z => e (by rw [z] at h1; exact keyOf_inj h1 hk)
        rw [if_neg e, if_neg eq]
        exact h1
    · dsimp only
      by_cases e : p.1 = k
      · have eq : q.1 = kk := by
          rw [e, hk] at h1
          exact (Option.some.inj h1).symm
        rw [if_pos e, if_pos eq]
        exact hx
      · have eq : ¬ q.1 = kk := fun z => e (by rw [z] at h1; exact keyOf_inj h1 hk)
        rw [if_neg e, if_neg eq]
        exact h2
theorem KvT.upd1 : ∀ {kvs : List (PV × PV)} {l : List (List Key × V)} {k x : PV} {kk : List Key} {v : V}, KvT K m H kvs l → tkeyOf k = some kk → Rp K m H x v → KvT K m H (kvs.map fun kv => if kv.1 = k then (kv.1, x) else kv) (l.map fun kv => if kv.1 = kk then (kv.1, v) else kv)
  | [], l, k, x, kk, v, h, hk, hx => by
    have h' : l = [] := h
    subst h'
    exact rfl
  | p :: ps, l, k, x, kk, v, h, hk, hx => by
    obtain ⟨q, r, rfl, h1, h2, h3⟩ := h
    refine ⟨_, _, rfl, ?_, ?_, KvT.upd1 h3 hk hx⟩
    · dsimp only
      by_cases e : p.1 = k
      · have eq : q.1 = kk := by
          rw [e, hk] at h1
          exact (Option.some.inj h1).symm
        rw [if_pos e, if_pos eq]
        exact h1
      · have eq : ¬ q.1 = kk := fun z => e (by rw [z] at h1; exact tkeyOf_inj h1 hk)
        rw [if_neg e, if_neg eq]
        exact h1
    · dsimp only
      by_cases e : p.1 = k
      · have eq : q.1 = kk := by
          rw [e, hk] at h1
          exact (Option.some.inj h1).symm
        rw [if_pos e, if_pos eq]
        exact hx
      · have eq : ¬ q.1 = kk := fun z => e (by rw [z] at h1; exact tkeyOf_inj h1 hk)
        rw [if_neg e, if_neg eq]
        exact h2
theorem KvK.put {kvs : List (PV × PV)} {l : List (Key × V)} {k x : PV} {kk : Key} {v : V} (h : KvK K m H kvs l) (hk : keyOf k = some kk) (hx : Rp K m H x v) : KvK K m H (dput kvs k x) (putK l kk v) := by
  unfold dput putK
  rw [h.anyk hk]
  by_cases e : (kvs.any fun kv => decide (kv.1 = k)) = true
  · rw [if_pos e, if_pos e]
    exact h.upd1 hk hx
  · rw [if_neg e, if_neg e]
    exact h.append ⟨_, [], rfl, hk, hx, rfl⟩
theorem KvT.put {kvs : List (PV × PV)} {l : List (List Key × V)} {k x : PV} {kk : List Key} {v : V} (h : KvT K m H kvs l) (hk : tkeyOf k = some kk) (hx : Rp K m H x v) : KvT K m H (dput kvs k x) (putK l kk v) := by
  unfold dput putK
  rw [h.anyk hk]
  by_cases e : (kvs.any fun kv => decide (kv.1 = k)) = true
  · rw [if_pos e, if_pos e]
    exact h.upd1 hk hx
  · rw [if_neg e, if_neg e]
    exact h.append ⟨_, [], rfl, hk, hx, rfl⟩
theorem key_val {x : PV} {v : V} {k : Key} (h : Rp K m H x v) (e : keyOf x = some k) : v = kV k := by
  cases x with
  | int i => cases e; exact h
  | str i => cases e; exact h
  | _ => cases e
theorem keys_val : ∀ {xs : List PV} {vs : List V} {ks : List Key}, Rps K m H xs vs → keysOf xs = some ks → vs = ks.map kV
  | [], vs, ks, h, e => by
    have h' : vs = [] := h
    cases e
    rw [h']; rfl
  | x :: xs, vs, ks, h, e => by
    obtain ⟨v, r, rfl, h1, h2⟩ := h
    unfold keysOf at e
    cases e1 : keyOf x with
    | none => rw [e1] at e; cases e
    | some k1 =>
      cases e2 : keysOf xs with
      | none => rw [e1, e2] at e; cases e
      | some ks1 =>
        rw [e1, e2] at e
        cases e
        rw [key_val h1 e1, keys_val h2 e2]
        rfl
theorem tkey_val {x : PV} {v : V} {k : List Key} (h : Rp K m H x v) (e : tkeyOf x = some k) : ∃ b, v = .ref b ∧ H b = some (.tup (k.map kV)) := by
  cases x with
  | tup xs =>
    obtain ⟨a, vs, rfl, h1, h2⟩ := h
    exact ⟨a, rfl, by rw [← keys_val h2 e]; exact h1⟩
  | _ => cases e
end
end TL

set_option Elab.async false
set_option linter.all false
set_option maxRecDepth 100000
set_option maxHeartbeats 1000000
/-! TL4: dicts read and written, subscripts, slices, membership. -/
namespace TL
open PySem PySem.Spec PyProof.Rows L2
section
variable {X : Cx} {pins : List (Addr × Obj)} {σ : L2.St} {H : Hp} {s : Shared}
theorem pairs_nil {P : Program} {w : World} : ∀ {es : List DictEntry} {vs : List (Key × Value)}, Pairs (mixKind P w) es vs → vs = [] → es = [] := by
  intro es vs h e
  subst e
  cases h
  rfl
/-- an empty dict has keys of no kind -/
theorem Inv.toT (I : Inv X pins σ H s) {a : Addr} (h : H a = some (.dK [])) : Inv X pins σ (upd H a (.dT [])) s := by
  obtain ⟨z, y, vs, r, o, es, ep, e, c1, c2, c3, c4, c5⟩ := I.hok a _ h
  have ev : vs = [] := by
    cases r
    rfl
  have ees : es.toList = [] := pairs_nil c4 ev
  have new : ObjOk X.prog X.w (upd H a (.dT [])) s.heap a (.dT []) := ⟨Nat.zero_le _, y, [], .nil, o, es, ep, e, c1, c2, by rw [ees]; rfl, List.nodup_nil⟩
  exact I.write (t' := s.toks) (h' := s.heap) (o := .dT []) (by rw [h]; trivial) (.inl rfl) (fun b u _ q => q) ⟨o, e⟩ new
theorem Inv.toK (I : Inv X pins σ H s) {a : Addr} (h : H a = some (.dT [])) : Inv X pins σ (upd H a (.dK [])) s := by
  obtain ⟨z, y, xs, r, o, es, ep, e, c1, c2, c3, c4⟩ := I.hok a _ h
  have ex : xs = [] := by
    cases r
    rfl
  have ees : es.toList = [] := by rw [c3, ex]; rfl
  have ees' : es = #[] := by simpa using ees
  have new : ObjOk X.prog X.w (upd H a (.dK [])) s.heap a (.dK []) := by
    refine ⟨Nat.zero_le _, y, [], .nil, o, es, ep, e, c1, c2, ?_, ?_, List.nodup_nil⟩
    · subst ees'
      intro en hen
      first
        | exact absurd hen (by simp)
        | (simp at hen)
    · rw [ees]; exact .nil
  exact I.write (t' := s.toks) (h' := s.heap) (o := .dK []) (by rw [h]; trivial) (.inl rfl) (fun b u _ q => q) ⟨o, e⟩ new
end
def cvH (H H' : Hp) : Prop := H' = H ∨ (∃ a, H a = some (.dK []) ∧ H' = upd H a (.dT [])) ∨ ∃ a, H a = some (.dT []) ∧ H' = upd H a (.dK [])
theorem Inv.cv {X : Cx} {pins : List (Addr × Obj)} {σ : L2.St} {H H' : Hp} {s : Shared} (I : Inv X pins σ H s) (c : cvH H H') : Inv X pins σ H' s := by
  rcases c with rfl | ⟨a, h, rfl⟩ | ⟨a, h, rfl⟩
  · exact I
  · exact Inv.toT I h
  · exact Inv.toK I h
def cv2 (r : R2) : R2 := fun x y H Q => ∃ H', cvH H H' ∧ r x y H' Q
theorem op_cv {X : Cx} {f : Value → Value → Sem Value} {r : R2} (h : OpR X f r) : OpR X f (cv2 r) := by
  intro pins s σ H x y v u Q I rx ry q
  obtain ⟨H', c, q⟩ := q
  exact h pins s σ H' x y v u Q (Inv.cv I c) rx ry q
theorem ix_cv {X : Cx} {r : R2} (h : IxR X r) : IxR X (cv2 r) := by
  intro value slice pins s σ H x y v u Q I rx ry q hs
  obtain ⟨H', c, q⟩ := q
  exact h value slice pins s σ H' x y v u Q (Inv.cv I c) rx ry q hs
/-- the abstract heap that suits keys like k at the dict that stands at i -/
def isKey (k : PV) : Bool := (keyOf k).isSome || (tkeyOf k).isSome
def dicAt (S : Store) (i : Nat) (k : PV) : Option (List (PV × PV)) := match S[i]? with
  | some (.dic lk kvs) => if isKey k = true ∧ (kvs.all fun kv => (keyOf kv.1).isSome == (keyOf k).isSome) = true ∧ (lk = true → kvs ≠ []) then some kvs else none
  | _ => none
section
variable {K : PySem.W.Frag} {mg : Str → Option Value} {W : WX} {σ : L2.St} {m : Mp} {S : Store} {H : Hp} {Q : VK}
theorem keyOf_tkey {k : PV} (h : (keyOf k).isSome = true) : tkeyOf k = none := by
  cases k <;> first | rfl | cases h
/-- the same store, an empty dict told otherwise -/
theorem Rel.conv (r : Rel K mg m S H) {i : Nat} (e : S[i]? = some (.dic false [])) (u : HO) (hu : u = .dK [] ∨ u = .dT []) : Rel K mg m S (upd H (m i) u) ∧ Ext K S.length m H m (upd H (m i) u) := by
  have hi := (List.getElem?_eq_some_iff.mp e).1
  have w := r.write e (fun _ z => by cases z) (u := u) (o := .dic false []) rfl (by
    rcases hu with rfl | rfl
    · exact .inl ⟨[], upd_same, rfl⟩
    · exact .inr ⟨[], upd_same, rfl⟩)
  have es : S.set i (.dic false []) = S := by
    apply List.ext_getElem?
    intro j
    by_cases hj : i = j
    · subst hj
      rw [List.getElem?_set_self hi, e]
    · rw [List.getElem?_set_ne hj]
  rw [es] at w
  exact ⟨w, r.ext_write e (fun _ z => by cases z)⟩
/-- a dict's look-up: the heap perhaps told otherwise, and what stands there -/
theorem dic_get (r : Rel K mg m S H) {i : Nat} {k : PV} {kvs : List (PV × PV)} {u : V} (e : dicAt S i k = some kvs) (hk : RV K S.length m H k u) :
    ∃ H', cvH H H' ∧ Rel K mg m S H' ∧ Ext K S.length m H m H' ∧ (∀ x, dget kvs k = some x → ∃ v, DGet H' (m i) u (some v) ∧ RV K S.length m H' x v) ∧ (dget kvs k = none → DGet H' (m i) u none) := by
  unfold dicAt at e
  cases ei : S[i]? with
  | none => rw [ei] at e; cases e
  | some o =>
    rw [ei] at e
    cases o with
    | lst _ => cases e
    | ins _ _ => cases e
    | dic lk kvs' =>
      simp only at e
      by_cases c : isKey k = true ∧ (kvs'.all fun kv => (keyOf kv.1).isSome == (keyOf k).isSome) = true ∧ (lk = true → kvs' ≠ [])
      · rw [if_pos c] at e
        cases e
        obtain ⟨c1, c2, c3⟩ := c
        have wf := r.wf i _ ei
        have ob := r.ob i _ ei
        have bx : ∀ x, dget kvs k = some x → bnd S.length x = true := fun x hx => by
          unfold dget at hx
          cases q : kvs.find? (fun kv => decide (kv.1 = k)) with
          | none => rw [q] at hx; cases hx
          | some p =>
            rw [q] at hx
            cases hx
            exact bnds_all.mp (show bnds S.length (kvs.map (·.2)) = true from wf) p.2 (List.mem_map_of_mem (List.mem_of_find?_eq_some q))
        -- the two kinds of keys over a heap that suits
        have goK : ∀ (H' : Hp) (l : List (Key × V)), Rel K mg m S H' → Ext K S.length m H m H' → Rd H' (m i) (.dK l) → KvK K m H' kvs l → (keyOf k).isSome = true →
            (∀ x, dget kvs k = some x → ∃ v, DGet H' (m i) u (some v) ∧ RV K S.length m H' x v) ∧ (dget kvs k = none → DGet H' (m i) u none) := by
          intro H' l r' e' hrd hkv hs
          obtain ⟨kk, ek⟩ := Option.isSome_iff_exists.mp hs
          have eu : u = kV kk := key_val (stbV e' (Nat.le_refl _) hk).2 ek
          obtain ⟨g1, g2⟩ := hkv.get ek
          refine ⟨fun x hx => ?_, fun hn => .inl ⟨l, kk, hrd, eu, (g2 hn).symm⟩⟩
          obtain ⟨v, ev, rv⟩ := g1 x hx
          exact ⟨v, .inl ⟨l, kk, hrd, eu, ev.symm⟩, bx x hx, rv⟩
        have goT : ∀ (H' : Hp) (l : List (List Key × V)), Rel K mg m S H' → Ext K S.length m H m H' → Rd H' (m i) (.dT l) → KvT K m H' kvs l → (tkeyOf k).isSome = true →
            (∀ x, dget kvs k = some x → ∃ v, DGet H' (m i) u (some v) ∧ RV K S.length m H' x v) ∧ (dget kvs k = none → DGet H' (m i) u none) := by
          intro H' l r' e' hrd hkv hs
          obtain ⟨kk, ek⟩ := Option.isSome_iff_exists.mp hs
          obtain ⟨b, eu, hb⟩ := tkey_val (stbV e' (Nat.le_refl _) hk).2 ek
          obtain ⟨g1, g2⟩ := hkv.get ek
          refine ⟨fun x hx => ?_, fun hn => .inr ⟨l, kk, b, hrd, eu, hb, (g2 hn).symm⟩⟩
          obtain ⟨v, ev, rv⟩ := g1 x hx
          exact ⟨v, .inr ⟨l, kk, b, hrd, eu, hb, ev.symm⟩, bx x hx, rv⟩
        have mm : ∀ {l : List (Key × V)}, KvK K m H kvs l → kvs ≠ [] → (keyOf k).isSome = true := by
          intro l hkv hne
          cases kvs with
          | nil => exact absurd rfl hne
          | cons p ps =>
            obtain ⟨q, rr, rfl, h1, h2, h3⟩ := hkv
            rw [List.all_cons, h1] at c2
            have c2' := (Bool.and_eq_true_iff.mp c2).1
            simpa using c2'
        have mt : ∀ {l : List (List Key × V)}, KvT K m H kvs l → kvs ≠ [] → (tkeyOf k).isSome = true := by
          intro l hkv hne
          cases kvs with
          | nil => exact absurd rfl hne
          | cons p ps =>
            obtain ⟨q, rr, rfl, h1, h2, h3⟩ := hkv
            rw [List.all_cons] at c2
            have c2' := (Bool.and_eq_true_iff.mp c2).1
            have e0 : (keyOf p.1).isSome = false := by
              cases z : keyOf p.1 with
              | none => rfl
              | some w =>
                have := keyOf_tkey (k := p.1) (by rw [z]; rfl)
                rw [h1] at this
                cases this
            rw [e0] at c2'
            have e1 : (keyOf k).isSome = false := by simpa using c2'
            unfold isKey at c1
            rw [e1, Bool.false_or] at c1
            exact c1
        by_cases hne : kvs = []
        · subst hne
          have hlk : lk = false := by
            cases lk with
            | false => rfl
            | true => exact absurd rfl (c3 rfl)
          subst hlk
          rcases Bool.or_eq_true_iff.mp c1 with hs | hs
          · rcases ob with ⟨l, h1, h2⟩ | ⟨l, h1, h2⟩
            · exact ⟨H, .inl rfl, r, Ext.refl, goK H l r Ext.refl (.inl h1) h2 hs⟩
            · have el : l = [] := h2
              subst el
              obtain ⟨r', e'⟩ := r.conv ei (.dK []) (.inl rfl)
              exact ⟨_, .inr (.inr ⟨m i, h1, rfl⟩), r', e', goK _ [] r' e' (.inl upd_same) rfl hs⟩
          · rcases ob with ⟨l, h1, h2⟩ | ⟨l, h1, h2⟩
            · have el : l = [] := h2
              subst el
              obtain ⟨r', e'⟩ := r.conv ei (.dT []) (.inr rfl)
              exact ⟨_, .inr (.inl ⟨m i, h1, rfl⟩), r', e', goT _ [] r' e' (.inl upd_same) rfl hs⟩
            · exact ⟨H, .inl rfl, r, Ext.refl, goT H l r Ext.refl (.inl h1) h2 hs⟩
        · cases lk with
          | false =>
            rcases ob with ⟨l, h1, h2⟩ | ⟨l, h1, h2⟩
            · exact ⟨H, .inl rfl, r, Ext.refl, goK H l r Ext.refl (.inl h1) h2 (mm h2 hne)⟩
            · exact ⟨H, .inl rfl, r, Ext.refl, goT H l r Ext.refl (.inl h1) h2 (mt h2 hne)⟩
          | true =>
            rcases ob with ⟨o, l, h1, h2⟩ | ⟨o, l, h1, h2⟩
            · exact ⟨H, .inl rfl, r, Ext.refl, goK H l r Ext.refl (.inr ⟨o, h1⟩) h2 (mm h2 hne)⟩
            · exact ⟨H, .inl rfl, r, Ext.refl, goT H l r Ext.refl (.inr ⟨o, h1⟩) h2 (mt h2 hne)⟩
      · rw [if_neg c] at e
        cases e
theorem cvH_free {H H' : Hp} (c : cvH H H') {p : Addr} (h : H' p = none) : H p = none := by
  rcases c with rfl | ⟨a, h1, rfl⟩ | ⟨a, h1, rfl⟩
  · exact h
  · by_cases hp : p = a
    · rw [hp, upd_same] at h; cases h
    · rw [upd_ne hp] at h; exact h
  · by_cases hp : p = a
    · rw [hp, upd_same] at h; cases h
    · rw [upd_ne hp] at h; exact h
end
/-! ### a[b] -/
theorem at_of {K : PySem.W.Frag} {n : Nat} {m : Mp} {H : Hp} {xs : List PV} {vs : List V} {i : Int} {x : PV} (b : bnds n xs = true) (h : Rps K m H xs vs) (e : atI xs i = some x) : ∃ v, atI vs i = some v ∧ RV K n m H x v := by
  unfold atI at e ⊢
  rw [h.length]
  cases q : ixN xs.length i with
  | none => rw [q] at e; cases e
  | some j =>
    rw [q] at e
    have e' : xs[j]? = some x := e
    obtain ⟨v, ev, rv⟩ := h.get e'
    exact ⟨v, ev, bnds_get b e', rv⟩
def getV : F2 := fun x y S => match x, y with
  | .tup xs, .int i => match atI xs i with
    | some z => .ok z S
    | none => .stuck
  | .kup xs, .int i => match atI xs i with
    | some z => .ok z S
    | none => .stuck
  | .rol xs, .int i => match atI xs i with
    | some z => .ok z S
    | none => .stuck
  | .str z, .int i => if z.length ≤ sizeLine then match atI z.cps.toList i with
    | some c => .ok (.str ⟨#[c]⟩) S
    | none => .stuck
    else .stuck
  | .obj i, k => match S[i]? with
    | some (.lst xs) => match k with
      | .int j => match atI xs j with
        | some z => .ok z S
        | none => .stuck
      | _ => .stuck
    | some (.dic _ _) => match dicAt S i k with
      | some kvs => match dget kvs k with
        | some z => .ok z S
        | none => .stuck
      | none => .stuck
    | _ => .stuck
  | _, _ => .stuck
def rGetD : R2 := fun x y H Q => ∃ a v, x = .ref a ∧ DGet H a y (some v) ∧ Q v H
theorem ix_dic {X : Cx} (hu : X.A.units + 1 < cLine) : IxR X rGetD := by
  intro value slice pins s σ H x y v u Q I rx ry h hs
  obtain ⟨a, z, rfl, g, q⟩ := h
  cases rx
  unfold subscriptTail
  have hT := dict_typeIs I g
  refine wpAny_bind ?_
  rw [getitemInPython_of_ne hT.not_modules]
  refine wpAny_bind (wpAny_specialOf hT PySem.F.slot_dict_getitem.lookup ?_)
  have fin : wpAny (model X.prog X.w) X.A (subscripted slice false (.ref a) u) (fun r s₃ => wpAny (model X.prog X.w) X.A (letTemporaryGo value (.ref a) r >>= fun _ => pure r) (EP X pins σ Q) X.xe s₃) X.xe s := by
    rw [hs]
    exact wpAny_operating (d_getItem hu I g ry fun w' s3 I3 rw' => wpAny_bind (wpAny_letTemporaryGo (wpAny_pure ⟨z, H, I3, rw', q⟩)))
  first
    | exact fin
    | (refine wpAny_pure ?_; exact wpAny_bind fin)
    | exact wpAny_pure (wpAny_bind fin)
    | exact wpAny_bind fin
    | exact wpAny_bind (wpAny_pure fin)
def rGetV (K : PySem.W.Frag) : R2 := cv2 fun x y H Q => rIx K x y H Q ∨ rGetD x y H Q
theorem ix_getV {X : Cx} (hu : X.A.units + 1 < cLine) : IxR X (rGetV X.K) := ix_cv (ix_seq.or (ix_dic hu))
theorem op2_get {K : PySem.W.Frag} {mg : Str → Option Value} : Op2 K mg getV (rGetV K) := by
  intro W σ m S H x y v u Q rel rx ry f
  unfold getV at f
  cases x with
  | tup xs =>
    cases y with
    | int i =>
      simp only at f
      obtain ⟨b1, p, vs, rfl, hp, hvs⟩ := rx
      cases e : atI xs i with
      | none => rw [e] at f; exact f.elim
      | some z =>
        rw [e] at f
        obtain ⟨w, ew, rw'⟩ := at_of b1 hvs e
        exact ⟨H, .inl rfl, .inl (.inr (.inl ⟨p, vs, i, w, rfl, ry.2, SqT.of hp, ew, f.here rel rw'⟩))⟩
    | _ => exact f.elim
  | kup xs =>
    cases y with
    | int i =>
      simp only at f
      obtain ⟨b1, p, vs, rfl, hp, hvs⟩ := rx
      cases e : atI xs i with
      | none => rw [e] at f; exact f.elim
      | some z =>
        rw [e] at f
        obtain ⟨w, ew, rw'⟩ := at_of b1 hvs e
        exact ⟨H, .inl rfl, .inl (.inr (.inl ⟨p, vs, i, w, rfl, ry.2, hp.t, ew, f.here rel rw'⟩))⟩
    | _ => exact f.elim
  | rol xs =>
    cases y with
    | int i =>
      simp only at f
      obtain ⟨b1, p, vs, rfl, hp, hvs⟩ := rx
      cases e : atI xs i with
      | none => rw [e] at f; exact f.elim
      | some z =>
        rw [e] at f
        obtain ⟨w, ew, rw'⟩ := at_of b1 hvs e
        exact ⟨H, .inl rfl, .inl (.inl ⟨p, vs, i, w, rfl, ry.2, hp.l, ew, f.here rel rw'⟩)⟩
    | _ => exact f.elim
  | str z =>
    cases y with
    | int i =>
      simp only at f
      have ex : v = .str z := rx.2
      by_cases q : z.length ≤ sizeLine
      · rw [if_pos q] at f
        cases e : atI z.cps.toList i with
        | none => rw [e] at f; exact f.elim
        | some c =>
          rw [e] at f
          exact ⟨H, .inl rfl, .inl (.inr (.inr ⟨z, i, c, ex, ry.2, q, e, f.here rel ⟨rfl, rfl⟩⟩))⟩
      · rw [if_neg q] at f
        exact f.elim
    | _ => exact f.elim
  | obj i =>
    have ex : v = .ref (m i) := rx.2
    simp only at f
    cases ei : S[i]? with
    | none => simp only [ei] at f; exact f.elim
    | some o =>
      simp only [ei] at f
      cases o with
      | lst xs =>
        cases y with
        | int j =>
          simp only at f
          obtain ⟨b1, vs, hp, hvs⟩ := rel.lst ei
          cases e : atI xs j with
          | none => rw [e] at f; exact f.elim
          | some z =>
            rw [e] at f
            obtain ⟨w, ew, rw'⟩ := at_of b1 hvs e
            exact ⟨H, .inl rfl, .inl (.inl ⟨m i, vs, j, w, ex, ry.2, SqL.of hp, ew, f.here rel rw'⟩)⟩
        | _ => exact f.elim
      | dic lk kvs' =>
        simp only at f
        cases e : dicAt S i y with
        | none => rw [e] at f; exact f.elim
        | some kvs =>
          rw [e] at f
          simp only at f
          cases e2 : dget kvs y with
          | none => rw [e2] at f; exact f.elim
          | some z =>
            rw [e2] at f
            obtain ⟨H', c, r', e', g1, g2⟩ := dic_get rel e ry
            obtain ⟨w, g, rw'⟩ := g1 z e2
            exact ⟨H', c, .inr ⟨m i, w, ex, g, (Fin.from f e' (Nat.le_refl _)).here r' rw'⟩⟩
      | ins _ _ => exact f.elim
  | _ => exact f.elim
theorem de_ix {X : Cx} {W : WX} {pos : Pos} {a b : Expr} {ca cb : CE PV} (hu : X.A.units + 1 < cLine) (ha : DE X W a ca) (hb : DE X W b cb) (hs : PlainIx b := by exact fun _ _ => rfl) : DE X W (.Subscript a b pos) (eBin getV ca cb) :=
  pe_imp (pe_ix (ix_getV hu) ha hb hs) (rd_bin op2_get)
end TL

set_option Elab.async false
set_option linter.all false
set_option maxRecDepth 100000
set_option maxHeartbeats 1000000
/-! TL5: membership, slices, what is thrown away (gc), calls of defs, built-in functions. -/
namespace TL
open PySem PySem.Spec PyProof.Rows L2
/-! ### in -/
def flatP : PV → Option V
  | .non => some .non
  | .bl b => some (.bl b)
  | .int i => some (.int i)
  | .str x => some (.str x)
  | _ => none
def flatsP : List PV → Option (List V)
  | [] => some []
  | x :: xs => match flatP x, flatsP xs with
    | some v, some vs => some (v :: vs)
    | _, _ => none
section
variable {K : PySem.W.Frag} {mg : Str → Option Value} {W : WX} {σ : L2.St} {m : Mp} {S : Store} {H : Hp} {Q : VK}
theorem flatP_ok {x : PV} {v w : V} (h : Rp K m H x v) (e : flatP x = some w) : v = w ∧ flatV w = true := by
  cases x with
  | non => cases e; exact ⟨h, rfl⟩
  | bl b => cases e; exact ⟨h, rfl⟩
  | int i => cases e; exact ⟨h, rfl⟩
  | str i => cases e; exact ⟨h, rfl⟩
  | _ => cases e
theorem flatsP_ok : ∀ {xs : List PV} {vs ws : List V}, Rps K m H xs vs → flatsP xs = some ws → vs = ws ∧ ws.all flatV = true
  | [], vs, ws, h, e => by
    have h' : vs = [] := h
    cases e
    exact ⟨h', rfl⟩
  | x :: xs, vs, ws, h, e => by
    obtain ⟨v, r, rfl, h1, h2⟩ := h
    unfold flatsP at e
    cases e1 : flatP x with
    | none => rw [e1] at e; cases e
    | some w =>
      cases e2 : flatsP xs with
      | none => rw [e1, e2] at e; cases e
      | some ws' =>
        rw [e1, e2] at e
        cases e
        obtain ⟨q1, f1⟩ := flatP_ok h1 e1
        obtain ⟨q2, f2⟩ := flatsP_ok h2 e2
        exact ⟨by rw [q1, q2], by rw [List.all_cons, f1, f2]; rfl⟩
end
/-- x among xs, all flat; else as data -/
def inSeq (g : Bool → Bool) (x : PV) (xs : List PV) (S : Store) : Res PV := match flatP x, flatsP xs with
  | some v, some vs => .ok (.bl (g (inV v vs))) S
  | _, _ => .stuck
def inDat (g : Bool → Bool) (x : PV) (xs : List PV) (S : Store) : Res PV := match toD S 65 x, dList (toD S 65) xs with
  | some d, some ds => if SeqAt.shaped d = true ∧ SeqAt.shaped (.list ds) = true then .ok (.bl (g (ds.any fun z => PyData.eqv z d))) S else .stuck
  | _, _ => .stuck
def inG (g : Bool → Bool) : F2 := fun x y S => match y with
  | .str z => match x with
    | .str w => match w.cps.toList with
      | [c] => .ok (.bl (g (decide (c ∈ z.cps.toList)))) S
      | _ => .ok (.bl (g (!(Builtin.Str.occurrences z w 0 z.length 1).isEmpty))) S
    | _ => .stuck
  | .tup ys => inSeq g x ys S
  | .kup ys => inSeq g x ys S
  | .rol ys => inSeq g x ys S
  | .obj i => match S[i]? with
    | some (.lst ys) => match flatP x, flatsP ys with
      | some v, some vs => .ok (.bl (g (inV v vs))) S
      | _, _ => inDat g x ys S
    | some (.dic _ _) => match dicAt S i x with
      | some kvs => .ok (.bl (g (dget kvs x).isSome)) S
      | none => .stuck
    | _ => .stuck
  | _ => .stuck
abbrev inV' : F2 := inG fun b => b
abbrev ninV : F2 := inG fun b => !b
def rInS1 (g : Bool → Bool) : R2 := fun x y H Q => ∃ (c : Nat) (z : Str), x = .str ⟨#[c]⟩ ∧ y = .str z ∧ Q (.bl (g (decide (c ∈ z.cps.toList)))) H
def rInS2 (g : Bool → Bool) : R2 := fun x y H Q => ∃ i j, x = .str i ∧ y = .str j ∧ Q (.bl (g (!(Builtin.Str.occurrences j i 0 j.length 1).isEmpty))) H
def rInQ (K : PySem.W.Frag) (g : Bool → Bool) : R2 := fun x y H Q => ∃ p xs, y = .ref p ∧ (SqL K H p xs ∨ SqT K H p xs) ∧ flatV x = true ∧ xs.all flatV = true ∧ Q (.bl (g (inV x xs))) H
def rInE (K : PySem.W.Frag) (g : Bool → Bool) : R2 := fun x y H Q => ∃ d ds, Dp K H x d ∧ Dp K H y (.list ds) ∧ SeqAt.shaped d = true ∧ SeqAt.shaped (.list ds) = true ∧ Q (.bl (g (ds.any fun z => PyData.eqv z d))) H
def rInK (g : Bool → Bool) : R2 := fun x y H Q => ∃ a o, y = .ref a ∧ DGet H a x o ∧ Q (.bl (g o.isSome)) H
def rInG (K : PySem.W.Frag) (g : Bool → Bool) : R2 := cv2 fun x y H Q => rInS1 g x y H Q ∨ rInS2 g x y H Q ∨ rInQ K g x y H Q ∨ rInE K g x y H Q ∨ rInK g x y H Q
theorem op_in {X : Cx} (hu : X.A.units + 65 < cLine) : OpR X (compareOp .In) (rInG X.K fun b => b) :=
  op_cv (op_in_sign.or (op_in_str.or (OpR.or (fun pins s σ H x y v u Q I rx ry h => op_in_seq pins s σ H x y v u Q I rx ry h) ((op_inD hu).or (fun pins s σ H x y v u Q I rx ry h => by
    obtain ⟨a, o, rfl, g, q⟩ := h
    cases ry
    exact d_in (by omega) I g rx fun s' I' => ⟨.bl o.isSome, H, I', rfl, q⟩)))))
theorem op_nin {X : Cx} (hu : X.A.units + 65 < cLine) : OpR X (compareOp .NotIn) (rInG X.K fun b => !b) :=
  op_cv (op_notIn_sign.or (op_notIn_str.or (OpR.or (fun pins s σ H x y v u Q I rx ry h => op_notIn_seq pins s σ H x y v u Q I rx ry h) ((op_notInD hu).or (fun pins s σ H x y v u Q I rx ry h => by
    obtain ⟨a, o, rfl, g, q⟩ := h
    cases ry
    exact d_notIn (by omega) I g rx fun s' I' => ⟨.bl (!o.isSome), H, I', rfl, q⟩)))))
theorem op2_in {K : PySem.W.Frag} {mg : Str → Option Value} (g : Bool → Bool) : Op2 K mg (inG g) (rInG K g) := by
  have seq : ∀ (W : WX) (σ : L2.St) (m : Mp) (S : Store) (H : Hp) (x : PV) (ys : List PV) (v : V) (p : Addr) (us : List V) (Q : VK), Rel K mg m S H → RV K S.length m H x v → (SqL K H p us ∨ SqT K H p us) → Rps K m H ys us →
      Fin K mg W σ m S H (RV K) Q (inSeq g x ys S) → rInQ K g v (.ref p) H Q := by
    intro W σ m S H x ys v p us Q rel rx hp hus f
    unfold inSeq at f
    cases e1 : flatP x with
    | none => rw [e1] at f; exact f.elim
    | some w =>
      cases e2 : flatsP ys with
      | none => rw [e1, e2] at f; exact f.elim
      | some ws =>
        rw [e1, e2] at f
        obtain ⟨q1, f1⟩ := flatP_ok rx.2 e1
        obtain ⟨q2, f2⟩ := flatsP_ok hus e2
        subst q1 q2
        exact ⟨p, us, rfl, hp, f1, f2, f.here rel ⟨rfl, rfl⟩⟩
  intro W σ m S H x y v u Q rel rx ry f
  unfold inG at f
  cases y with
  | str z =>
    cases x with
    | str w =>
      have ex : v = .str w := rx.2
      have ey : u = .str z := ry.2
      simp only at f
      split at f
      · rename_i c ec
        refine ⟨H, .inl rfl, .inl ⟨c, z, ?_, ey, f.here rel ⟨rfl, rfl⟩⟩⟩
        rw [ex]
        have : w = ⟨#[c]⟩ := by
          cases w with
          | mk cps =>
            have e : cps.toList = [c] := ec
            have e' : cps = #[c] := by
              apply Array.toList_inj.mp
              exact e
            rw [e']
        rw [this]
      · exact ⟨H, .inl rfl, .inr (.inl ⟨w, z, ex, ey, f.here rel ⟨rfl, rfl⟩⟩)⟩
    | _ => exact f.elim
  | tup ys =>
    obtain ⟨b2, q, us, rfl, hq, hus⟩ := ry
    exact ⟨H, .inl rfl, .inr (.inr (.inl (seq W σ m S H x ys v q us Q rel rx (.inr (SqT.of hq)) hus f)))⟩
  | kup ys =>
    obtain ⟨b2, q, us, rfl, hq, hus⟩ := ry
    exact ⟨H, .inl rfl, .inr (.inr (.inl (seq W σ m S H x ys v q us Q rel rx (.inr hq.t) hus f)))⟩
  | rol ys =>
    obtain ⟨b2, q, us, rfl, hq, hus⟩ := ry
    exact ⟨H, .inl rfl, .inr (.inr (.inl (seq W σ m S H x ys v q us Q rel rx (.inl hq.l) hus f)))⟩
  | obj i =>
    have ey : u = .ref (m i) := ry.2
    subst ey
    simp only at f
    cases ei : S[i]? with
    | none => simp only [ei] at f; exact f.elim
    | some o =>
      simp only [ei] at f
      cases o with
      | lst ys =>
        obtain ⟨b2, us, hq, hus⟩ := rel.lst ei
        have dat : Fin K mg W σ m S H (RV K) Q (inDat g x ys S) → rInE K g v (.ref (m i)) H Q := by
          intro f
          unfold inDat at f
          cases e1 : toD S 65 x with
          | none => rw [e1] at f; exact f.elim
          | some d =>
            cases e2 : dList (toD S 65) ys with
            | none => rw [e1, e2] at f; exact f.elim
            | some ds =>
              rw [e1, e2] at f
              simp only at f
              by_cases hh : SeqAt.shaped d = true ∧ SeqAt.shaped (.list ds) = true
              · rw [if_pos hh] at f
                have e3 : toD S 66 (.obj i) = some (.list ds) := by
                  show (match S[i]? with | some (.lst xs) => (dList (toD S 65) xs).map PyData.list | _ => none) = _
                  rw [ei]
                  simp only [e2]
                  rfl
                exact ⟨d, ds, dp_of rel 65 x v d rx.2 e1, dp_of rel 66 (.obj i) _ _ rfl e3, hh.1, hh.2, f.here rel ⟨rfl, rfl⟩⟩
              · rw [if_neg hh] at f
                exact f.elim
        cases e1 : flatP x with
        | none =>
          simp only [e1] at f
          exact ⟨H, .inl rfl, .inr (.inr (.inr (.inl (dat f))))⟩
        | some w =>
          cases e2 : flatsP ys with
          | none =>
            simp only [e1, e2] at f
            exact ⟨H, .inl rfl, .inr (.inr (.inr (.inl (dat f))))⟩
          | some ws =>
            simp only [e1, e2] at f
            obtain ⟨q1, f1⟩ := flatP_ok rx.2 e1
            obtain ⟨q2, f2⟩ := flatsP_ok hus e2
            subst q1 q2
            exact ⟨H, .inl rfl, .inr (.inr (.inl ⟨m i, us, rfl, .inl (SqL.of hq), f1, f2, f.here rel ⟨rfl, rfl⟩⟩))⟩
      | dic lk kvs' =>
        simp only at f
        cases e : dicAt S i x with
        | none => rw [e] at f; exact f.elim
        | some kvs =>
          rw [e] at f
          obtain ⟨H', c, r', e', g1, g2⟩ := dic_get rel e rx
          have f' := Fin.from f e' (Nat.le_refl _)
          refine ⟨H', c, .inr (.inr (.inr (.inr ?_)))⟩
          cases q : dget kvs x with
          | none =>
            simp only [q] at f'
            exact ⟨m i, none, rfl, g2 q, f'.here r' ⟨rfl, rfl⟩⟩
          | some z =>
            simp only [q] at f'
            obtain ⟨w, gg, _⟩ := g1 z q
            exact ⟨m i, some w, rfl, gg, f'.here r' ⟨rfl, rfl⟩⟩
      | ins _ _ => exact f.elim
  | _ => exact f.elim
end TL

set_option Elab.async false
set_option linter.all false
set_option maxRecDepth 100000
set_option maxHeartbeats 1000000
/-! TL6: slices, what is thrown away (gc), calls of defs, built-in functions. -/
namespace TL
open PySem PySem.Spec PyProof.Rows L2
/-! ### slices -/
def cutP (xs : List PV) (lo hi : Option Int) : List PV := (xs.drop (HT.sIx xs.length 0 lo)).take (HT.sIx xs.length xs.length hi - HT.sIx xs.length 0 lo)
def oNone : CE (Option Int) := fun _ S => .ok none S
def oSome (c : CE PV) : CE (Option Int) := fun ρ S => (c ρ S).bind fun x S1 => match x with
  | .int i => .ok (some i) S1
  | _ => .stuck
def sliceV (x : PV) (lo hi : Option Int) (S : Store) : Res PV := match x with
  | .tup xs => .ok (.tup (cutP xs lo hi)) S
  | .rol xs => .ok (.obj S.length) (S ++ [.lst (cutP xs lo hi)])
  | .str z => if z.length ≤ sizeLine then .ok (.str (cutS z lo hi)) S else .stuck
  | .obj i => match S[i]? with
    | some (.lst xs) => .ok (.obj S.length) (S ++ [.lst (cutP xs lo hi)])
    | _ => .stuck
  | _ => .stuck
def eSlice (c : CE PV) (l h : CE (Option Int)) : CE PV := fun ρ S => (c ρ S).bind fun x S1 => (l ρ S1).bind fun lo S2 => (h ρ S2).bind fun hi S3 => sliceV x lo hi S3
def rSliceV (K : PySem.W.Frag) : V → Option Int → Option Int → Hp → VK → Prop := fun x lo hi H Q => rSlA K x lo hi H Q ∨ rSlL K x lo hi H Q ∨ rSlS x lo hi H Q
theorem sl_V {X : Cx} : SlR X (rSliceV X.K) := sl_tupA.or (sl_list.or sl_str)
theorem bnds_cut {n : Nat} {xs : List PV} (h : bnds n xs = true) (lo hi : Option Int) : bnds n (cutP xs lo hi) = true :=
  bnds_all.mpr fun x hx => bnds_all.mp h x (List.mem_of_mem_drop (List.mem_of_mem_take hx))
section
variable {K : PySem.W.Frag} {mg : Str → Option Value} {W : WX} {σ : L2.St} {m : Mp} {S : Store} {H : Hp} {Q : VK}
theorem Rps.cut {xs : List PV} {vs : List V} (h : Rps K m H xs vs) (lo hi : Option Int) : Rps K m H (cutP xs lo hi) (cutV vs lo hi) := by
  unfold cutP cutV
  rw [h.length]
  exact (h.drop _).take _
theorem cut_whole {xs : List PV} {lo hi : Option Int} (h : HT.sIx xs.length 0 lo = 0 ∧ HT.sIx xs.length xs.length hi = xs.length) : cutP xs lo hi = xs := by
  unfold cutP
  rw [h.1, h.2]
  simp
theorem slice_ok {x : PV} {v : V} {lo hi : Option Int} (rel : Rel K mg m S H) (rx : RV K S.length m H x v) (f : Fin K mg W σ m S H (RV K) Q (sliceV x lo hi S)) : rSliceV K v lo hi H Q := by
  unfold sliceV at f
  cases x with
  | tup xs =>
    obtain ⟨b1, p, vs, rfl, hp, hvs⟩ := rx
    refine .inl ⟨p, vs, rfl, SqT.of hp, fun w => ?_, fun _ q hq => f.tup rel (bnds_cut b1 lo hi) (hvs.cut lo hi) hq⟩
    have w' : HT.sIx xs.length 0 lo = 0 ∧ HT.sIx xs.length xs.length hi = xs.length := by rw [← hvs.length]; exact w
    have f' : Fin K mg W σ m S H (RV K) Q (.ok (.tup (cutP xs lo hi)) S) := f
    rw [cut_whole w'] at f'
    exact f'.here rel ⟨b1, p, vs, rfl, hp, hvs⟩
  | rol xs =>
    obtain ⟨b1, p, vs, rfl, hp, hvs⟩ := rx
    exact .inr (.inl ⟨p, vs, rfl, hp.l, fun q hq => f.lst rel (bnds_cut b1 lo hi) (hvs.cut lo hi) hq⟩)
  | str z =>
    have ex : v = .str z := rx.2
    simp only at f
    by_cases q : z.length ≤ sizeLine
    · rw [if_pos q] at f
      exact .inr (.inr ⟨z, ex, q, f.here rel ⟨rfl, rfl⟩⟩)
    · rw [if_neg q] at f
      exact f.elim
  | obj i =>
    have ex : v = .ref (m i) := rx.2
    simp only at f
    cases ei : S[i]? with
    | none => simp only [ei] at f; exact f.elim
    | some o =>
      simp only [ei] at f
      cases o with
      | lst xs =>
        obtain ⟨b1, vs, hp, hvs⟩ := rel.lst ei
        exact .inr (.inl ⟨m i, vs, ex, SqL.of hp, fun q hq => f.lst rel (bnds_cut b1 lo hi) (hvs.cut lo hi) hq⟩)
      | _ => exact f.elim
  | _ => exact f.elim
end
section
variable {X : Cx} {W : WX} {pos p2 : Pos} {a b : Expr} {lo hi : Option Expr} {ca cb : CE PV} {cl ch : CE (Option Int)}
theorem do_none : DO X W none oNone := po_imp po_none fun σ H Q h => by
  obtain ⟨m, S, ρ, at_, fin⟩ := h
  exact fin.here at_.rel rfl
theorem do_some (h : DE X W a ca) : DO X W (some a) (oSome ca) := po_imp (po_some h) fun σ H Q h => by
  obtain ⟨m, S, ρ, at_, fin⟩ := h
  refine ⟨m, S, ρ, at_, (Fin.bind at_ fin).mono fun v H1 h1 => ?_⟩
  obtain ⟨m1, S1, x, at1, r1, e1, l1, f1⟩ := h1
  cases x with
  | int i => exact ⟨i, r1.2, f1.here at1.rel rfl⟩
  | _ => exact f1.elim
theorem de_slice (ha : DE X W a ca) (hl : DO X W lo cl) (hh : DO X W hi ch) : DE X W (.Subscript a (.Slice lo hi none p2) pos) (eSlice ca cl ch) := by
  refine pe_imp (pe_slice sl_V ha hl hh) fun σ H Q h => ?_
  obtain ⟨m, S, ρ, at_, fin⟩ := h
  refine ⟨m, S, ρ, at_, (Fin.bind at_ fin).mono fun v H1 h1 => ?_⟩
  obtain ⟨m1, S1, x, at1, r1, e1, l1, f1⟩ := h1
  refine ⟨m1, S1, ρ, at1, (Fin.bind at1 f1).mono fun vl H2 h2 => ?_⟩
  obtain ⟨m2, S2, l, at2, r2, e2, l2, f2⟩ := h2
  refine ⟨m2, S2, ρ, at2, (Fin.bind at2 f2).mono fun vh H3 h3 => ?_⟩
  obtain ⟨m3, S3, h, at3, r3, e3, l3, f3⟩ := h3
  have r2' : l = vl := r2
  have r3' : h = vh := r3
  subst r2' r3'
  exact slice_ok at3.rel (stbV e3 l3 (stbV e2 l2 r1)) f3
end
/-! ### what is thrown away -/
open Classical in
noncomputable def gc (S : Store) : Res PV → Res PV
  | .ok x S' => if bnd S.length x = true ∧ S <+: S' then .ok x S else match x with
    | .obj i => if S.length ≤ i ∧ S <+: S' then match S'[i]? with
      | some o => if bndO S.length o = true then .ok (.obj S.length) (S ++ [o]) else .ok x S'
      | none => .ok x S'
      else .ok x S'
    | _ => .ok x S'
  | .exc c none S' => if S <+: S' then .exc c none S else .exc c none S'
  | .exc c p S' => .exc c p S'
  | .stuck => .stuck
section
variable {K : PySem.W.Frag} {mg : Str → Option Value} {W : WX} {σ : L2.St} {m : Mp} {S : Store} {H : Hp} {Q : VK}
theorem pre_get {S S' : Store} (h : S <+: S') {i : Nat} (hi : i < S.length) : S'[i]? = S[i]? := by
  obtain ⟨t, rfl⟩ := h
  rw [List.getElem?_append_left hi]
theorem Rel.shrink {S' : Store} {m' : Mp} {H' : Hp} (r : Rel K mg m S H) (r' : Rel K mg m' S' H') (h : S <+: S') : Rel K mg m' S H' := by
  have hl : S.length ≤ S'.length := h.length_le
  refine ⟨fun i j hi hj e => r'.inj i j (by omega) (by omega) e, fun i o e => ?_, fun i o e => r.wf i o e⟩
  have hi := (List.getElem?_eq_some_iff.mp e).1
  exact r'.ob i o (by rw [pre_get h hi]; exact e)
theorem Fin.gc {r : Res PV} (rel : Rel K mg m S H) (f : Fin K mg W σ m S H (RV K) Q (gc S r)) : Fin K mg W σ m S H (RV K) Q r := by
  cases r with
  | stuck => exact f
  | exc c p S' =>
    cases p with
    | some p => exact f
    | none =>
      unfold TL.gc at f
      simp only at f
      by_cases h : S <+: S'
      · rw [if_pos h] at f
        exact fun m' H' d e l r x => f m' H' d e (Nat.le_refl _) (rel.shrink r h) x
      · rw [if_neg h] at f
        exact f
  | ok x S' =>
    unfold TL.gc at f
    simp only at f
    by_cases h : bnd S.length x = true ∧ S <+: S'
    · rw [if_pos h] at f
      exact fun m' H' v e l r x => f m' H' v e (Nat.le_refl _) (rel.shrink r h.2) ⟨h.1, x.2⟩
    · rw [if_neg h] at f
      cases x with
      | obj i =>
        simp only at f
        by_cases h2 : S.length ≤ i ∧ S <+: S'
        · rw [if_pos h2] at f
          cases e0 : S'[i]? with
          | none => rw [e0] at f; exact f
          | some o =>
            rw [e0] at f
            simp only at f
            by_cases h3 : bndO S.length o = true
            · rw [if_pos h3] at f
              intro m' H' v e l r x
              have hl : S.length ≤ S'.length := h2.2.length_le
              have hi : i < S'.length := (List.getElem?_eq_some_iff.mp e0).1
              have ev : v = .ref (m' i) := x.2
              have r0 := rel.shrink r h2.2
              have ex : Ext K S.length m' H' (mNew m' S.length (m' i)) H' := ⟨fun j hj => mNew_lt hj, fun _ _ q => q, fun _ _ q => q, fun _ _ q => q, fun _ _ _ q => q⟩
              refine f (mNew m' S.length (m' i)) H' v (e.trans ex (Nat.le_refl _)) (by rw [List.length_append]; omega) ⟨fun j k hj hk eq => ?_, fun j p ej => ?_, fun j p ej => ?_⟩ ⟨decide_eq_true ?_, ?_⟩
              · rw [List.length_append, List.length_singleton] at hj hk
                by_cases q1 : j = S.length
                · by_cases q2 : k = S.length
                  · omega
                  · rw [q1, mNew_at, mNew_lt (by omega)] at eq
                    have := r.inj i k hi (by omega) eq
                    omega
                · by_cases q2 : k = S.length
                  · rw [q2, mNew_at, mNew_lt (by omega)] at eq
                    have := r.inj j i (by omega) hi eq
                    omega
                  · rw [mNew_lt (by omega), mNew_lt (by omega)] at eq
                    exact r0.inj j k (by omega) (by omega) eq
              · by_cases hj : j < S.length
                · rw [List.getElem?_append_left hj] at ej
                  rw [mNew_lt hj]
                  exact (r0.ob j p ej).ext ex rfl p (r0.wf j p ej)
                · have h4 := (List.getElem?_eq_some_iff.mp ej).1
                  rw [List.length_append, List.length_singleton] at h4
                  have h5 : j = S.length := by omega
                  subst h5
                  rw [List.getElem?_append_right (Nat.le_refl _), Nat.sub_self] at ej
                  have e' : o = p := Option.some.inj ej
                  subst e'
                  rw [mNew_at]
                  exact (r.ob i o e0).ext ex rfl o h3
              · rw [List.length_append, List.length_singleton]
                by_cases hj : j < S.length
                · rw [List.getElem?_append_left hj] at ej
                  exact bndO_mono (Nat.le_succ _) p (r0.wf j p ej)
                · have h4 := (List.getElem?_eq_some_iff.mp ej).1
                  rw [List.length_append, List.length_singleton] at h4
                  have h5 : j = S.length := by omega
                  subst h5
                  rw [List.getElem?_append_right (Nat.le_refl _), Nat.sub_self] at ej
                  have e' : o = p := Option.some.inj ej
                  subst e'
                  exact bndO_mono (Nat.le_succ _) o h3
              · rw [List.length_append, List.length_singleton]; omega
              · show v = V.ref (mNew m' S.length (m' i) S.length)
                rw [mNew_at]
                exact ev
            · rw [if_neg h3] at f
              exact f
        · rw [if_neg h2] at f
          exact f
      | _ => exact f
end
noncomputable def eGc (c : CE PV) : CE PV := fun ρ S => gc S (c ρ S)
theorem de_gc {X : Cx} {W : WX} {a : Expr} {ca : CE PV} (h : DE X W a ca) : DE X W a (eGc ca) := pe_imp h fun σ H Q h => by
  obtain ⟨m, S, ρ, at_, fin⟩ := h
  exact ⟨m, S, ρ, at_, fin.gc at_.rel⟩
/-! ### defs -/
abbrev DF := List PV → Store → Res PV
/-- the promise of a def that does f -/
def spF (K : PySem.W.Frag) (mg : Str → Option Value) (n : Nat) (f : DF) : Sp := fun vs H Q E => ∃ (m : Mp) (S : Store) (xs : List PV), Rel K mg m S H ∧ RL K S.length m H xs vs ∧ vs.length = n ∧ Fin K mg (fun cls d _ H => E cls d H) [] m S H (RV K) Q (f xs S)
noncomputable def eCall (n : Nat) (f : DF) (cs : CE (List PV)) : CE PV := fun ρ S => (cs ρ S).bind fun xs S1 => if xs.length = n then gc S1 (f xs S1) else .stuck
theorem Fin.chg {K : PySem.W.Frag} {mg : Str → Option Value} {W W' : WX} {σ σ' : L2.St} {m : Mp} {S : Store} {H : Hp} {α β : Type} {R : RR α β} {Q : β → Hp → Prop} {r : Res α} (h : Fin K mg W σ m S H R Q r) (w : ∀ cls d H, W cls d σ H → W' cls d σ' H) : Fin K mg W' σ' m S H R Q r := by
  cases r with
  | ok x S' => exact h
  | exc c p S' => exact fun m' H' d e l r x => w _ _ _ (h m' H' d e l r x)
  | stuck => exact h
section
variable {X : Cx} {W : WX} {x : Str} {p pos : Pos} {e : Expr} {es : List Expr} {cs : CE (List PV)} {k n : Nat} {f : Addr} {fd : FuncData} {ps : List Str} {F : DF}
theorem de_call (tk : Takes X W) (G : FnOk X.prog X.w X.K X.mg X.base (L2.CX X.prog X.w) k f fd ps (spF X.K X.mg n F)) (hr : Room k X.A) (hm : X.mg x = some (.ref f)) (hk : PySem.W.keepIn X.K (.ref f) = true) (hb : Binds X.K fd ps [])
    (ha : DA X W (e :: es) cs) (hg : Gl X x := by rfl) (hdb : (x == ("__debug__" : Str)) = false := by decide) (he : starEach (e :: es) X.env = (false, eval e X.env) :: starEach es X.env := by rfl) (hpl : (backTo pos (starEach es X.env)).any (·.1) = false := by rfl) :
    DE X W (.Call (.Name x p) (e :: es) [] pos) (eCall n F cs) := by
  refine pe_imp (pe_callS G hr hg hm hk hb (fun σ => passAt tk σ) ha hdb he hpl) fun σ H Q h => ?_
  obtain ⟨m, S, ρ, at_, fin⟩ := h
  refine ⟨m, S, ρ, at_, (Fin.bind at_ fin).mono fun vs H1 h1 => ?_⟩
  obtain ⟨m1, S1, xs, at1, r1, e1, l1, f1⟩ := h1
  dsimp only at f1
  by_cases hn : xs.length = n
  · rw [if_pos hn] at f1
    exact ⟨m1, S1, xs, at1.rel, r1, by rw [r1.2.length]; exact hn, (f1.gc at1.rel).chg fun _ _ _ h => h⟩
  · rw [if_neg hn] at f1
    exact f1.elim
end
/-! ### built-in functions -/
abbrev FB := List PV → Store → Res PV
def OpC (K : PySem.W.Frag) (mg : Str → Option Value) (f : FB) (r : List V → Hp → VK → Prop) : Prop := ∀ (W : WX) (σ : L2.St) (m : Mp) (S : Store) (H : Hp) (xs : List PV) (vs : List V) (Q : VK),
  Rel K mg m S H → RL K S.length m H xs vs → Fin K mg W σ m S H (RV K) Q (f xs S) → r vs H Q
def eB (f : FB) (cs : CE (List PV)) : CE PV := fun ρ S => (cs ρ S).bind fun xs S1 => f xs S1
section
variable {X : Cx} {W : WX} {x : Str} {p pos : Pos} {e : Expr} {es : List Expr} {cs : CE (List PV)} {F : FB} {r : List V → Hp → VK → Prop}
theorem rd_B (o : OpC X.K X.mg F r) (σ : L2.St) (H : Hp) (Q : VK) (h : rdE X.K X.mg W (eB F cs) σ H Q) : tCB r (rdA X.K X.mg W cs) σ H Q := by
  obtain ⟨m, S, ρ, at_, fin⟩ := h
  refine ⟨m, S, ρ, at_, (Fin.bind at_ fin).mono fun vs H1 h1 => ?_⟩
  obtain ⟨m1, S1, xs, at1, r1, e1, l1, f1⟩ := h1
  exact o W σ m1 S1 H1 xs vs Q at1.rel r1 f1
theorem de_B {id : String} (hc : CallR X (.builtin id) r) (o : OpC X.K X.mg F r) (hm : X.mg x = none) (ha : DA X W (e :: es) cs) (hv : bootBuiltins x = some (.builtin id) := by decide +kernel) (hg : Gl X x := by rfl) (hn : x ≠ "__name__" := by decide) (hdb : (x == ("__debug__" : Str)) = false := by decide)
    (he : starEach (e :: es) X.env = (false, eval e X.env) :: starEach es X.env := by rfl) (hpl : (backTo pos (starEach es X.env)).any (·.1) = false := by rfl) : DE X W (.Call (.Name x p) (e :: es) [] pos) (eB F cs) :=
  pe_imp (pe_callB hc hg hm hv ha hn hdb he hpl) (rd_B o)
theorem de_Ty {T : String} (hc : CallR X (.type T) r) (o : OpC X.K X.mg F r) (hm : X.mg x = none) (ha : DA X W (e :: es) cs) (hv : bootBuiltins x = some (.type T) := by decide +kernel) (hg : Gl X x := by rfl) (hn : x ≠ "__name__" := by decide) (hdb : (x == ("__debug__" : Str)) = false := by decide)
    (he : starEach (e :: es) X.env = (false, eval e X.env) :: starEach es X.env := by rfl) (hpl : (backTo pos (starEach es X.env)).any (·.1) = false := by rfl) : DE X W (.Call (.Name x p) (e :: es) [] pos) (eB F cs) :=
  pe_imp (pe_callTy hc hg hm hv ha hn hdb he hpl) (rd_B o)
end
end TL

set_option Elab.async false
set_option linter.all false
set_option maxRecDepth 100000
set_option maxHeartbeats 1000000
/-! TL7: statements. -/
namespace TL
open PySem PySem.Spec PyProof.Rows L2
inductive SR where
  | next (ρ : Sl) (S : Store)
  | ret (x : PV) (S : Store)
  | brk (ρ : Sl) (S : Store)
  | cont (ρ : Sl) (S : Store)
  | exc (c : Str) (p : Option (Str × PV)) (ρ : Sl) (S : Store)
  | stuck
abbrev CS := Sl → Store → SR
/-- behind an expression -/
def sb {α : Type} (r : Res α) (ρ : Sl) (k : α → Store → SR) : SR := match r with
  | .ok x S => k x S
  | .exc c p S => .exc c p ρ S
  | .stuck => .stuck
theorem sb_ok {α : Type} {x : α} {S : Store} {ρ : Sl} {k : α → Store → SR} : sb (.ok x S) ρ k = k x S := rfl
theorem sb_exc {α : Type} {c : Str} {p : Option (Str × PV)} {S : Store} {ρ : Sl} {k : α → Store → SR} : sb (.exc c p S) ρ k = .exc c p ρ S := rfl
theorem sb_stuck {α : Type} {ρ : Sl} {k : α → Store → SR} : sb (.stuck : Res α) ρ k = .stuck := rfl
def FinS (K : PySem.W.Frag) (mg : Str → Option Value) (W : WX) (m : Mp) (S : Store) (H : Hp) (D : Ends) : SR → Prop
  | .next ρ' S' => ∀ (m' : Mp) (H' : Hp) (σ' : L2.St), Ext K S.length m H m' H' → S.length ≤ S'.length → At K mg m' S' H' ρ' σ' → D.nx σ' H'
  | .brk ρ' S' => ∀ (m' : Mp) (H' : Hp) (σ' : L2.St), Ext K S.length m H m' H' → S.length ≤ S'.length → At K mg m' S' H' ρ' σ' → D.bk σ' H'
  | .cont ρ' S' => ∀ (m' : Mp) (H' : Hp) (σ' : L2.St), Ext K S.length m H m' H' → S.length ≤ S'.length → At K mg m' S' H' ρ' σ' → D.ct σ' H'
  | .ret x S' => ∀ (m' : Mp) (H' : Hp) (v : V), Ext K S.length m H m' H' → S.length ≤ S'.length → Rel K mg m' S' H' → RV K S'.length m' H' x v → D.rt v H'
  | .exc c p ρ' S' => ∀ (m' : Mp) (H' : Hp) (σ' : L2.St) (d : Option Addr), Ext K S.length m H m' H' → S.length ≤ S'.length → At K mg m' S' H' ρ' σ' → XR K S'.length m' H' p d → W (.ref (ca mg c)) d σ' H'
  | .stuck => False
def rdS (K : PySem.W.Frag) (mg : Str → Option Value) (W : WX) (c : CS) : TS := fun D σ H => ∃ m S ρ, At K mg m S H ρ σ ∧ FinS K mg W m S H D (c ρ S)
abbrev DS (X : Cx) (W : WX) (st : Stmt) (c : CS) : Prop := PS X st (rdS X.K X.mg W c)
abbrev DSs (X : Cx) (W : WX) (st : List Stmt) (c : CS) : Prop := PSs X st (rdS X.K X.mg W c)
theorem ps_imp {X : Cx} {st : Stmt} {t t' : TS} (h : PS X st t) (i : ∀ D σ H, t' D σ H → t D σ H) : PS X st t' := ⟨fun pins s σ H D I q => h.run pins s σ H D I (i D σ H q)⟩
theorem pss_imp {X : Cx} {st : List Stmt} {t t' : TS} (h : PSs X st t) (i : ∀ D σ H, t' D σ H → t D σ H) : PSs X st t' := ⟨fun pins s σ H D I q => h.run pins s σ H D I (i D σ H q)⟩
section
variable {K : PySem.W.Frag} {mg : Str → Option Value} {W : WX} {σ : L2.St} {m m1 : Mp} {S S1 : Store} {H H1 : Hp} {ρ : Sl} {D D' : Ends} {α β : Type} {R : RR α β}
theorem FinS.from {r : SR} (h : FinS K mg W m S H D r) (e : Ext K S.length m H m1 H1) (l : S.length ≤ S1.length) : FinS K mg W m1 S1 H1 D r := by
  cases r with
  | next ρ' S' => exact fun m' H' σ' e' l' a => h m' H' σ' (e.trans e' l) (Nat.le_trans l l') a
  | brk ρ' S' => exact fun m' H' σ' e' l' a => h m' H' σ' (e.trans e' l) (Nat.le_trans l l') a
  | cont ρ' S' => exact fun m' H' σ' e' l' a => h m' H' σ' (e.trans e' l) (Nat.le_trans l l') a
  | ret x S' => exact fun m' H' v e' l' r x => h m' H' v (e.trans e' l) (Nat.le_trans l l') r x
  | exc c p ρ' S' => exact fun m' H' σ' d e' l' a x => h m' H' σ' d (e.trans e' l) (Nat.le_trans l l') a x
  | stuck => exact h
theorem FinS.nx_here {ρ' : Sl} {σ' : L2.St} (h : FinS K mg W m S H D (.next ρ' S)) (a : At K mg m S H ρ' σ') : D.nx σ' H := h m H σ' Ext.refl (Nat.le_refl _) a
/-- what goes on behind an expression in a statement -/
def GoS (K : PySem.W.Frag) (mg : Str → Option Value) (W : WX) (ρ : Sl) (σ : L2.St) (m : Mp) (S : Store) (H : Hp) (D : Ends) {α β : Type} (R : RR α β) (k : α → Store → SR) : β → Hp → Prop := fun v H1 =>
  ∃ m1 S1 x, At K mg m1 S1 H1 ρ σ ∧ R S1.length m1 H1 x v ∧ Ext K S.length m H m1 H1 ∧ S.length ≤ S1.length ∧ FinS K mg W m1 S1 H1 D (k x S1)
theorem FinS.bind {r : Res α} {k : α → Store → SR} (a : At K mg m S H ρ σ) (h : FinS K mg W m S H D (sb r ρ k)) : Fin K mg W σ m S H R (GoS K mg W ρ σ m S H D R k) r := by
  cases r with
  | ok x S1 => exact fun m1 H1 v e l r rr => ⟨m1, S1, x, ⟨r, a.env.ext e l⟩, rr, e, l, FinS.from h e l⟩
  | exc c p S' => exact fun m' H' d e l r x => h m' H' σ d e l ⟨r, a.env.ext e l⟩ x
  | stuck => exact h
end
/-! ### small statements, blocks -/
def sNext : CS := fun ρ S => .next ρ S
def sSeq (a b : CS) : CS := fun ρ S => match a ρ S with
  | .next ρ' S' => b ρ' S'
  | r => r
def sSet (i : Nat) (c : CE PV) : CS := fun ρ S => sb (c ρ S) ρ fun x S1 => .next (ρ.set i (some x)) S1
def sDrop (c : CE PV) : CS := fun ρ S => sb (c ρ S) ρ fun _ S1 => .next ρ S1
def sRet (c : CE PV) : CS := fun ρ S => sb (c ρ S) ρ fun x S1 => .ret x S1
def sRetN : CS := fun _ S => .ret .non S
def sBrk : CS := fun ρ S => .brk ρ S
def sCont : CS := fun ρ S => .cont ρ S
def sIf (t : CE Bool) (a b : CS) : CS := fun ρ S => sb (t ρ S) ρ fun k S1 => if k = true then a ρ S1 else b ρ S1
def sRaise (c : Str) : CS := fun ρ S => .exc c none ρ S
section
variable {X : Cx} {W : WX} {pos : Pos} {st : Stmt} {rest : List Stmt} {a b : CS} {e : Expr} {c : CE PV} {t : CE Bool}
theorem dss_nil : DSs X W [] sNext := pss_imp pss_nil fun D σ H h => by
  obtain ⟨m, S, ρ, at_, fin⟩ := h
  exact fin.nx_here at_
theorem dss_cons (h1 : DS X W st a) (h2 : DSs X W rest b) : DSs X W (st :: rest) (sSeq a b) := pss_imp (pss_cons h1 h2) fun D σ H h => by
  obtain ⟨m, S, ρ, at_, fin⟩ := h
  refine ⟨m, S, ρ, at_, ?_⟩
  unfold sSeq at fin
  cases q : a ρ S with
  | next ρ' S' =>
    rw [q] at fin
    exact fun m' H' σ' e l at1 => ⟨m', S', ρ', at1, FinS.from fin e l⟩
  | _ => rw [q] at fin; exact fin
theorem dss_one (h1 : DS X W st a) : DSs X W [st] a := pss_one h1
theorem ds_set (i : Nat) {x : Str} {pos' : Pos} (hN : X.N.Nodup) (he : DE X W e c) (hi : X.N[i]? = some x := by rfl) (hx : Loc X.env.scope x := by first | exact Or.inl rfl | exact Or.inr rfl) (hs : swapsWith e (some (.Name x pos')) pos.line X.env = pure false := by rfl) (hf : X.fn x = true ∨ X.env.scope.names.lookup x = some .local := by first | exact .inl rfl | exact .inr rfl) :
    DS X W (.Assign [.Name x pos'] e pos) (sSet i c) := ps_imp (ps_set hN hi hx he hs hf) fun D σ H h => by
  obtain ⟨m, S, ρ, at_, fin⟩ := h
  refine ⟨m, S, ρ, at_, (FinS.bind at_ fin).mono fun v H1 h1 => ?_⟩
  obtain ⟨m1, S1, y, at1, r1, e1, l1, f1⟩ := h1
  exact f1.nx_here ⟨at1.rel, at1.env.set r1.1 r1.2⟩
theorem ds_expr (he : DE X W e c) (hs : swapsWith e none pos.line X.env = pure false := by rfl) : DS X W (.Expr e pos) (sDrop c) := ps_imp (ps_expr he hs) fun D σ H h => by
  obtain ⟨m, S, ρ, at_, fin⟩ := h
  refine ⟨m, S, ρ, at_, (FinS.bind at_ fin).mono fun v H1 h1 => ?_⟩
  obtain ⟨m1, S1, y, at1, r1, e1, l1, f1⟩ := h1
  exact f1.nx_here at1
theorem ds_ret (he : DE X W e c) : DS X W (.Return (some e) pos) (sRet c) := ps_imp (ps_ret he) fun D σ H h => by
  obtain ⟨m, S, ρ, at_, fin⟩ := h
  refine ⟨m, S, ρ, at_, (FinS.bind at_ fin).mono fun v H1 h1 => ?_⟩
  obtain ⟨m1, S1, y, at1, r1, e1, l1, f1⟩ := h1
  exact f1 m1 H1 v Ext.refl (Nat.le_refl _) at1.rel r1
theorem ds_retN : DS X W (.Return none pos) sRetN := ps_imp ps_retN fun D σ H h => by
  obtain ⟨m, S, ρ, at_, fin⟩ := h
  exact fin m H .non Ext.refl (Nat.le_refl _) at_.rel ⟨rfl, rfl⟩
theorem ds_pass : DS X W (.Pass pos) sNext := ps_imp ps_pass fun D σ H h => by
  obtain ⟨m, S, ρ, at_, fin⟩ := h
  exact fin.nx_here at_
theorem ds_break : DS X W (.Break pos) sBrk := ps_imp ps_break fun D σ H h => by
  obtain ⟨m, S, ρ, at_, fin⟩ := h
  exact fin m H σ Ext.refl (Nat.le_refl _) at_
theorem ds_continue : DS X W (.Continue pos) sCont := ps_imp ps_continue fun D σ H h => by
  obtain ⟨m, S, ρ, at_, fin⟩ := h
  exact fin m H σ Ext.refl (Nat.le_refl _) at_
theorem ds_if {l1 l2 : List Stmt} (ht : DT X W e t) (ha : DSs X W l1 a) (hb : DSs X W l2 b) : DS X W (.If e l1 l2 pos) (sIf t a b) := ps_imp (ps_if ht ha hb) fun D σ H h => by
  obtain ⟨m, S, ρ, at_, fin⟩ := h
  refine ⟨m, S, ρ, at_, (FinS.bind at_ fin).mono fun v H1 h1 => ?_⟩
  obtain ⟨m1, S1, y, at1, r1, e1, l1, f1⟩ := h1
  have r1' : y = v := r1
  subst r1'
  cases y with
  | true =>
    show (if true = true then _ else _)
    rw [if_pos rfl]
    exact ⟨m1, S1, ρ, at1, f1⟩
  | false =>
    show (if false = true then _ else _)
    rw [if_neg Bool.false_ne_true]
    exact ⟨m1, S1, ρ, at1, f1⟩
/-- raise C('..'), C a class of the module without an own __init__ -/
theorem ds_raise {x z : Str} {C : Addr} {j : Nat} {p p2 ps : Pos} {bmB : List Value} {B newId initId : String} (hc : X.calm = true) (tk : Takes X W) (FF : ExcBaseFacts B newId initId bmB) (q : PySem.W.excIn X.K C bmB newId = true) (gC : X.mg x = some (.ref C)) (kC : PySem.W.keepIn X.K (.ref C) = true) (r : Raises X (.ref C)) (hg : Gl X x := by rfl) (hdb : (x == ("__debug__" : Str)) = false := by decide) :
    DS X W (.Raise (some (.Call (.Name x p) [.Constant (.str z) j p2] [] ps)) none pos) (sRaise x) := ps_imp (ps_raise hc tk (pmk_own FF q gC kC r hg (hdb := hdb))) fun D σ H h => by
  obtain ⟨m, S, ρ, at_, fin⟩ := h
  have e : ca X.mg x = C := by unfold ca; rw [gC]
  have f := fin m H σ none Ext.refl (Nat.le_refl _) at_ rfl
  rw [e] at f
  exact f
end
/-! ### targets -/
inductive TT' where
  | name (i : Nat)
  | tup (is : List Nat)
def gNames : List Nat → TGs
  | [] => gNil
  | i :: is => gCons (gName i) (gNames is)
def gTg (K : PySem.W.Frag) : TT' → TG
  | .name i => gName i
  | .tup is => gTup K is.length (gNames is)
def setAll : Sl → List Nat → List PV → Sl
  | ρ, i :: is, x :: xs => setAll (ρ.set i (some x)) is xs
  | ρ, _, _ => ρ
def setAllV : L2.St → List Nat → List V → L2.St
  | ρ, i :: is, x :: xs => setAllV (ρ.set i (some x)) is xs
  | ρ, _, _ => ρ
def setT : TT' → PV → Sl → Option Sl
  | .name i, x, ρ => some (ρ.set i (some x))
  | .tup is, .tup xs, ρ => if xs.length = is.length then some (setAll ρ is xs) else none
  | .tup is, .kup xs, ρ => if xs.length = is.length then some (setAll ρ is xs) else none
  | .tup _, _, _ => none
def ixT : TT' → List Nat
  | .name i => [i]
  | .tup is => is
theorem gNames_ok : ∀ {is : List Nat} {vs : List V} {σ : L2.St} {H : Hp} {Q : L2.St → Hp → Prop}, vs.length = is.length → Q (setAllV σ is vs) H → gNames is vs σ H Q
  | [], [], σ, H, Q, _, q => ⟨rfl, q⟩
  | [], _ :: _, σ, H, Q, h, _ => by cases h
  | _ :: _, [], σ, H, Q, h, _ => by cases h
  | i :: is, v :: vs, σ, H, Q, h, q => ⟨v, vs, rfl, gNames_ok (by simpa using h) q⟩
theorem wipe_get (σ : L2.St) (j : Nat) : ∀ vs : List Nat, (wipe σ vs)[j]? = if j ∈ vs ∧ j < σ.length then some none else σ[j]?
  | [] => by simp [wipe]
  | v :: vs => by
    unfold wipe
    by_cases hv : v = j
    · subst hv
      by_cases hl : v < σ.length
      · rw [List.getElem?_set_self (by rw [wipe_length]; exact hl), if_pos ⟨List.mem_cons_self, hl⟩]
      · have h1 : ((wipe σ vs).set v none)[v]? = none := List.getElem?_eq_none_iff.mpr (by rw [List.length_set, wipe_length]; omega)
        rw [h1, if_neg (fun z => hl z.2)]
        exact (List.getElem?_eq_none_iff.mpr (by omega)).symm
    · rw [List.getElem?_set_ne hv, wipe_get σ j vs]
      have e : (j ∈ v :: vs) ↔ j ∈ vs := ⟨fun h => (List.mem_cons.mp h).elim (fun z => absurd z.symm hv) id, List.mem_cons_of_mem _⟩
      by_cases h : j ∈ vs ∧ j < σ.length
      · rw [if_pos h, if_pos ⟨e.mpr h.1, h.2⟩]
      · rw [if_neg h, if_neg fun z => h ⟨e.mp z.1, z.2⟩]
theorem wipe_set {σ : L2.St} {i : Nat} {x : Option V} {vs : List Nat} (h : i ∈ vs) : wipe (σ.set i x) vs = wipe σ vs := by
  apply List.ext_getElem?
  intro j
  rw [wipe_get, wipe_get, List.length_set]
  by_cases hj : j ∈ vs ∧ j < σ.length
  · rw [if_pos hj, if_pos hj]
  · rw [if_neg hj, if_neg hj]
    by_cases hij : i = j
    · subst hij
      have hl : ¬ i < σ.length := fun z => hj ⟨h, z⟩
      rw [List.getElem?_eq_none_iff.mpr (by rw [List.length_set]; omega), List.getElem?_eq_none_iff.mpr (by omega)]
    · rw [List.getElem?_set_ne hij]
theorem wipe_all {vs : List Nat} : ∀ {is : List Nat} {us : List V} {σ : L2.St}, (∀ i ∈ is, i ∈ vs) → wipe (setAllV σ is us) vs = wipe σ vs
  | [], us, σ, _ => by cases us <;> rfl
  | i :: is, [], σ, _ => rfl
  | i :: is, u :: us, σ, h => by
    show wipe (setAllV (σ.set i (some u)) is us) vs = wipe σ vs
    rw [wipe_all fun j hj => h j (List.mem_cons_of_mem _ hj), wipe_set (h i List.mem_cons_self)]
section
variable {K : PySem.W.Frag} {n : Nat} {m : Mp} {H : Hp}
theorem EnvR.all : ∀ {is : List Nat} {xs : List PV} {vs : List V} {ρ : Sl} {σ : L2.St}, EnvR K n m H ρ σ → bnds n xs = true → Rps K m H xs vs → EnvR K n m H (setAll ρ is xs) (setAllV σ is vs)
  | [], xs, vs, ρ, σ, h, _, _ => by cases xs <;> cases vs <;> exact h
  | i :: is, [], vs, ρ, σ, h, _, r => by
    have e : vs = [] := r
    subst e
    exact h
  | i :: is, x :: xs, vs, ρ, σ, h, b, r => by
    obtain ⟨v, us, rfl, h1, h2⟩ := r
    have b' := Bool.and_eq_true_iff.mp b
    show EnvR K n m H (setAll (ρ.set i (some x)) is xs) (setAllV (σ.set i (some v)) is us)
    exact EnvR.all (h.set b'.1 h1) b'.2 h2
theorem gTg_ok {t : TT'} {x : PV} {v : V} {ρ ρ' : Sl} {σ : L2.St} {Q : L2.St → Hp → Prop} (h : EnvR K n m H ρ σ) (r : RV K n m H x v) (e : setT t x ρ = some ρ')
    (q : ∀ σ', EnvR K n m H ρ' σ' → (∀ vs, (∀ i ∈ ixT t, i ∈ vs) → wipe σ' vs = wipe σ vs) → Q σ' H) : gTg K t v σ H Q := by
  cases t with
  | name i =>
    cases e
    exact q _ (h.set r.1 r.2) fun vs hi => wipe_set (hi i List.mem_cons_self)
  | tup is =>
    cases x with
    | tup xs =>
      obtain ⟨b, a, vs, rfl, h1, h2⟩ := r
      simp only [setT] at e
      by_cases hl : xs.length = is.length
      · rw [if_pos hl] at e
        cases e
        have hv : vs.length = is.length := h2.length.trans hl
        exact ⟨a, vs, rfl, SqT.of h1, hv, gNames_ok hv (q _ (EnvR.all h b h2) fun ws hi => wipe_all hi)⟩
      · rw [if_neg hl] at e
        cases e
    | kup xs =>
      obtain ⟨b, a, vs, rfl, h1, h2⟩ := r
      simp only [setT] at e
      by_cases hl : xs.length = is.length
      · rw [if_pos hl] at e
        cases e
        have hv : vs.length = is.length := h2.length.trans hl
        exact ⟨a, vs, rfl, h1.t, hv, gNames_ok hv (q _ (EnvR.all h b h2) fun ws hi => wipe_all hi)⟩
      · rw [if_neg hl] at e
        cases e
    | _ => cases e
end
abbrev DG (X : Cx) (tg : Expr) (t : TT') : Prop := PG X tg (gTg X.K t)
abbrev DGs (X : Cx) (tgs : List Expr) (is : List Nat) : Prop := PGs X tgs (gNames is)
def sSetT (t : TT') (c : CE PV) : CS := fun ρ S => sb (c ρ S) ρ fun x S1 => match setT t x ρ with
  | some ρ' => .next ρ' S1
  | none => .stuck
section
variable {X : Cx} {W : WX} {pos : Pos} {e tg : Expr} {c : CE PV} {t : TT'}
theorem dg_name (i : Nat) {x : Str} (hN : X.N.Nodup) (hi : X.N[i]? = some x := by rfl) (hx : Loc X.env.scope x := by first | exact Or.inl rfl | exact Or.inr rfl) (hf : X.fn x = true ∨ X.env.scope.names.lookup x = some .local := by first | exact .inl rfl | exact .inr rfl) : DG X (.Name x pos) (.name i) := pg_name hN hi hx hf
theorem dgs_nil : DGs X [] [] := pgs_nil
theorem dgs_cons (i : Nat) {x : Str} {es : List Expr} {is : List Nat} (hN : X.N.Nodup) (h2 : DGs X es is) (hi : X.N[i]? = some x := by rfl) (hx : Loc X.env.scope x := by first | exact Or.inl rfl | exact Or.inr rfl) (hf : X.fn x = true ∨ X.env.scope.names.lookup x = some .local := by first | exact .inl rfl | exact .inr rfl)
    (hs : (assignEach (.Name x pos :: es) X.env).map (·.2) = assign (.Name x pos) X.env :: (assignEach es X.env).map (·.2) := by rfl) : DGs X (.Name x pos :: es) (i :: is) := pgs_cons (pg_name hN hi hx hf) h2 hs
theorem dg_tup {es : List Expr} {k : Nat} {is : List Nat} (hc : X.calm = true) (h : DGs X es is) (hn : (assignEach es X.env).length = is.length := by rfl) (hst : (assignEach es X.env).findIdx? (·.1) = none := by rfl) : DG X (.Tuple es k pos) (.tup is) := pg_tup hc h hn hst
theorem ds_asg (he : DE X W e c) (hg : DG X tg t) (hs : swapsWithSole [tg] e pos.line X.env = pure false := by rfl) (hw : swappedStores [tg] e X.env = pure none := by rfl)
    (h1 : (assignEach [tg] X.env).map (·.2) = [assign tg X.env] := by rfl) : DS X W (.Assign [tg] e pos) (sSetT t c) := ps_imp (ps_asg he hg hs hw h1) fun D σ H h => by
  obtain ⟨m, S, ρ, at_, fin⟩ := h
  refine ⟨m, S, ρ, at_, (FinS.bind at_ fin).mono fun v H1 h1 => ?_⟩
  obtain ⟨m1, S1, y, at1, r1, e1, l1, f1⟩ := h1
  dsimp only at f1
  cases q : setT t y ρ with
  | none => rw [q] at f1; exact f1.elim
  | some ρ' =>
    rw [q] at f1
    exact gTg_ok at1.env r1 q fun σ' env _ => f1.nx_here ⟨at1.rel, env⟩
/-- a, b = x, y -/
def sPar (i j : Nat) (ca cb : CE PV) : CS := fun ρ S => sb (ca ρ S) ρ fun x S1 => sb (cb ρ S1) ρ fun y S2 => .next ((ρ.set i (some x)).set j (some y)) S2
theorem ds_par (i j : Nat) {x y : Str} {a b : Expr} {ca cb : CE PV} {px py pt : Pos} {kt k2 pt2} (hc : X.calm = true) (hN : X.N.Nodup) (ha : DE X W a ca) (hb : DE X W b cb) (hi : X.N[i]? = some x := by rfl) (hj : X.N[j]? = some y := by rfl) (hij : i ≠ j := by decide)
    (hx : X.env.scope.names.lookup x = some .local := by rfl) (hy : X.env.scope.names.lookup y = some .local := by rfl)
    (hw : swappedStores [.Tuple [.Name x px, .Name y py] kt pt] (.Tuple [a, b] k2 pt2) X.env = pure (some [x, y]) := by rfl)
    (hs : swapsWithSole [.Tuple [.Name x px, .Name y py] kt pt] (.Tuple [a, b] k2 pt2) pos.line X.env = pure false := by rfl)
    (hs1 : starEach [a, b] X.env = (false, eval a X.env) :: starEach [b] X.env := by rfl) (hs2 : starEach [b] X.env = (false, eval b X.env) :: starEach [] X.env := by rfl) :
    DS X W (.Assign [.Tuple [.Name x px, .Name y py] kt pt] (.Tuple [a, b] k2 pt2) pos) (sPar i j ca cb) := ps_imp (ps_par hc hN hi hj hij hx hy (pa_cons ha (pa_cons hb pa_nil hs2) hs1) hw hs) fun D σ H h => by
  obtain ⟨m, S, ρ, at_, fin⟩ := h
  refine ⟨m, S, ρ, at_, (FinS.bind at_ fin).mono fun v H1 h1 => ?_⟩
  obtain ⟨m1, S1, p, at1, r1, e1, l1, f1⟩ := h1
  refine ⟨m1, S1, ρ, at1, (FinS.bind at1 f1).mono fun u H2 h2 => ?_⟩
  obtain ⟨m2, S2, q, at2, r2, e2, l2, f2⟩ := h2
  have r1' := stbV e2 l2 r1
  exact ⟨v, u, rfl, f2.nx_here ⟨at2.rel, (at2.env.set r1'.1 r1'.2).set r2.1 r2.2⟩⟩
/-- x += e -/
def sAug (i : Nat) (f : F2) (c : CE PV) : CS := fun ρ S => match ρ[i]? with
  | some (some x) => sb (c ρ S) ρ fun y S1 => sb (f x y S1) ρ fun z S2 => .next (ρ.set i (some z)) S2
  | _ => .stuck
theorem ds_aug (i : Nat) {x : Str} {op : Operator} {ti : TIp} {f : F2} {pos' : Pos} (hN : X.N.Nodup) (ho : PIp X op ti) (o2 : Op2 X.K X.mg f ti) (he : DE X W e c) (hi : X.N[i]? = some x := by rfl) (hx : Loc X.env.scope x := by first | exact Or.inl rfl | exact Or.inr rfl)
    (hf : X.fn x = true ∨ X.env.scope.names.lookup x = some .local := by first | exact .inl rfl | exact .inr rfl) : DS X W (.AugAssign (.Name x pos') op e pos) (sAug i f c) := ps_imp (ps_aug hN hi hx he ho hf) fun D σ H h => by
  obtain ⟨m, S, ρ, at_, fin⟩ := h
  unfold sAug at fin
  cases q : ρ[i]? with
  | none => rw [q] at fin; exact fin.elim
  | some o =>
    rw [q] at fin
    cases o with
    | none => exact fin.elim
    | some y =>
      obtain ⟨hb, v, e1, r⟩ := at_.env.2 i y q
      refine ⟨v, e1, m, S, ρ, at_, (FinS.bind at_ fin).mono fun u H1 h1 => ?_⟩
      obtain ⟨m1, S1, z, at1, r1, e1, l1, f1⟩ := h1
      refine o2 W σ m1 S1 H1 y z v u _ at1.rel (stbV e1 l1 ⟨hb, r⟩) r1 ((FinS.bind at1 f1).mono fun w H2 h2 => ?_)
      obtain ⟨m2, S2, t, at2, r2, e2, l2, f2⟩ := h2
      exact f2.nx_here ⟨at2.rel, at2.env.set r2.1 r2.2⟩
theorem op2_ip {K : PySem.W.Frag} {mg : Str → Option Value} {g : Int → Int → Int} : Op2 K mg (f2I fun i j => .int (g i j)) (ipI g) := by
  intro W σ m S H x y v u Q rel rx ry f
  unfold f2I at f
  cases x with
  | int i =>
    cases y with
    | int j => exact ⟨i, j, rx.2, ry.2, f.here rel ⟨rfl, rfl⟩⟩
    | _ => exact f.elim
  | _ => exact f.elim
abbrev iaddV : F2 := f2I fun i j => .int (i + j)
end
/-! ### o[i] = e -/
abbrev F3 := PV → PV → PV → Store → Option Store
def setV : F3 := fun o k v S => match o with
  | .obj i => match S[i]? with
    | some (.lst xs) => match k with
      | .int j => match ixN xs.length j with
        | some q => some (S.set i (.lst (xs.set q v)))
        | none => none
      | _ => none
    | some (.dic false _) => match dicAt S i k with
      | some kvs => if kvs.length < sizeLine then some (S.set i (.dic false (dput kvs k v))) else none
      | none => none
    | _ => none
  | _ => none
def rSetV : TSet := fun o i v H Q => rSetL o i v H Q ∨ ∃ H1 a H2, cvH H H1 ∧ o = .ref a ∧ DPut H1 a i v H2 ∧ Q H2
theorem set_V {X : Cx} (hu : X.A.units + 1 < cLine) : PSet X rSetV := by
  intro pins s σ H o i v ov iv u Q I ro ri rv h
  rcases h with h | ⟨H1, a, H2, c, rfl, g, q⟩
  · exact set_list pins s σ H o i v ov iv u Q I ro ri rv h
  · cases ro
    exact d_setItem hu (Inv.cv I c) g ri rv fun s' I' => ⟨H2, I', q⟩
section
variable {K : PySem.W.Frag} {mg : Str → Option Value} {m : Mp} {S S' : Store} {H : Hp}
theorem bnds_set {n : Nat} {xs : List PV} {x : PV} (h : bnds n xs = true) (hx : bnd n x = true) (k : Nat) : bnds n (xs.set k x) = true := bnds_all.mpr fun y hy => by
  rcases List.mem_or_eq_of_mem_set hy with q | q
  · exact bnds_all.mp h y q
  · rw [q]; exact hx
theorem bnds_dput {n : Nat} {kvs : List (PV × PV)} {k x : PV} (h : bnds n (kvs.map (·.2)) = true) (hx : bnd n x = true) : bnds n ((dput kvs k x).map (·.2)) = true := by
  refine bnds_all.mpr fun y hy => ?_
  unfold dput at hy
  by_cases e : (kvs.any fun kv => decide (kv.1 = k)) = true
  · rw [if_pos e, List.map_map] at hy
    obtain ⟨p, hp, ep⟩ := List.mem_map.mp hy
    have ep' : (if p.1 = k then (p.1, x) else p).2 = y := ep
    by_cases q : p.1 = k
    · rw [if_pos q] at ep'
      rw [← ep']; exact hx
    · rw [if_neg q] at ep'
      rw [← ep']
      exact bnds_all.mp h _ (List.mem_map_of_mem hp)
  · rw [if_neg e, List.map_append] at hy
    rcases List.mem_append.mp hy with q | q
    · exact bnds_all.mp h y q
    · have q' : y = x := by simpa using q
      rw [q']; exact hx
theorem set_ok {o k x : PV} {ov kv v : V} {Q : Hp → Prop} (rel : Rel K mg m S H) (ro : RV K S.length m H o ov) (rk : RV K S.length m H k kv) (rx : RV K S.length m H x v) (e : setV o k x S = some S')
    (q : ∀ H', Ext K S.length m H m H' → S.length = S'.length → Rel K mg m S' H' → Q H') : rSetV ov kv v H Q := by
  unfold setV at e
  cases o with
  | obj i =>
    have eo : ov = .ref (m i) := ro.2
    subst eo
    simp only at e
    cases ei : S[i]? with
    | none => simp only [ei] at e; cases e
    | some p =>
      simp only [ei] at e
      have hi := (List.getElem?_eq_some_iff.mp ei).1
      cases p with
      | lst xs =>
        simp only at e
        cases k with
        | int j =>
          simp only at e
          cases ej : ixN xs.length j with
          | none => simp only [ej] at e; cases e
          | some t =>
            simp only [ej] at e
            cases e
            obtain ⟨b1, vs, h1, r1⟩ := rel.lst ei
            have ex := rel.ext_write (u := .lst (vs.set t v)) ei (fun _ z => by cases z)
            refine .inl ⟨m i, vs, j, t, rfl, rk.2, h1, by rw [r1.length]; exact ej, q _ ex (by rw [List.length_set]) (rel.write ei (fun _ z => by cases z) (bnds_set b1 rx.1 t) ⟨_, upd_same, (r1.set t rx.2).ext ex _ _ (bnds_set b1 rx.1 t)⟩)⟩
        | _ => cases e
      | dic lk kvs' =>
        cases lk with
        | true => cases e
        | false =>
          simp only at e
          cases ed : dicAt S i k with
          | none => simp only [ed] at e; cases e
          | some kvs =>
            simp only [ed] at e
            by_cases hz : kvs.length < sizeLine
            · rw [if_pos hz] at e
              cases e
              have ekv : kvs' = kvs ∧ isKey k = true ∧ (kvs.all fun kv => (keyOf kv.1).isSome == (keyOf k).isSome) = true := by
                unfold dicAt at ed
                rw [ei] at ed
                simp only at ed
                split at ed
                · rename_i hc
                  cases ed
                  exact ⟨rfl, hc.1, hc.2.1⟩
                · cases ed
              obtain ⟨rfl, c1, c2⟩ := ekv
              have wf : bnds S.length (kvs'.map (·.2)) = true := rel.wf i _ ei
              have ob := rel.ob i _ ei
              have bp := bnds_dput (k := k) wf rx.1
              have goK : ∀ (H1 : Hp) (l : List (Key × V)), cvH H H1 → Rel K mg m S H1 → Ext K S.length m H m H1 → H1 (m i) = some (.dK l) → KvK K m H1 kvs' l → (keyOf k).isSome = true → rSetV (.ref (m i)) kv v H Q := by
                intro H1 l c r1 e1 h1 hkv hs
                obtain ⟨kk, ek⟩ := Option.isSome_iff_exists.mp hs
                have eu : kv = kV kk := key_val (stbV e1 (Nat.le_refl _) rk).2 ek
                have ex := r1.ext_write (u := .dK (putK l kk v)) ei (fun _ z => by cases z)
                have rx1 := stbV e1 (Nat.le_refl _) rx
                refine .inr ⟨H1, m i, _, c, rfl, .inl ⟨l, kk, h1, eu, by rw [hkv.length]; exact hz, rfl⟩, q _ (e1.trans ex (Nat.le_refl _)) (by rw [List.length_set]) (r1.write ei (fun _ z => by cases z) bp (.inl ⟨_, upd_same, ?_⟩))⟩
                exact KvK.ext ex _ _ bp (hkv.put ek rx1.2)
              have goT : ∀ (H1 : Hp) (l : List (List Key × V)), cvH H H1 → Rel K mg m S H1 → Ext K S.length m H m H1 → H1 (m i) = some (.dT l) → KvT K m H1 kvs' l → (tkeyOf k).isSome = true → rSetV (.ref (m i)) kv v H Q := by
                intro H1 l c r1 e1 h1 hkv hs
                obtain ⟨kk, ek⟩ := Option.isSome_iff_exists.mp hs
                obtain ⟨b, eu, hb⟩ := tkey_val (stbV e1 (Nat.le_refl _) rk).2 ek
                have ex := r1.ext_write (u := .dT (putK l kk v)) ei (fun _ z => by cases z)
                have rx1 := stbV e1 (Nat.le_refl _) rx
                refine .inr ⟨H1, m i, _, c, rfl, .inr ⟨l, kk, b, h1, eu, hb, by rw [hkv.length]; exact hz, rfl⟩, q _ (e1.trans ex (Nat.le_refl _)) (by rw [List.length_set]) (r1.write ei (fun _ z => by cases z) bp (.inr ⟨_, upd_same, ?_⟩))⟩
                exact KvT.ext ex _ _ bp (hkv.put ek rx1.2)
              by_cases hs : (keyOf k).isSome = true
              · rcases ob with ⟨l, h1, h2⟩ | ⟨l, h1, h2⟩
                · exact goK H l (.inl rfl) rel Ext.refl h1 h2 hs
                · cases kvs' with
                  | nil =>
                    have el : l = [] := h2
                    subst el
                    obtain ⟨r', e'⟩ := rel.conv ei (.dK []) (.inl rfl)
                    exact goK _ [] (.inr (.inr ⟨m i, h1, rfl⟩)) r' e' upd_same rfl hs
                  | cons p ps =>
                    obtain ⟨q1, rr, rfl, g1, g2, g3⟩ := h2
                    rw [List.all_cons, hs] at c2
                    have c3 := (Bool.and_eq_true_iff.mp c2).1
                    have c4 : (keyOf p.1).isSome = true := by simpa using c3
                    rw [keyOf_tkey c4] at g1
                    cases g1
              · have ht : (tkeyOf k).isSome = true := by
                  unfold isKey at c1
                  rcases Bool.or_eq_true_iff.mp c1 with z | z
                  · exact absurd z hs
                  · exact z
                rcases ob with ⟨l, h1, h2⟩ | ⟨l, h1, h2⟩
                · cases kvs' with
                  | nil =>
                    have el : l = [] := h2
                    subst el
                    obtain ⟨r', e'⟩ := rel.conv ei (.dT []) (.inr rfl)
                    exact goT _ [] (.inr (.inl ⟨m i, h1, rfl⟩)) r' e' upd_same rfl ht
                  | cons p ps =>
                    obtain ⟨q1, rr, rfl, g1, g2, g3⟩ := h2
                    rw [List.all_cons, g1] at c2
                    have c3 := (Bool.and_eq_true_iff.mp c2).1
                    have c4 : (keyOf k).isSome = true := by simpa using c3.symm
                    exact absurd c4 hs
                · exact goT H l (.inl rfl) rel Ext.refl h1 h2 ht
            · rw [if_neg hz] at e
              cases e
      | ins _ _ => cases e
  | _ => cases e
end
def sSetIx (co ci c : CE PV) : CS := fun ρ S => sb (c ρ S) ρ fun x S1 => sb (co ρ S1) ρ fun o S2 => sb (ci ρ S2) ρ fun k S3 => match setV o k x S3 with
  | some S4 => .next ρ S4
  | none => .stuck
section
variable {X : Cx} {W : WX} {pos pos' : Pos} {e o i : Expr} {c co ci : CE PV}
theorem ds_setIx (hu : X.A.units + 1 < cLine) (he : DE X W e c) (ho : DE X W o co) (hi : DE X W i ci) (hs : swapsWithSole [.Subscript o i pos'] e pos.line X.env = pure false := by rfl) (hw : swappedStores [.Subscript o i pos'] e X.env = pure none := by rfl)
    (h1 : (assignEach [.Subscript o i pos'] X.env).map (·.2) = [assign (.Subscript o i pos') X.env] := by rfl)
    (ha : ∀ v, assign (.Subscript o i pos') X.env v = (do
      let ov ← holding [v] (eval o X.env)
      let iv ← holding [v, ov] (eval i X.env)
      standAt pos'
      holding [v, ov, iv] (setItem ov iv v)
      release [v, ov, iv] []) := by intro _; rfl) : DS X W (.Assign [.Subscript o i pos'] e pos) (sSetIx co ci c) := ps_imp (ps_asg he (pg_sub ho hi (set_V hu) ha) hs hw h1) fun D σ H h => by
  obtain ⟨m, S, ρ, at_, fin⟩ := h
  refine ⟨m, S, ρ, at_, (FinS.bind at_ fin).mono fun v H1 h1 => ?_⟩
  obtain ⟨m1, S1, x, at1, r1, e1, l1, f1⟩ := h1
  refine ⟨m1, S1, ρ, at1, (FinS.bind at1 f1).mono fun ov H2 h2 => ?_⟩
  obtain ⟨m2, S2, y, at2, r2, e2, l2, f2⟩ := h2
  refine ⟨m2, S2, ρ, at2, (FinS.bind at2 f2).mono fun kv H3 h3 => ?_⟩
  obtain ⟨m3, S3, z, at3, r3, e3, l3, f3⟩ := h3
  dsimp only at f3
  cases q : setV y z x S3 with
  | none => rw [q] at f3; exact f3.elim
  | some S4 =>
    rw [q] at f3
    exact set_ok at3.rel (stbV e3 l3 r2) r3 (stbV e3 l3 (stbV e2 l2 r1)) q fun H' ex el r' => f3 m3 H' σ ex (by omega) ⟨r', at3.env.ext ex (by omega)⟩
end
end TL

set_option Elab.async false
set_option linter.all false
set_option maxRecDepth 100000
set_option maxHeartbeats 1000000
/-! TL8: while, for, comprehensions. -/
namespace TL
open PySem PySem.Spec PyProof.Rows L2
/-! ### while -/
def whileN (t : CE Bool) (b : CS) : Nat → CS
  | 0 => fun _ _ => .stuck
  | k + 1 => fun ρ S => sb (t ρ S) ρ fun q S1 => if q = true then match b ρ S1 with
    | .next ρ' S' => whileN t b k ρ' S'
    | .cont ρ' S' => whileN t b k ρ' S'
    | .brk ρ' S' => .next ρ' S'
    | r => r
    else .next ρ S1
theorem whileN_step (t : CE Bool) (b : CS) (k : Nat) (ρ : Sl) (S : Store) : whileN t b (k + 1) ρ S = sb (t ρ S) ρ fun q S1 => if q = true then match b ρ S1 with
    | .next ρ' S' => whileN t b k ρ' S'
    | .cont ρ' S' => whileN t b k ρ' S'
    | .brk ρ' S' => .next ρ' S'
    | r => r
    else .next ρ S1 := rfl
theorem whileN_mono (t : CE Bool) (b : CS) : ∀ (k : Nat) (ρ : Sl) (S : Store), whileN t b k ρ S ≠ .stuck → whileN t b (k + 1) ρ S = whileN t b k ρ S
  | 0, ρ, S, h => absurd rfl h
  | k + 1, ρ, S, h => by
    rw [whileN_step t b (k + 1)]
    rw [whileN_step t b k] at h ⊢
    cases q : t ρ S with
    | stuck => rfl
    | exc c p S' => rfl
    | ok v S1 =>
      rw [q] at h
      rw [sb_ok, sb_ok]
      rw [sb_ok] at h
      cases v with
      | false => rfl
      | true =>
        rw [if_pos rfl, if_pos rfl]
        rw [if_pos rfl] at h
        cases e : b ρ S1 with
        | next ρ' S' => rw [e] at h; exact whileN_mono t b k ρ' S' h
        | cont ρ' S' => rw [e] at h; exact whileN_mono t b k ρ' S' h
        | _ => rfl
theorem whileN_le (t : CE Bool) (b : CS) {k : Nat} {ρ : Sl} {S : Store} (h : whileN t b k ρ S ≠ .stuck) : ∀ d : Nat, whileN t b (k + d) ρ S = whileN t b k ρ S
  | 0 => rfl
  | d + 1 => by
    have ih := whileN_le t b h d
    rw [← Nat.add_assoc, whileN_mono t b (k + d) ρ S (by rw [ih]; exact h), ih]
theorem whileN_same (t : CE Bool) (b : CS) {k l : Nat} {ρ : Sl} {S : Store} (h : whileN t b k ρ S ≠ .stuck) (h' : whileN t b l ρ S ≠ .stuck) : whileN t b k ρ S = whileN t b l ρ S := by
  have h1 := whileN_le t b h l
  have h2 := whileN_le t b h' k
  rw [Nat.add_comm] at h2
  exact h1.symm.trans h2
open Classical in
noncomputable def sWhile (t : CE Bool) (b : CS) : CS := fun ρ S => if h : ∃ k, whileN t b k ρ S ≠ .stuck then whileN t b (Classical.choose h) ρ S else .stuck
theorem sWhile_eq {t : CE Bool} {b : CS} {ρ : Sl} {S : Store} (k : Nat) {r : SR} (e : whileN t b k ρ S = r) (hr : r ≠ .stuck) : sWhile t b ρ S = r := by
  have h : ∃ k, whileN t b k ρ S ≠ .stuck := ⟨k, by rw [e]; exact hr⟩
  unfold sWhile
  rw [dif_pos h]
  rw [whileN_same t b (Classical.choose_spec h) (by rw [e]; exact hr), e]
/-- one turn -/
theorem sWhile_unfold (t : CE Bool) (b : CS) (ρ : Sl) (S : Store) : sWhile t b ρ S = sb (t ρ S) ρ fun q S1 => if q = true then match b ρ S1 with
    | .next ρ' S' => sWhile t b ρ' S'
    | .cont ρ' S' => sWhile t b ρ' S'
    | .brk ρ' S' => .next ρ' S'
    | r => r
    else .next ρ S1 := by
  have inner : ∀ (ρ' : Sl) (S' : Store) (F : (Nat → SR) ) , True := fun _ _ _ => trivial
  cases q : t ρ S with
  | stuck =>
    rw [sb_stuck]
    unfold sWhile
    by_cases h : ∃ k, whileN t b k ρ S ≠ .stuck
    · obtain ⟨k, hk⟩ := h
      cases k with
      | zero => exact absurd rfl hk
      | succ k => rw [whileN_step, q, sb_stuck] at hk; exact absurd rfl hk
    · rw [dif_neg h]
  | exc c p S' =>
    rw [sb_exc]
    exact sWhile_eq 1 (by rw [whileN_step, q, sb_exc]) (by intro z; cases z)
  | ok v S1 =>
    rw [sb_ok]
    cases v with
    | false =>
      rw [if_neg Bool.false_ne_true]
      exact sWhile_eq 1 (by rw [whileN_step, q, sb_ok, if_neg Bool.false_ne_true]) (by intro z; cases z)
    | true =>
      rw [if_pos rfl]
      have go : ∀ (ρ' : Sl) (S' : Store), (∀ k, whileN t b (k + 1) ρ S = whileN t b k ρ' S') → sWhile t b ρ S = sWhile t b ρ' S' := by
        intro ρ' S' hk
        by_cases h : ∃ k, whileN t b k ρ' S' ≠ .stuck
        · obtain ⟨k, hk'⟩ := h
          rw [sWhile_eq k rfl hk']
          exact sWhile_eq (k + 1) (hk k) hk'
        · have h2 : ¬ ∃ k, whileN t b k ρ S ≠ .stuck := by
            rintro ⟨k, hk'⟩
            cases k with
            | zero => exact hk' rfl
            | succ k => rw [hk k] at hk'; exact h ⟨k, hk'⟩
          unfold sWhile
          rw [dif_neg h, dif_neg h2]
      cases e : b ρ S1 with
      | next ρ' S' => exact go ρ' S' fun k => by rw [whileN_step, q, sb_ok, if_pos rfl, e]
      | cont ρ' S' => exact go ρ' S' fun k => by rw [whileN_step, q, sb_ok, if_pos rfl, e]
      | brk ρ' S' => exact sWhile_eq 1 (by rw [whileN_step, q, sb_ok, if_pos rfl, e]) (by intro z; cases z)
      | ret x S' => exact sWhile_eq 1 (by rw [whileN_step, q, sb_ok, if_pos rfl, e]) (by intro z; cases z)
      | exc c p ρ' S' => exact sWhile_eq 1 (by rw [whileN_step, q, sb_ok, if_pos rfl, e]) (by intro z; cases z)
      | stuck =>
        unfold sWhile
        rw [dif_neg]
        rintro ⟨k, hk⟩
        cases k with
        | zero => exact hk rfl
        | succ k => rw [whileN_step, q, sb_ok, if_pos rfl, e] at hk; exact hk rfl
section
variable {X : Cx} {W : WX} {pos : Pos} {e : Expr} {body : List Stmt} {t : CE Bool} {b : CS}
theorem ds_while (hp : PassesOwn (model X.prog X.w) X.A X.env X.xe) (ht : DT X W e t) (hb : DSs X W body b) : DS X W (.While e body [] pos) (sWhile t b) := ps_imp (ps_while hp ht hb) fun D σ H h => by
  obtain ⟨m, S, ρ, at_, fin⟩ := h
  have hk : ∃ k, FinS X.K X.mg W m S H D (whileN t b k ρ S) := by
    unfold sWhile at fin
    by_cases q : ∃ k, whileN t b k ρ S ≠ .stuck
    · rw [dif_pos q] at fin; exact ⟨_, fin⟩
    · rw [dif_neg q] at fin; exact fin.elim
  obtain ⟨k, fk⟩ := hk
  refine ⟨fun k σ H => ∃ m S ρ, At X.K X.mg m S H ρ σ ∧ FinS X.K X.mg W m S H D (whileN t b k ρ S), ⟨k, m, S, ρ, at_, fk⟩, ?_⟩
  rintro k σ H ⟨m, S, ρ, at_, fin⟩
  cases k with
  | zero => exact fin.elim
  | succ k =>
    rw [whileN_step] at fin
    refine ⟨m, S, ρ, at_, (FinS.bind at_ fin).mono fun q H1 h1 => ?_⟩
    obtain ⟨m1, S1, x, at1, r1, e1, l1, f1⟩ := h1
    have r1' : x = q := r1
    subst r1'
    dsimp only at f1
    cases x with
    | false =>
      rw [if_neg Bool.false_ne_true]
      rw [if_neg Bool.false_ne_true] at f1
      exact f1.nx_here at1
    | true =>
      rw [if_pos rfl]
      rw [if_pos rfl] at f1
      refine ⟨fun σ' H' => ∃ m S ρ, At X.K X.mg m S H' ρ σ' ∧ FinS X.K X.mg W m S H' D (whileN t b k ρ S), fun σ' H' n => ⟨k, Nat.lt_succ_self k, n⟩, m1, S1, ρ, at1, ?_⟩
      cases eb : b ρ S1 with
      | next ρ' S' =>
        rw [eb] at f1
        exact fun m' H' σ' e l a => ⟨m', S', ρ', a, FinS.from f1 e l⟩
      | cont ρ' S' =>
        rw [eb] at f1
        exact fun m' H' σ' e l a => ⟨m', S', ρ', a, FinS.from f1 e l⟩
      | brk ρ' S' =>
        rw [eb] at f1
        exact f1
      | ret x S' =>
        rw [eb] at f1
        exact f1
      | exc c p ρ' S' =>
        rw [eb] at f1
        exact f1
      | stuck =>
        rw [eb] at f1
        exact f1
end
/-! ### what is walked -/
abbrev Chk := List (Nat × PO)
def chk (c : Chk) (S : Store) : Prop := ∀ p ∈ c, S[p.1]? = some p.2
@[simp] theorem chk_nil (S : Store) : chk [] S := fun _ h => nomatch h
theorem chk_one {i : Nat} {o : PO} {S : Store} (h : S[i]? = some o) : chk [(i, o)] S := fun p hp => by rw [List.mem_singleton.mp hp]; exact h
structure ItR (K : PySem.W.Frag) (mg : Str → Option Value) (J : It) (all : List PV) (ck : Chk) (n0 : Nat) (m0 : Mp) (H0 : Hp) : Prop where
  stop : ∀ (m : Mp) (S : Store) (H : Hp), Ext K n0 m0 H0 m H → n0 ≤ S.length → Rel K mg m S H → chk ck S → J.stop all.length H
  go : ∀ (i : Nat) (m : Mp) (S : Store) (H : Hp), Ext K n0 m0 H0 m H → n0 ≤ S.length → Rel K mg m S H → chk ck S → i < all.length → J.go i H
  yld : ∀ (i : Nat) (m : Mp) (S : Store) (H : Hp) (v : V) (H' : Hp), Ext K n0 m0 H0 m H → n0 ≤ S.length → Rel K mg m S H → chk ck S → i < all.length → J.yld i H v H' →
    ∃ x, all[i]? = some x ∧ Ext K S.length m H m H' ∧ Rel K mg m S H' ∧ RV K S.length m H' x v ∧ ∀ D, H D ≠ none → H' D = H D
def RI (K : PySem.W.Frag) (mg : Str → Option Value) : RR (List PV × Chk) It := fun n m H p J => ItR K mg J p.1 p.2 n m H
def rdI (K : PySem.W.Frag) (mg : Str → Option Value) (W : WX) (c : CE (List PV × Chk)) : TI := fun σ H R => ∃ m S ρ, At K mg m S H ρ σ ∧ Fin K mg W σ m S H (RI K mg) R (c ρ S)
abbrev DI (X : Cx) (W : WX) (tg iter : Expr) (c : CE (List PV × Chk)) : Prop := PI X tg iter (rdI X.K X.mg W c)
theorem pi_imp {X : Cx} {tg iter : Expr} {t t' : TI} (h : PI X tg iter t) (i : ∀ σ H R, t' σ H R → t σ H R) : PI X tg iter t' := ⟨fun pins s σ H R I q => h.run pins s σ H R I (i σ H R q)⟩
/-- a list, a tuple, a text, by the value -/
def tAny (K : PySem.W.Frag) (tl : TE) : TI := fun σ H R => tl σ H fun x H1 => (∃ a, x = .ref a ∧ (∃ xs, SqL K H1 a xs) ∧ R (Itl K a) H1) ∨ (∃ a, x = .ref a ∧ (∃ xs, SqT K H1 a xs) ∧ R (Itt K a) H1) ∨ ∃ z, x = .str z ∧ R (Its z) H1
theorem pi_any {X : Cx} {tg l : Expr} {tl : TE} (hl : PE X l tl) : PI X tg l (tAny X.K tl) := by
  refine ⟨fun pins s σ H R I h => ?_⟩
  refine thn (hl.run pins s σ H _ I h) fun v s1 ⟨x, H1, I1, r1, q1⟩ => ?_
  rcases q1 with ⟨a, e, ⟨xs, hq⟩, q⟩ | ⟨a, e, ⟨xs, hq⟩, q⟩ | ⟨z, e, q⟩
  · subst e
    cases r1
    obtain ⟨its, rv, p, hz⟩ := I1.list hq
    refine wpAny_pyIter_list p.isList ?_
    refine ⟨s1.heap.objs.size, [s1.heap.objs.size], _, _, H1, rfl, I1.kept (t' := s1.toks) fun b o e => Heap.get?_push_of_some _ e, turn_list a _, ⟨_, Heap.get?_push_size _ rfl, rfl, rfl⟩, fun b hb => ?_, q⟩
    have e : b = s1.heap.objs.size := by simpa using hb
    subst e
    exact I1.fpOk (Nat.le_refl _) (I1.hok.fresh (Nat.le_refl _))
  · subst e
    cases r1
    obtain ⟨its, rv, p, hz⟩ := I1.tuple hq
    refine wpAny_pyIter_tuple (show s1.heap.IsTuple a its.toArray from p) ?_
    refine ⟨s1.heap.objs.size, [s1.heap.objs.size], _, _, H1, rfl, I1.kept (t' := s1.toks) fun b o e => Heap.get?_push_of_some _ e, turn_tuple a _, ⟨_, Heap.get?_push_size _ rfl, rfl, rfl⟩, fun b hb => ?_, q⟩
    have e : b = s1.heap.objs.size := by simpa using hb
    subst e
    exact I1.fpOk (Nat.le_refl _) (I1.hok.fresh (Nat.le_refl _))
  · subst e
    obtain ⟨t, rfl⟩ := r1
    cases ha : z.cps.all (· < 128)
    · exact wpAny_pyIter_wide ha (pi_one (tk := s1.toks) I1 _ (turn_str _ z t "str_iterator" (.inr rfl)) ⟨_, Heap.get?_push_size _ rfl, rfl, rfl⟩ q)
    · exact wpAny_pyIter_ascii ha (pi_one (tk := s1.toks) I1 _ (turn_str _ z t "str_ascii_iterator" (.inl rfl)) ⟨_, Heap.get?_push_size _ rfl, rfl, rfl⟩ q)
def signs (z : Str) : List PV := z.cps.toList.map fun c => .str ⟨#[c]⟩
def itemsV (x : PV) (S : Store) : Res (List PV × Chk) := match x with
  | .tup xs => .ok (xs, []) S
  | .kup xs => .ok (xs, []) S
  | .rol xs => .ok (xs, []) S
  | .str z => .ok (signs z, []) S
  | .obj i => match S[i]? with
    | some (.lst xs) => .ok (xs, [(i, .lst xs)]) S
    | _ => .stuck
  | _ => .stuck
def iAny (c : CE PV) : CE (List PV × Chk) := fun ρ S => (c ρ S).bind fun x S1 => itemsV x S1
section
variable {K : PySem.W.Frag} {mg : Str → Option Value} {m : Mp} {S : Store} {H : Hp}
theorem itR_tup {xs : List PV} {vs : List V} {a : Addr} (hs : ∀ m' H', Ext K S.length m H m' H' → SqT K H' a vs) (b : bnds S.length xs = true) (h : Rps K m H xs vs) (J : It) (hJ : J = Itt K a) (inj : ∀ H' us, SqT K H' a us → us.length = vs.length → True) : ItR K mg J xs [] S.length m H := by
  subst hJ
  refine ⟨fun m' S' H' e l r _ => ⟨vs, hs m' H' e, by rw [h.length]; exact Nat.le_refl _⟩, fun i m' S' H' e l r _ hi => ?_, fun i m' S' H' v H'' e l r _ hi y => ?_⟩
  · exact ⟨vs, vs[i]'(by rw [h.length]; exact hi), hs m' H' e, by simp⟩
  · obtain ⟨rfl, y⟩ := y
    have y' := y vs (hs m' _ e)
    obtain ⟨x, ex, rx⟩ := h.get' y'
    exact ⟨x, ex, Ext.refl, r, stbV e l ⟨bnds_get b ex, rx⟩, fun _ _ => rfl⟩
theorem itR_rol {xs : List PV} {vs : List V} {a : Addr} (hs : ∀ m' H', Ext K S.length m H m' H' → SqL K H' a vs) (b : bnds S.length xs = true) (h : Rps K m H xs vs) : ItR K mg (Itl K a) xs [] S.length m H := by
  refine ⟨fun m' S' H' e l r _ => ⟨vs, hs m' H' e, by rw [h.length]; exact Nat.le_refl _⟩, fun i m' S' H' e l r _ hi => ?_, fun i m' S' H' v H'' e l r _ hi y => ?_⟩
  · exact ⟨vs, vs[i]'(by rw [h.length]; exact hi), hs m' H' e, by simp⟩
  · obtain ⟨rfl, y⟩ := y
    have y' := y vs (hs m' _ e)
    obtain ⟨x, ex, rx⟩ := h.get' y'
    exact ⟨x, ex, Ext.refl, r, stbV e l ⟨bnds_get b ex, rx⟩, fun _ _ => rfl⟩
theorem itR_lst {xs : List PV} {i : Nat} (rel : Rel K mg m S H) (ei : S[i]? = some (.lst xs)) : ItR K mg (Itl K (m i)) xs [(i, .lst xs)] S.length m H := by
  have hi := (List.getElem?_eq_some_iff.mp ei).1
  have at_ : ∀ {m' : Mp} {S' : Store} {H' : Hp}, Ext K S.length m H m' H' → Rel K mg m' S' H' → S'[i]? = some (.lst xs) → ∃ vs, bnds S'.length xs = true ∧ H' (m i) = some (.lst vs) ∧ Rps K m' H' xs vs := fun {m' S' H'} e r c => by
    obtain ⟨b, vs, h1, h2⟩ := r.lst c
    rw [e.mi i hi] at h1
    exact ⟨vs, b, h1, h2⟩
  refine ⟨fun m' S' H' e l r c => ?_, fun j m' S' H' e l r c hj => ?_, fun j m' S' H' v H'' e l r c hj y => ?_⟩
  · obtain ⟨vs, b, h1, h2⟩ := at_ e r (c _ (List.mem_cons_self ..))
    exact ⟨vs, SqL.of h1, by rw [h2.length]; exact Nat.le_refl _⟩
  · obtain ⟨vs, b, h1, h2⟩ := at_ e r (c _ (List.mem_cons_self ..))
    exact ⟨vs, vs[j]'(by rw [h2.length]; exact hj), SqL.of h1, by simp⟩
  · obtain ⟨rfl, y⟩ := y
    obtain ⟨vs, b, h1, h2⟩ := at_ e r (c _ (List.mem_cons_self ..))
    obtain ⟨x, ex, rx⟩ := h2.get' (y vs (SqL.of h1))
    exact ⟨x, ex, Ext.refl, r, ⟨bnds_get b ex, rx⟩, fun _ _ => rfl⟩
theorem itR_str {z : Str} : ItR K mg (Its z) (signs z) [] S.length m H := by
  have hl : (signs z).length = z.cps.size := by unfold signs; simp
  refine ⟨fun m' S' H' e l r _ => by show z.cps.size ≤ _; rw [hl]; exact Nat.le_refl _, fun i m' S' H' e l r _ hi => by show i < _; rw [hl] at hi; exact hi, fun i m' S' H' v H'' e l r _ hi y => ?_⟩
  obtain ⟨rfl, c, ec, ev⟩ := y
  subst ev
  refine ⟨.str ⟨#[c]⟩, ?_, Ext.refl, r, ⟨rfl, rfl⟩, fun _ _ => rfl⟩
  unfold signs
  rw [List.getElem?_map, Array.getElem?_toList, ec]
  rfl
theorem itR_rng {lo : Int} {n : Nat} : ItR K mg (Itr lo n) ((List.range n).map fun (i : Nat) => PV.int (lo + (i : Int))) [] S.length m H := by
  refine ⟨fun m' S' H' e l r _ => by show n ≤ _; simp, fun i m' S' H' e l r _ hi => by show i < n; simpa using hi, fun i m' S' H' v H'' e l r _ hi y => ?_⟩
  obtain ⟨rfl, ev⟩ := y
  subst ev
  have hi' : i < n := by simpa using hi
  refine ⟨.int (lo + i), ?_, Ext.refl, r, ⟨rfl, rfl⟩, fun _ _ => rfl⟩
  rw [List.getElem?_map, List.getElem?_range hi']
  rfl
end
section
variable {X : Cx} {W : WX} {pos p : Pos} {tg iter a b : Expr} {c ca cb : CE PV}
theorem di_any (h : DE X W iter c) : DI X W tg iter (iAny c) := pi_imp (pi_any h) fun σ H R h => by
  obtain ⟨m, S, ρ, at_, fin⟩ := h
  refine ⟨m, S, ρ, at_, (Fin.bind at_ fin).mono fun v H1 h1 => ?_⟩
  obtain ⟨m1, S1, x, at1, r1, e1, l1, f1⟩ := h1
  unfold itemsV at f1
  cases x with
  | tup xs =>
    obtain ⟨b1, q, vs, rfl, hq, hvs⟩ := r1
    exact .inr (.inl ⟨q, rfl, ⟨vs, SqT.of hq⟩, f1.here at1.rel (itR_tup (fun m' H' e => SqT.of (e.tu _ _ hq)) b1 hvs _ rfl fun _ _ _ _ => trivial)⟩)
  | kup xs =>
    obtain ⟨b1, q, vs, rfl, hq, hvs⟩ := r1
    exact .inr (.inl ⟨q, rfl, ⟨vs, hq.t⟩, f1.here at1.rel (itR_tup (fun m' H' e => (e.e0.fk _ _ hq).t) b1 hvs _ rfl fun _ _ _ _ => trivial)⟩)
  | rol xs =>
    obtain ⟨b1, q, vs, rfl, hq, hvs⟩ := r1
    exact .inl ⟨q, rfl, ⟨vs, hq.l⟩, f1.here at1.rel (itR_rol (fun m' H' e => (e.fz _ _ hq).l) b1 hvs)⟩
  | str z =>
    have ev : v = .str z := r1.2
    exact .inr (.inr ⟨z, ev, f1.here at1.rel itR_str⟩)
  | obj i =>
    have ev : v = .ref (m1 i) := r1.2
    simp only at f1
    cases ei : S1[i]? with
    | none => simp only [ei] at f1; exact f1.elim
    | some o =>
      simp only [ei] at f1
      cases o with
      | lst xs =>
        obtain ⟨b1, vs, h1, h2⟩ := at1.rel.lst ei
        exact .inl ⟨m1 i, ev, ⟨vs, SqL.of h1⟩, f1.here at1.rel (itR_lst at1.rel ei)⟩
      | _ => exact f1.elim
  | _ => exact f1.elim
def rngL (lo hi : Int) : List PV := (List.range (hi - lo).toNat).map fun (i : Nat) => PV.int (lo + (i : Int))
def iRange1 (c : CE PV) : CE (List PV × Chk) := fun ρ S => (c ρ S).bind fun x S1 => match x with
  | .int j => if -(2 ^ 62) ≤ j ∧ j < 2 ^ 62 then .ok (rngL 0 j, []) S1 else .stuck
  | _ => .stuck
theorem di_range1 (hm : X.mg "range" = none) (ha : DE X W a ca) (hg : Gl X "range" := by rfl) (hs : starEach [a] X.env = [(false, eval a X.env)] := by rfl) (hs2 : starEach [a] X.env = (false, eval a X.env) :: starEach [] X.env := by rfl) : DI X W tg (.Call (.Name "range" p) [a] [] pos) (iRange1 ca) := by
  refine pi_imp (pi_range1 hg hm (pa_cons ha pa_nil hs2) hs) fun σ H R h => ?_
  obtain ⟨m, S, ρ, at_, fin⟩ := h
  refine ⟨m, S, ρ, at_, (Fin.bind at_ fin).mono fun v H1 h1 => ?_⟩
  obtain ⟨m1, S1, x, at1, r1, e1, l1, f1⟩ := h1
  cases x with
  | int j =>
    have ev : v = .int j := r1.2
    subst ev
    simp only at f1
    by_cases q : -(2 ^ 62) ≤ j ∧ j < 2 ^ 62
    · rw [if_pos q] at f1
      refine ⟨j, rfl, q.1, q.2, ?_⟩
      have z := itR_rng (K := X.K) (mg := X.mg) (m := m1) (S := S1) (H := H1) (lo := 0) (n := j.toNat)
      have e : rngL 0 j = (List.range j.toNat).map fun (i : Nat) => PV.int (0 + (i : Int)) := by unfold rngL; rw [Int.sub_zero]
      rw [e] at f1
      exact f1.here at1.rel z
    · rw [if_neg q] at f1
      exact f1.elim
  | _ => exact f1.elim
def iRange2 (ca cb : CE PV) : CE (List PV × Chk) := fun ρ S => (ca ρ S).bind fun x S1 => (cb ρ S1).bind fun y S2 => match x, y with
  | .int i, .int j => if (-(2 ^ 62) ≤ i ∧ i < 2 ^ 62) ∧ -(2 ^ 62) ≤ j ∧ j < 2 ^ 62 then .ok (rngL i j, []) S2 else .stuck
  | _, _ => .stuck
theorem di_range2 (hm : X.mg "range" = none) (ha : DE X W a ca) (hb : DE X W b cb) (hg : Gl X "range" := by rfl) (hs : starEach [a, b] X.env = [(false, eval a X.env), (false, eval b X.env)] := by rfl) (hs2 : starEach [b] X.env = [(false, eval b X.env)] := by rfl)
    (hs3 : starEach [a, b] X.env = (false, eval a X.env) :: starEach [b] X.env := by rfl) (hs4 : starEach [b] X.env = (false, eval b X.env) :: starEach [] X.env := by rfl) : DI X W tg (.Call (.Name "range" p) [a, b] [] pos) (iRange2 ca cb) := by
  refine pi_imp (pi_range2 hg hm (pa_cons ha (pa_cons hb pa_nil hs4) hs3) hs hs2) fun σ H R h => ?_
  obtain ⟨m, S, ρ, at_, fin⟩ := h
  refine ⟨m, S, ρ, at_, (Fin.bind at_ fin).mono fun v H1 h1 => ?_⟩
  obtain ⟨m1, S1, x, at1, r1, e1, l1, f1⟩ := h1
  refine ⟨m1, S1, ρ, at1, (Fin.bind at1 f1).mono fun u H2 h2 => ?_⟩
  obtain ⟨m2, S2, y, at2, r2, e2, l2, f2⟩ := h2
  cases x with
  | int i =>
    cases y with
    | int j =>
      have ev : v = .int i := r1.2
      have eu : u = .int j := r2.2
      subst ev eu
      simp only at f2
      by_cases q : (-(2 ^ 62) ≤ i ∧ i < 2 ^ 62) ∧ -(2 ^ 62) ≤ j ∧ j < 2 ^ 62
      · rw [if_pos q] at f2
        exact ⟨i, j, rfl, ⟨q.1.1, q.1.2, q.2.1, q.2.2⟩, f2.here at2.rel itR_rng⟩
      · rw [if_neg q] at f2
        exact f2.elim
    | _ => exact f2.elim
  | _ => exact f2.elim
end
/-! ### for -/
open Classical in
noncomputable def forN (t : TT') (b : CS) (ck : Chk) : List PV → CS
  | [] => fun ρ S => if chk ck S then .next ρ S else .stuck
  | x :: xs => fun ρ S => if chk ck S then match setT t x ρ with
    | none => .stuck
    | some ρ1 => match b ρ1 S with
      | .next ρ' S' => forN t b ck xs ρ' S'
      | .cont ρ' S' => forN t b ck xs ρ' S'
      | .brk ρ' S' => .next ρ' S'
      | r => r
    else .stuck
noncomputable def sFor (t : TT') (i : CE (List PV × Chk)) (b : CS) : CS := fun ρ S => sb (i ρ S) ρ fun p S1 => forN t b p.2 p.1 ρ S1
section
variable {X : Cx} {W : WX} {pos : Pos} {tg iter : Expr} {body : List Stmt} {t : TT'} {i : CE (List PV × Chk)} {b : CS}
theorem ds_for (hp : PassesOwn (model X.prog X.w) X.A X.env X.xe) (hc : X.calm = true) (hi : DI X W tg iter i) (hg : DG X tg t) (hb : DSs X W body b) (hs : ∀ x, foldedSetIterable iter X.env x = pure x := by intro _; rfl) : DS X W (.For tg iter body [] pos) (sFor t i b) :=
  ps_imp (ps_for hp hc hi hg hb hs) fun D σ H h => by
  obtain ⟨m, S, ρ, at_, fin⟩ := h
  refine ⟨m, S, ρ, at_, (FinS.bind at_ fin).mono fun J H1 h1 => ?_⟩
  obtain ⟨m1, S1, ⟨all, ck⟩, at1, r1, e1, l1, f1⟩ := h1
  have r1' : ItR X.K X.mg J all ck S1.length m1 H1 := r1
  refine ⟨fun j k σ H => ∃ m S ρ, At X.K X.mg m S H ρ σ ∧ Ext X.K S1.length m1 H1 m H ∧ S1.length ≤ S.length ∧ j + k = all.length ∧ FinS X.K X.mg W m S H D (forN t b ck (all.drop j) ρ S), ⟨all.length, m1, S1, ρ, at1, Ext.refl, Nat.le_refl _, by omega, f1⟩, ?_⟩
  rintro j k σ H ⟨m, S, ρ, at_, ex, le, hk, fin⟩
  by_cases hj : j < all.length
  · have ed : all.drop j = all[j] :: all.drop (j + 1) := List.drop_eq_getElem_cons hj
    rw [ed] at fin
    unfold forN at fin
    by_cases hck : chk ck S
    · rw [if_pos hck] at fin
      refine .inr ⟨r1'.go j m S H ex le at_.rel hck hj, fun σ' H' => ∃ m S ρ, At X.K X.mg m S H' ρ σ' ∧ Ext X.K S1.length m1 H1 m H' ∧ S1.length ≤ S.length ∧ FinS X.K X.mg W m S H' D (forN t b ck (all.drop (j + 1)) ρ S), fun σ' H' n => ?_, fun v H' y => ?_⟩
      · obtain ⟨m', S', ρ', a', ex', le', f'⟩ := n
        exact ⟨k - 1, by omega, m', S', ρ', a', ex', le', by omega, f'⟩
      · obtain ⟨x, ex1, e2, r2, rx, _⟩ := r1'.yld j m S H v H' ex le at_.rel hck hj y
        have exj : all[j] = x := by
          rw [List.getElem?_eq_getElem hj] at ex1
          exact Option.some.inj ex1
        rw [exj] at fin
        cases q : setT t x ρ with
        | none => rw [q] at fin; exact fin.elim
        | some ρ1 =>
          rw [q] at fin
          simp only at fin
          have envH : EnvR X.K S.length m H' ρ σ := at_.env.ext e2 (Nat.le_refl _)
          refine gTg_ok envH rx q fun σ2 env2 _ => ⟨m, S, ρ1, ⟨r2, env2⟩, ?_⟩
          have base : ∀ {m' H''}, Ext X.K S.length m H' m' H'' → Ext X.K S1.length m1 H1 m' H'' := fun e3 => (ex.trans e2 le).trans e3 le
          cases eb : b ρ1 S with
          | next ρ' S' =>
            rw [eb] at fin
            exact fun m' H'' σ' e3 l3 a3 => ⟨m', S', ρ', a3, base e3, Nat.le_trans le l3, FinS.from fin (e2.trans e3 (Nat.le_refl _)) l3⟩
          | cont ρ' S' =>
            rw [eb] at fin
            exact fun m' H'' σ' e3 l3 a3 => ⟨m', S', ρ', a3, base e3, Nat.le_trans le l3, FinS.from fin (e2.trans e3 (Nat.le_refl _)) l3⟩
          | brk ρ' S' =>
            rw [eb] at fin
            exact FinS.from (S1 := S) (r := .next ρ' S') fin e2 (Nat.le_refl _)
          | ret x S' =>
            rw [eb] at fin
            exact FinS.from (S1 := S) (r := .ret x S') fin e2 (Nat.le_refl _)
          | exc c p ρ' S' =>
            rw [eb] at fin
            exact FinS.from (S1 := S) (r := .exc c p ρ' S') fin e2 (Nat.le_refl _)
          | stuck =>
            rw [eb] at fin
            exact fin
    · rw [if_neg hck] at fin
      exact fin.elim
  · have ej : j = all.length := by omega
    subst ej
    rw [List.drop_length] at fin
    unfold forN at fin
    by_cases hck : chk ck S
    · rw [if_pos hck] at fin
      exact .inl ⟨r1'.stop m S H ex le at_.rel hck, fin.nx_here at_⟩
    · rw [if_neg hck] at fin
      exact fin.elim
end
end TL

set_option Elab.async false
set_option linter.all false
set_option maxRecDepth 100000
set_option maxHeartbeats 1000000
/-! TL9: list comprehensions, built-in functions, try. -/
namespace TL
open PySem PySem.Spec PyProof.Rows L2
/-! ### [e for t in i if c] -/
def wipeP (ρ : Sl) : List Nat → Sl
  | [] => ρ
  | v :: vs => (wipeP ρ vs).set v none
theorem EnvR.wipe {K : PySem.W.Frag} {n : Nat} {m : Mp} {H : Hp} {ρ : Sl} {σ : L2.St} (h : EnvR K n m H ρ σ) : ∀ vs : List Nat, EnvR K n m H (wipeP ρ vs) (wipe σ vs)
  | [] => h
  | v :: vs => (EnvR.wipe h vs).setN
open Classical in
noncomputable def lcN (t : TT') (tt : CE Bool) (te : CE PV) (ck : Chk) (d : Nat) (ρ : Sl) : List PV → Store → Res PV
  | [] => fun S => if chk ck S then .ok (.obj d) S else .stuck
  | x :: xs => fun S => if chk ck S then match setT t x ρ with
    | none => .stuck
    | some ρ1 => match tt ρ1 S with
      | .ok q S1 => if q = true then match te ρ1 S1 with
        | .ok y S2 => match S2[d]? with
          | some (.lst acc) => if acc.length < sizeLine then lcN t tt te ck d ρ xs (S2.set d (.lst (acc ++ [y]))) else .stuck
          | _ => .stuck
        | _ => .stuck
        else lcN t tt te ck d ρ xs S1
      | _ => .stuck
    else .stuck
noncomputable def eLc (t : TT') (i : CE (List PV × Chk)) (tt : CE Bool) (te : CE PV) (vs : List Nat) : CE PV := fun ρ S => (i ρ S).bind fun p S1 => lcN t tt te p.2 S1.length (wipeP ρ vs) p.1 (S1 ++ [.lst []])
theorem wipe_idem (σ : L2.St) (vs : List Nat) : wipe (wipe σ vs) vs = wipe σ vs := by
  apply List.ext_getElem?
  intro z
  rw [wipe_get (wipe σ vs) z vs, wipe_length, wipe_get σ z vs]
  split <;> rfl
abbrev W0 : WX := fun _ _ _ _ => False
def tYes' : CE Bool := fun _ S => .ok true S
abbrev DTs (X : Cx) (W : WX) (ifs : List Expr) (c : CE Bool) : Prop := PTs X ifs (rdT X.K X.mg W c)
theorem dts_nil {X : Cx} {W : WX} : DTs X W [] tYes' := ⟨fun pins s σ H Q I h => by
  obtain ⟨m, S, ρ, at_, fin⟩ := h
  exact pts_nil.run pins s σ H Q I (fin.here at_.rel rfl)⟩
theorem dts_one {X : Cx} {W : WX} {e : Expr} {c : CE Bool} (h : DT X W e c) : DTs X W [e] c := pts_one h
theorem rd_lc {K : PySem.W.Frag} {mg : Str → Option Value} {W : WX} {t : TT'} {i : CE (List PV × Chk)} {tt : CE Bool} {te : CE PV} {vs : List Nat} (hv : ∀ j ∈ ixT t, j ∈ vs) (σ : L2.St) (H : Hp) (Q : VK) (h : rdE K mg W (eLc t i tt te vs) σ H Q) :
    tLc (rdI K mg W i) (gTg K t) (rdT K mg W0 tt) (rdE K mg W0 te) vs σ H Q := by
  obtain ⟨m, S, ρ, at_, fin⟩ := h
  refine ⟨m, S, ρ, at_, (Fin.bind at_ fin).mono fun J H1 h1 => ?_⟩
  obtain ⟨m1, S1, ⟨all, ck⟩, at1, r1, e1, l1, f1⟩ := h1
  have r1' : ItR K mg J all ck S1.length m1 H1 := r1
  intro D hD
  have relD : Rel K mg (mNew m1 S1.length D) (S1 ++ [.lst []]) (upd H1 D (.lst [])) := at1.rel.newO hD rfl ⟨[], upd_same, rfl⟩
  have extD : Ext K S1.length m1 H1 (mNew m1 S1.length D) (upd H1 D (.lst [])) := ext_new hD fun i hi => mNew_lt hi
  have lenD : (S1 ++ [PO.lst []]).length = S1.length + 1 := by rw [List.length_append]; rfl
  refine ⟨fun j k H => ∃ m S, Rel K mg m S H ∧ Ext K S1.length m1 H1 m H ∧ S1.length + 1 ≤ S.length ∧ m S1.length = D ∧ j + k = all.length ∧ Fin K mg W σ m S H (RV K) Q (lcN t tt te ck S1.length (wipeP ρ vs) (all.drop j) S), ⟨all.length, _, _, relD, extD, by omega, mNew_at, by omega, Fin.from f1 extD (by omega)⟩, ?_⟩
  rintro j k H ⟨m, S, rel, ex, le, eD, hk, fin⟩
  by_cases hj : j < all.length
  · have ed : all.drop j = all[j] :: all.drop (j + 1) := List.drop_eq_getElem_cons hj
    rw [ed] at fin
    unfold lcN at fin
    by_cases hck : chk ck S
    · rw [if_pos hck] at fin
      refine .inr ⟨r1'.go j m S H ex (by omega) rel hck hj, fun H' => ∃ m S, Rel K mg m S H' ∧ Ext K S1.length m1 H1 m H' ∧ S1.length + 1 ≤ S.length ∧ m S1.length = D ∧ Fin K mg W σ m S H' (RV K) Q (lcN t tt te ck S1.length (wipeP ρ vs) (all.drop (j + 1)) S), fun H' n => ?_, fun v H' y => ?_⟩
      · obtain ⟨m', S', a', ex', le', eD', f'⟩ := n
        exact ⟨k - 1, by omega, m', S', a', ex', le', eD', by omega, f'⟩
      · obtain ⟨x, ex1, e2, r2, rx, _⟩ := r1'.yld j m S H v H' ex (by omega) rel hck hj y
        have exj : all[j] = x := by
          rw [List.getElem?_eq_getElem hj] at ex1
          exact Option.some.inj ex1
        rw [exj] at fin
        cases q : setT t x (wipeP ρ vs) with
        | none => rw [q] at fin; exact fin.elim
        | some ρ1 =>
          rw [q] at fin
          simp only at fin
          have ex2 : Ext K S1.length m1 H1 m H' := ex.trans e2 (by omega)
          have env0 : EnvR K S.length m H' (wipeP ρ vs) (wipe σ vs) := (at1.env.wipe vs).ext ex2 (by omega)
          refine gTg_ok env0 rx q fun σ2 env2 hw => ⟨?_, ?_⟩
          · have := hw vs hv
            rw [this, wipe_idem]
          · have fin0 : Fin K mg W σ m S H' (RV K) Q (match tt ρ1 S with
              | .ok q S1' => if q = true then match te ρ1 S1' with
                | .ok y S2 => match S2[S1.length]? with
                  | some (.lst acc) => if acc.length < sizeLine then lcN t tt te ck S1.length (wipeP ρ vs) (all.drop (j + 1)) (S2.set S1.length (.lst (acc ++ [y]))) else .stuck
                  | _ => .stuck
                | _ => .stuck
                else lcN t tt te ck S1.length (wipeP ρ vs) (all.drop (j + 1)) S1'
              | _ => .stuck) := Fin.from fin e2 (Nat.le_refl _)
            refine ⟨m, S, ρ1, ⟨r2, env2⟩, ?_⟩
            cases et : tt ρ1 S with
            | stuck => rw [et] at fin0; exact fin0.elim
            | exc c p S' => rw [et] at fin0; exact fin0.elim
            | ok b S3 =>
              rw [et] at fin0
              intro m3 H3 b' e3 l3 rel3 rb
              have rb' : b = b' := rb
              subst rb'
              simp only at fin0
              have ex3 : Ext K S1.length m1 H1 m3 H3 := ex2.trans e3 (by omega)
              have eD3 : m3 S1.length = D := (e3.mi _ (by omega)).trans eD
              cases b with
              | false =>
                rw [if_neg Bool.false_ne_true] at fin0
                rw [if_neg Bool.false_ne_true]
                exact ⟨m3, S3, rel3, ex3, by omega, eD3, Fin.from fin0 e3 l3⟩
              | true =>
                rw [if_pos rfl] at fin0
                rw [if_pos rfl]
                refine ⟨m3, S3, ρ1, ⟨rel3, env2.ext e3 l3⟩, ?_⟩
                cases ey : te ρ1 S3 with
                | stuck => rw [ey] at fin0; exact fin0.elim
                | exc c p S' => rw [ey] at fin0; exact fin0.elim
                | ok y S4 =>
                  rw [ey] at fin0
                  intro m4 H4 w e4 l4 rel4 rw4
                  simp only at fin0
                  have ex4 : Ext K S1.length m1 H1 m4 H4 := ex3.trans e4 (by omega)
                  have eD4 : m4 S1.length = D := (e4.mi _ (by omega)).trans eD3
                  cases ea : S4[S1.length]? with
                  | none => simp only [ea] at fin0; exact fin0.elim
                  | some o =>
                    simp only [ea] at fin0
                    cases o with
                    | lst acc =>
                      simp only at fin0
                      by_cases hz : acc.length < sizeLine
                      · rw [if_pos hz] at fin0
                        obtain ⟨b5, us, h5, r5⟩ := rel4.lst ea
                        rw [eD4] at h5
                        have hi4 : S1.length < S4.length := by omega
                        have bb : bnds S4.length (acc ++ [y]) = true := bnds_append.mpr ⟨b5, Bool.and_eq_true_iff.mpr ⟨rw4.1, rfl⟩⟩
                        have ew := rel4.ext_write (u := .lst (us ++ [w])) ea (fun _ z => by cases z)
                        have rel5 := rel4.write (u := .lst (us ++ [w])) (o := .lst (acc ++ [y])) ea (fun _ z => by cases z) bb ⟨_, upd_same, (r5.append (Rps.one rw4.2)).ext ew _ _ bb⟩
                        rw [eD4] at rel5 ew
                        refine ⟨us, h5, by rw [r5.length]; exact hz, m4, _, rel5, ex4.trans ew (by omega), by rw [List.length_set]; omega, eD4, Fin.from fin0 ((e3.trans e4 (by omega)).trans ew (by omega)) (by rw [List.length_set]; omega)⟩
                      · rw [if_neg hz] at fin0
                        exact fin0.elim
                    | _ => exact fin0.elim
    · rw [if_neg hck] at fin
      exact fin.elim
  · have ej : j = all.length := by omega
    subst ej
    rw [List.drop_length] at fin
    unfold lcN at fin
    by_cases hck : chk ck S
    · rw [if_pos hck] at fin
      refine .inl ⟨r1'.stop m S H ex (by omega) rel hck, fin.here rel ⟨decide_eq_true (by omega), ?_⟩⟩
      show V.ref D = V.ref (m S1.length)
      rw [eD]
    · rw [if_neg hck] at fin
      exact fin.elim
section
variable {X : Cx} {W : WX} {elt tg iter : Expr} {ifs : List Expr} {scope : Scope} {own : List (Str × Nat)} {pos : Pos} {t : TT'} {i : CE (List PV × Chk)} {tt : CE Bool} {te : CE PV}
theorem de_lc (own : List (Str × Nat)) (hc : X.calm = true) (hN : X.N.Nodup) (hi : DI X W tg iter i) (ok : BlkOk X.N X.env.scope scope own)
    (hg : ∀ (s : Shared) (H : Hp) (C : Addr) (cl : List (Str × Addr)) (fp : List Addr), DG (X.blk s H scope (compEnvC scope cl C X.env) fp) tg t)
    (ht : ∀ (s : Shared) (H : Hp) (C : Addr) (cl : List (Str × Addr)) (fp : List Addr), DTs (X.blk s H scope (compEnvC scope cl C X.env) fp) W0 ifs tt)
    (he : ∀ (s : Shared) (H : Hp) (C : Addr) (cl : List (Str × Addr)) (fp : List Addr), DE (X.blk s H scope (compEnvC scope cl C X.env) fp) W0 elt te)
    (hv : ∀ j ∈ ixT t, j ∈ own.map (·.2) := by decide) (hs : ∀ x, foldedSetIterable iter X.env x = pure x := by intro _; rfl) : DE X W (.ListComp elt [⟨tg, iter, ifs, 0⟩] scope pos) (eLc t i tt te (own.map (·.2))) :=
  pe_imp (pe_lc hc hN hi ok hg ht he hs) (rd_lc hv)
theorem ds_setLc (k : Nat) (own : List (Str × Nat)) {y : Str} {py spos : Pos} (hc : X.calm = true) (hN : X.N.Nodup) (hi : DI X W tg iter i) (ok : BlkOk X.N X.env.scope scope own)
    (hg : ∀ (s : Shared) (H : Hp) (C : Addr) (cl : List (Str × Addr)) (fp : List Addr), DG (X.blk s H scope (compEnvC scope cl C X.env) fp) tg t)
    (ht : ∀ (s : Shared) (H : Hp) (C : Addr) (cl : List (Str × Addr)) (fp : List Addr), DTs (X.blk s H scope (compEnvC scope cl C X.env) fp) W0 ifs tt)
    (he : ∀ (s : Shared) (H : Hp) (C : Addr) (cl : List (Str × Addr)) (fp : List Addr), DE (X.blk s H scope (compEnvC scope cl C X.env) fp) W0 elt te)
    (hy : X.N[k]? = some y := by rfl) (hyl : X.env.scope.names.lookup y = some .local := by rfl)
    (hsw : swapsWith (.ListComp elt [⟨tg, iter, ifs, 0⟩] scope pos) (some (.Name y py)) spos.line X.env = pure true := by exact sw_true rfl rfl rfl (by decide +kernel))
    (hv : ∀ j ∈ ixT t, j ∈ own.map (·.2) := by decide) (hs : ∀ x, foldedSetIterable iter X.env x = pure x := by intro _; rfl) : DS X W (.Assign [.Name y py] (.ListComp elt [⟨tg, iter, ifs, 0⟩] scope pos) spos) (sSet k (eLc t i tt te (own.map (·.2)))) :=
  ps_imp (ps_setLc hc hN hy hyl hsw hi ok hg ht he hs) fun D σ H h => by
    obtain ⟨m, S, ρ, at_, fin⟩ := h
    refine rd_lc hv σ H _ ⟨m, S, ρ, at_, (FinS.bind at_ fin).mono fun v H1 h1 => ?_⟩
    obtain ⟨m1, S1, y, at1, r1, e1, l1, f1⟩ := h1
    exact f1.nx_here ⟨at1.rel, at1.env.set r1.1 r1.2⟩
end
/-! ### built-in functions -/
def lenV : FB := fun xs S => match xs with
  | [.tup ys] => .ok (.int ys.length) S
  | [.kup ys] => .ok (.int ys.length) S
  | [.rol ys] => .ok (.int ys.length) S
  | [.str z] => if z.length ≤ sizeLine then .ok (.int z.length) S else .stuck
  | [.obj i] => match S[i]? with
    | some (.lst ys) => .ok (.int ys.length) S
    | _ => .stuck
  | _ => .stuck
theorem one_of {K : PySem.W.Frag} {n : Nat} {m : Mp} {H : Hp} {x : PV} {vs : List V} (h : RL K n m H [x] vs) : ∃ v, vs = [v] ∧ RV K n m H x v := by
  obtain ⟨b, v, r, rfl, h1, h2⟩ := h
  have e : r = [] := h2
  subst e
  exact ⟨v, rfl, (Bool.and_eq_true_iff.mp b).1, h1⟩
theorem two_of {K : PySem.W.Frag} {n : Nat} {m : Mp} {H : Hp} {x y : PV} {vs : List V} (h : RL K n m H [x, y] vs) : ∃ v u, vs = [v, u] ∧ RV K n m H x v ∧ RV K n m H y u := by
  obtain ⟨b, v, r, rfl, h1, h2⟩ := h
  have b' := Bool.and_eq_true_iff.mp b
  obtain ⟨u, rfl, ru⟩ := one_of ⟨b'.2, h2⟩
  exact ⟨v, u, rfl, ⟨b'.1, h1⟩, ru⟩
theorem opC_len {K : PySem.W.Frag} {mg : Str → Option Value} : OpC K mg lenV (fun xs H Q => ∃ x n, xs = [x] ∧ LenV K x H n ∧ Q (.int n) H) := by
  intro W σ m S H xs vs Q rel rx f
  unfold lenV at f
  split at f
  · obtain ⟨v, rfl, b, p, us, rfl, h1, h2⟩ := one_of rx
    exact ⟨_, _, rfl, .inr ⟨us, SqT.of h1, rfl⟩, by rw [h2.length]; exact f.here rel ⟨rfl, rfl⟩⟩
  · obtain ⟨v, rfl, b, p, us, rfl, h1, h2⟩ := one_of rx
    exact ⟨_, _, rfl, .inr ⟨us, h1.t, rfl⟩, by rw [h2.length]; exact f.here rel ⟨rfl, rfl⟩⟩
  · obtain ⟨v, rfl, b, p, us, rfl, h1, h2⟩ := one_of rx
    exact ⟨_, _, rfl, .inl ⟨us, h1.l, rfl⟩, by rw [h2.length]; exact f.here rel ⟨rfl, rfl⟩⟩
  · rename_i z
    obtain ⟨v, rfl, b, ev⟩ := one_of rx
    have ev' : v = .str z := ev
    subst ev'
    by_cases q : z.length ≤ sizeLine
    · rw [if_pos q] at f
      exact ⟨_, _, rfl, ⟨q, rfl⟩, f.here rel ⟨rfl, rfl⟩⟩
    · rw [if_neg q] at f
      exact f.elim
  · rename_i i
    obtain ⟨v, rfl, b, ev⟩ := one_of rx
    have ev' : v = .ref (m i) := ev
    subst ev'
    split at f
    · rename_i ys ei
      obtain ⟨b1, us, h1, h2⟩ := rel.lst ei
      exact ⟨_, _, rfl, .inl ⟨us, SqL.of h1, rfl⟩, by rw [h2.length]; exact f.here rel ⟨rfl, rfl⟩⟩
    · exact f.elim
  · exact f.elim
def absV' : FB := fun xs S => match xs with
  | [.int i] => .ok (.int (if i < 0 then -i else i)) S
  | _ => .stuck
theorem opC_abs {K : PySem.W.Frag} {mg : Str → Option Value} : OpC K mg absV' (fun xs H Q => ∃ i, xs = [.int i] ∧ Q (.int (if i < 0 then -i else i)) H) := by
  intro W σ m S H xs vs Q rel rx f
  unfold absV' at f
  split at f
  · rename_i i
    obtain ⟨v, rfl, b, ev⟩ := one_of rx
    have ev' : v = .int i := ev
    subst ev'
    exact ⟨i, rfl, f.here rel ⟨rfl, rfl⟩⟩
  · exact f.elim
/-- the name of a value's type -/
def tyP (x : PV) (S : Store) : Option String := match x with
  | .non => some "NoneType"
  | .bl _ => some "bool"
  | .int _ => some "int"
  | .str _ => some "str"
  | .tup _ => some "tuple"
  | .kup _ => none
  | .rol _ => some "list"
  | .obj i => match S[i]? with
    | some (.lst _) => some "list"
    | some (.dic false _) => some "dict"
    | _ => none
  | _ => none
def tyNames : List String := ["NoneType", "bool", "int", "str", "tuple", "list", "dict"]
def isSub (a b : String) : Bool := decide (a = b) || (decide (a = "bool") && decide (b = "int"))
theorem kitB_all : ∀ a ∈ tyNames, ∀ b ∈ ["bool", "int", "str", "tuple", "list", "dict"], kitB a b = some (isSub a b) := by decide +kernel
def isinstV (b : String) : FB := fun xs S => match xs with
  | [x, .ty n] => if n = b then match tyP x S with
    | some a => .ok (.bl (isSub a b)) S
    | none => .stuck
    else .stuck
  | _ => .stuck
theorem tyP_mem {x : PV} {S : Store} {a : String} (h : tyP x S = some a) : a ∈ tyNames := by
  unfold tyP at h
  cases x with
  | obj i =>
    simp only at h
    split at h <;> first | (cases h; decide) | cases h
  | _ => first | (cases h; decide) | cases h
theorem tyP_ok {K : PySem.W.Frag} {mg : Str → Option Value} {m : Mp} {S : Store} {H : Hp} {x : PV} {v : V} {a : String} (rel : Rel K mg m S H) (r : RV K S.length m H x v) (h : tyP x S = some a) : TyX K H v (.type a) := by
  unfold tyP at h
  cases x with
  | non => cases h; have e : v = .non := r.2; subst e; exact .base .non
  | bl b => cases h; have e : v = .bl b := r.2; subst e; exact .base (.bl b)
  | int b => cases h; have e : v = .int b := r.2; subst e; exact .base (.int b)
  | str b => cases h; have e : v = .str b := r.2; subst e; exact .base (.str b)
  | tup xs => cases h; obtain ⟨_, p, vs, rfl, h1, h2⟩ := r; exact .base (.tup h1)
  | kup xs => cases h
  | rol xs =>
    cases h
    obtain ⟨_, p, vs, rfl, h1, h2⟩ := r
    rcases h1 with ⟨o, h1⟩ | ⟨o, its, n, h1, h3, _⟩
    · exact .base (.frz h1)
    · exact .kList h1 h3
  | obj i =>
    have e : v = .ref (m i) := r.2
    subst e
    simp only at h
    cases ei : S[i]? with
    | none => simp only [ei] at h; cases h
    | some o =>
      simp only [ei] at h
      cases o with
      | lst xs =>
        cases h
        obtain ⟨_, vs, h1, _⟩ := rel.lst ei
        exact .base (.lst h1)
      | dic lk kvs =>
        cases lk with
        | false =>
          cases h
          rcases rel.ob i _ ei with ⟨l, h1, _⟩ | ⟨l, h1, _⟩
          · exact .base (.dK h1)
          · exact .base (.dT h1)
        | true => cases h
      | ins _ _ => cases h
  | fn _ => cases h
  | ty _ => cases h
theorem opC_isinst {K : PySem.W.Frag} {mg : Str → Option Value} {b : String} (hb : b ∈ ["bool", "int", "str", "tuple", "list", "dict"]) : OpC K mg (isinstV b) (rIsi K) := by
  intro W σ m S H xs vs Q rel rx f
  unfold isinstV at f
  split at f
  · rename_i x n
    obtain ⟨v, u, rfl, rv, ru⟩ := two_of rx
    have eu : u = .ty n := ru.2
    subst eu
    by_cases q : n = b
    · rw [if_pos q] at f
      subst q
      cases e : tyP x S with
      | none => rw [e] at f; exact f.elim
      | some a =>
        rw [e] at f
        exact ⟨v, .ty n, .type a, .type n, isSub a n, rfl, .ty n, tyP_ok rel rv e, kit_ty (kitB_all a (tyP_mem e) n hb), f.here rel ⟨rfl, rfl⟩⟩
    · rw [if_neg q] at f
      exact f.elim
  · exact f.elim
/-- a built-in type's name as a value -/
theorem de_ty {X : Cx} {W : WX} {x : Str} {n : String} {pos : Pos} (hm : X.mg x = none) (hv : bootBuiltins x = some (.type n) := by decide +kernel) (hg : Gl X x := by rfl) (hn : x ≠ "__name__" := by decide) (hd : (x == ("__debug__" : Str)) = false := by decide) : DE X W (.Name x pos) (eK (.ty n)) :=
  de_k (pe_bltn (v := .ty n) hg hm hv rfl hn hd) (fun _ => rfl) fun _ _ => rfl
end TL

set_option Elab.async false
set_option linter.all false
set_option maxRecDepth 100000
set_option maxHeartbeats 1000000
/-! TL10: defs and their promises, exceptions, what the top has written, a law's end. -/
namespace TL
open PySem PySem.Spec PyProof.Rows L2
/-! ### a def's body -/
def startP (n : Nat) (xs : List PV) : Sl := xs.map some ++ List.replicate (n - xs.length) none
def outS (r : SR) : Res PV := match r with
  | .ret x S => .ok x S
  | .next _ S => .ok .non S
  | .exc c p _ S => .exc c p S
  | _ => .stuck
/-- the def with n names whose body does b -/
def runD (n : Nat) (b : CS) : DF := fun xs S => outS (b (startP n xs) S)
theorem start_ok {K : PySem.W.Frag} {n : Nat} {m : Mp} {H : Hp} {N : List Str} {xs : List PV} {vs : List V} (b : bnds n xs = true) (h : Rps K m H xs vs) : EnvR K n m H (startP N.length xs) (L2.start N vs) := by
  have hl := h.length
  refine ⟨by unfold startP L2.start; simp [hl], fun i x e => ?_⟩
  unfold startP at e
  by_cases hi : i < xs.length
  · rw [List.getElem?_append_left (by simpa using hi), List.getElem?_map] at e
    cases q : xs[i]? with
    | none => rw [q] at e; cases e
    | some y =>
      rw [q] at e
      have e' : y = x := by simpa using e
      subst e'
      obtain ⟨v, ev, rv⟩ := h.get q
      refine ⟨bnds_get b q, v, ?_, rv⟩
      unfold L2.start
      rw [List.getElem?_append_left (by rw [List.length_map, hl]; exact hi), List.getElem?_map, ev]
      rfl
  · rw [List.getElem?_append_right (by simpa using hi)] at e
    rw [List.getElem?_replicate] at e
    split at e <;> cases e
/-- a def of the module, at its name -/
def DefOk (P : Program) (w : World) (K : PySem.W.Frag) (mg : Str → Option Value) (base : Heap) (k : Nat) (x : Str) (ps : List Str) (F : DF) : Prop :=
  ∃ fd, FnOk P w K mg base (L2.CX P w) k (He.ga K x) fd ps (spF K mg ps.length F) ∧ Binds K fd ps [] ∧ mg x = some (.ref (He.ga K x)) ∧ PySem.W.keepIn K (.ref (He.ga K x)) = true
theorem DefOk.mono {P : Program} {w : World} {K : PySem.W.Frag} {mg : Str → Option Value} {base : Heap} {k j : Nat} {x : Str} {ps : List Str} {F : DF} (h : DefOk P w K mg base k x ps F) (l : k ≤ j) : DefOk P w K mg base j x ps F := by
  obtain ⟨fd, h1, h2, h3, h4⟩ := h
  exact ⟨fd, h1.mono l, h2, h3, h4⟩
section
variable {X : Cx} {W : WX} {x : Str} {p pos : Pos} {e : Expr} {es : List Expr} {cs : CE (List PV)} {k : Nat} {ps : List Str} {F : DF}
theorem de_callD (tk : Takes X W) (G : DefOk X.prog X.w X.K X.mg X.base k x ps F) (hr : Room k X.A) (ha : DA X W (e :: es) cs) (hg : Gl X x := by rfl) (hdb : (x == ("__debug__" : Str)) = false := by decide)
    (he : starEach (e :: es) X.env = (false, eval e X.env) :: starEach es X.env := by rfl) (hpl : (backTo pos (starEach es X.env)).any (·.1) = false := by rfl) : DE X W (.Call (.Name x p) (e :: es) [] pos) (eCall ps.length F cs) := by
  obtain ⟨fd, h1, h2, h3, h4⟩ := G
  exact de_call tk h1 hr h3 h4 h2 ha hg hdb he hpl
/-- f() of a def that raises nothing -/
noncomputable def eCall0 (F : DF) : CE PV := fun _ S => match F [] S with
  | .ok x S' => gc S (.ok x S')
  | _ => .stuck
theorem de_callD0 (G : DefOk X.prog X.w X.K X.mg X.base k x [] F) (hr : Room k X.A) (hg : Gl X x := by rfl) (hdb : (x == ("__debug__" : Str)) = false := by decide) : DE X W (.Call (.Name x p) [] [] pos) (eCall0 F) := by
  obtain ⟨fd, h1, h2, h3, h4⟩ := G
  refine pe_imp (pe_call0 h1 hr hg h3 h4 h2 .nil passL hdb) fun σ H Q h => ?_
  obtain ⟨m, S, ρ, at_, fin⟩ := h
  unfold eCall0 at fin
  refine ⟨m, S, [], at_.rel, ⟨rfl, rfl⟩, rfl, ?_⟩
  cases q : F [] S with
  | ok y S' =>
    rw [q] at fin
    have f2 := fin.gc at_.rel
    exact fun m' H' v e l r x => f2 m' H' v e l r x
  | _ => rw [q] at fin; exact fin.elim
end
/-- what a def's context is -/
abbrev cxD (P : Program) (w : World) (K : PySem.W.Frag) (mg : Str → Option Value) (base : Heap) (N : List Str) (qual : Str) (scope : Scope) (f : Addr) (cd : Value) (A : Around) (outer : List Env) (s : Shared) (H : Hp) (E : XK) : Cx := cxOf (L2.CX P w) P w K mg base N qual scope f cd A outer s H E
abbrev wD (E : XK) : WX := fun cls d _ H => E cls d H
theorem fnOk_mk {P : Program} {w : World} {K : PySem.W.Frag} {mg : Str → Option Value} {base : Heap} {k : Nat} {x qual : Str} {params : Arguments} {body : List Stmt} {scope : Scope} {fd : FuncData} {N ps : List Str} {b : CS}
    (F : FunD K x qual params body scope [] [] (He.ga K x) fd) (S : FnScope N ps scope)
    (h : ∀ (cdv : Value) (A : Around) (outer : List Env) (s : Shared) (H : Hp) (E : XK), Room k (A.deeper (envOfC qual scope s.heap.objs.size (He.ga K x) cdv)) → DSs (cxD P w K mg base N qual scope (He.ga K x) cdv A outer s H E) (wD E) body b) :
    FnOk P w K mg base (L2.CX P w) (k + 1) (He.ga K x) fd ps (spF K mg ps.length (runD N.length b)) := by
  refine F.ok S (fun vs H Q E h => ?_) (fun cdv A outer s H vs Q E hr hsp => ⟨_, h cdv A outer s H E hr, ?_⟩)
  · obtain ⟨m, S, xs, _, _, l, _⟩ := h
    exact l
  · obtain ⟨m, S, xs, rel, rx, l, fin⟩ := hsp
    refine ⟨m, S, startP N.length xs, ⟨rel, start_ok rx.1 rx.2⟩, ?_⟩
    unfold runD at fin
    cases q : b (startP N.length xs) S with
    | ret y S' => rw [q] at fin; exact fun m' H' v e l r x => fin m' H' v e l r x
    | next ρ' S' => rw [q] at fin; exact fun m' H' σ' e l a => fin m' H' .non e l a.rel ⟨rfl, rfl⟩
    | exc c p ρ' S' => rw [q] at fin; exact fun m' H' σ' d e l a x => fin m' H' d e l a.rel x
    | brk ρ' S' => rw [q] at fin; exact fin.elim
    | cont ρ' S' => rw [q] at fin; exact fin.elim
    | stuck => rw [q] at fin; exact fin.elim
theorem defOk_mk {P : Program} {w : World} {K : PySem.W.Frag} {mg : Str → Option Value} {base : Heap} {k : Nat} {x qual : Str} {params : Arguments} {body : List Stmt} {scope : Scope} {fd : FuncData} {N ps : List Str} {b : CS}
    (F : FunD K x qual params body scope [] [] (He.ga K x) fd) (S : FnScope N ps scope)
    (hb : ∀ us : List Value, us.length = ps.length → ∀ (kV doc pm : Value) (an : Option Addr) (cdv ct : Value), bindArgs (PySem.W.fnOf x qual params body scope .none kV doc pm an cdv ct) ⟨us, []⟩ = pure (ps.zip us))
    (hm : mg x = some (.ref (He.ga K x)))
    (h : ∀ (cdv : Value) (A : Around) (outer : List Env) (s : Shared) (H : Hp) (E : XK), Room k (A.deeper (envOfC qual scope s.heap.objs.size (He.ga K x) cdv)) → DSs (cxD P w K mg base N qual scope (He.ga K x) cdv A outer s H E) (wD E) body b) :
    DefOk P w K mg base (k + 1) x ps (runD N.length b) := ⟨fd, fnOk_mk F S h, F.bindsN fun kV doc pm an cdv ct us hl => hb us hl kV doc pm an cdv ct, hm, F.kp⟩
/-- a call leaves with what it may -/
theorem tkD {P : Program} {w : World} {K : PySem.W.Frag} {mg : Str → Option Value} {base : Heap} {N : List Str} {qual : Str} {scope : Scope} {f : Addr} {cd : Value} {A : Around} {outer : List Env} {s : Shared} {H : Hp} {E : XK} : Takes (cxD P w K mg base N qual scope f cd A outer s H E) (wD E) := takes_of rfl rfl rfl rfl
theorem poD {P : Program} {w : World} {K : PySem.W.Frag} {mg : Str → Option Value} {base : Heap} {N : List Str} {qual : Str} {scope : Scope} {f : Addr} {cd : Value} {A : Around} {outer : List Env} {s : Shared} {H : Hp} {E : XK} : PassesOwn (model (cxD P w K mg base N qual scope f cd A outer s H E).prog (cxD P w K mg base N qual scope f cd A outer s H E).w) (cxD P w K mg base N qual scope f cd A outer s H E).A (cxD P w K mg base N qual scope f cd A outer s H E).env (cxD P w K mg base N qual scope f cd A outer s H E).xe := passes_of rfl
/-! ### exceptions -/
/-- what is told of the module's exception classes: their names, which stands under which -/
structure ExT (K : PySem.W.Frag) (mg : Str → Option Value) (ns : List Str) (sub : Str → Str → Bool) : Prop where
  gl : ∀ n ∈ ns, mg n = some (.ref (He.ga K n))
  c : ∀ n ∈ ns, ExcC K (He.ga K n)
  exm : ∀ n ∈ ns, ∀ d ∈ ns, PySem.W.exmOne K (.ref (He.ga K n)) (.ref (He.ga K d)) = some (sub n d)
  kit : ∀ n ∈ ns, ∀ d ∈ ns, PySem.W.kitOne K (.ref (He.ga K n)) (.ref (He.ga K d)) = some (sub n d)
  kve : ∀ n ∈ ns, PySem.W.kitOne K (.ref (He.ga K n)) (.type "ValueError") = some true
theorem ca_of {K : PySem.W.Frag} {mg : Str → Option Value} {n : Str} (h : mg n = some (.ref (He.ga K n))) : ca mg n = He.ga K n := by unfold ca; rw [h]
open Classical in
/-- what comes out alike for every place -/
noncomputable def same0 (f : Addr → SR) : SR := if ∀ a, f a = f 0 then f 0 else .stuck
theorem same0_ok {K : PySem.W.Frag} {mg : Str → Option Value} {W : WX} {m : Mp} {S : Store} {H : Hp} {D : Ends} {f : Addr → SR} (h : FinS K mg W m S H D (same0 f)) (a : Addr) : FinS K mg W m S H D (f a) := by
  unfold same0 at h
  by_cases q : ∀ a, f a = f 0
  · rw [if_pos q] at h
    rw [q a]
    exact h
  · rw [if_neg q] at h
    exact h.elim
theorem same0_eq {f : Addr → SR} {r : SR} (h : ∀ a, f a = r) : same0 f = r := by
  unfold same0
  rw [if_pos fun a => by rw [h a, h 0], h 0]
def suiteS (i : Nat) (r : SR) : SR := match r with
  | .next ρ2 S2 => .next (ρ2.set i none) S2
  | .ret y S2 => .ret y S2
  | _ => .stuck
open Classical in
/-- try: body except x as n: suite -/
noncomputable def sTryAs (ns : List Str) (sub : Str → Str → Bool) (x : Str) (i : Nat) (body : CS) (suite : Addr → Str → CS) : CS := fun ρ S => match body ρ S with
  | .exc c none ρ' S' => if c ∈ ns then (if sub c x = true then
      same0 fun a => suiteS i (suite a c (ρ'.set i (some (.fn a))) S')
      else .exc c none ρ' S') else .stuck
  | .exc _ (some _) _ _ => .stuck
  | r => r
section
variable {X : Cx} {W : WX} {x n : Str} {i : Nat} {body suite : List Stmt} {b₀ : Stmt} {np pos pos' : Pos} {cb : CS} {cs : Addr → Str → CS} {ns : List Str} {sub : Str → Str → Bool}
theorem ds_tryAs (i : Nat) (T : ExT X.K X.mg ns sub) (hx : x ∈ ns) (hs : X.stack = X.env :: X.outer) (hf : X.env.frame = some X.env.locals) (hN : X.N.Nodup) (tk : Takes X W)
    (hb : ∀ (W : WX) (pn : List (Addr × Obj)) (xe : Value → Shared → Prop), Takes (X.tr pn xe) W → PassesOwn (model X.prog X.w) X.A X.env xe → DSs (X.tr pn xe) W body cb)
    (hsu : ∀ (a : Addr) (oe : Obj) (c : Str) (pn : List (Addr × Obj)), c ∈ ns → Zc (.ref (He.ga X.K c)) none oe → (∃ vs, oe.data = .fields vs) → DSs (X.suite a ((a, oe) :: pn)) W0 (b₀ :: suite) (cs a c))
    (hi : X.N[i]? = some n := by rfl) (hln : X.env.kindOf n = some .local := by rfl) (hg : Gl X x := by rfl) (hd : (x == ("__debug__" : Str)) = false := by decide) :
    DS X W (.Try body [.ExceptHandler (some (.Name x np)) (some n) (b₀ :: suite) pos'] [] [] pos) (sTryAs ns sub x i cb cs) := by
  have gx := T.gl x hx
  refine ps_imp (ps_try_as (Wout := W) (tb := fun W => rdS X.K X.mg W cb) (ts := fun a cls d => fun D σ H => ∃ c, c ∈ ns ∧ cls = .ref (He.ga X.K c) ∧ d = none ∧ rdS X.K X.mg W0 (cs a c) D σ H) hs hf hN hi hln ⟨hg, hd, .inl gx⟩ tk hb (fun a oe cls d pn hz hfl => ?_)) fun D σ H h => ?_
  · refine ⟨fun pins s σ H D I q => ?_⟩
    obtain ⟨c, hc, ec, ed, q⟩ := q
    subst ec ed
    exact (hsu a oe c pn hc hz hfl).run pins s σ H D I q
  · obtain ⟨m, S, ρ, at_, fin⟩ := h
    refine ⟨m, S, ρ, at_, ?_⟩
    unfold sTryAs at fin
    cases q : cb ρ S with
    | next ρ' S' => rw [q] at fin; exact fin
    | ret y S' => rw [q] at fin; exact fin
    | brk ρ' S' => rw [q] at fin; exact fin
    | cont ρ' S' => rw [q] at fin; exact fin
    | stuck => rw [q] at fin; exact fin
    | exc c p ρ' S' =>
      rw [q] at fin
      cases p with
      | some p => exact fin.elim
      | none =>
        simp only at fin
        by_cases hc : c ∈ ns
        · rw [if_pos hc] at fin
          have gc := T.gl c hc
          intro m' H' σ' d e l a' xr
          have xr' : d = none := xr
          subst xr'
          rw [ca_of gc]
          refine ⟨sub c x, T.exm c hc x hx, fun hb1 a na => ?_, fun hb0 => ?_⟩
          · rw [if_pos hb1] at fin
            have fin := same0_ok fin a
            · refine ⟨c, hc, rfl, rfl, m', S', ρ'.set i (some (.fn a)), ⟨a'.rel, a'.env.set (x := .fn a) (v := .ref a) rfl rfl⟩, ?_⟩
              cases qs : cs a c (ρ'.set i (some (.fn a))) S' with
              | next ρ2 S2 =>
                rw [qs] at fin
                intro m2 H2 σ2 e2 l2 a2
                exact fin m2 H2 (σ2.set i none) (e.trans e2 l) (Nat.le_trans l l2) ⟨a2.rel, a2.env.setN⟩
              | ret y S2 =>
                rw [qs] at fin
                intro m2 H2 v e2 l2 r2 x2
                exact fin m2 H2 v (e.trans e2 l) (Nat.le_trans l l2) r2 x2
              | _ => rw [qs] at fin; exact fin.elim
          · have hb2 : ¬ sub c x = true := by rw [hb0]; exact Bool.false_ne_true
            rw [if_neg hb2] at fin
            have f2 := fin m' H' σ' none e l a' rfl
            rw [ca_of gc] at f2
            exact f2
        · rw [if_neg hc] at fin
          exact fin.elim
end
section
variable {X : Cx} {a D : Addr} {oe : Obj} {pn : List (Addr × Obj)}
/-- isinstance(e, (C, ..)) of the exception that the suite holds -/
def rIsET (K : PySem.W.Frag) (D a : Addr) : List V → Hp → VK → Prop := fun xs H Q => ∃ (tp : Addr) (cs : List V) (us : List Value) (b : Bool), xs = [.ref a, .ref tp] ∧ H tp = some (.tup cs) ∧ Paired ClsV cs us ∧ PySem.W.kitAny K (.ref D) us = some b ∧ Q (.bl b) H
theorem call_isET (C : ExcC X.K D) (hz : Zc (.ref D) none oe) (hf : ∃ vs, oe.data = .fields vs) : CallR (X.suite a ((a, oe) :: pn)) (.builtin "isinstance") (rIsET X.K D a) := by
  intro pins s σ H xs us Q I r h
  obtain ⟨tp, cs, ws, b, rfl, hT, k, e, q⟩ := h
  obtain ⟨u1, u2, rfl, r1, r2⟩ := vals2 r
  cases (show u2 = Value.ref tp from r2)
  cases r1
  obtain ⟨_, its, rv, o, h1, h2, n, h3⟩ := (show ObjOk X.prog X.w H s.heap tp (.tup cs) from I.hok tp _ hT)
  have e3 := ClsV.all k rv
  subst e3
  obtain ⟨oc, od, dt, sl⟩ := o
  simp only at h2 h3
  subst h2 h3
  obtain ⟨hget, _⟩ := I.pin (a, oe) (List.mem_append.mpr (.inl List.mem_cons_self))
  obtain ⟨vs, hv⟩ := hf
  have J : PySem.W.InstAt s.heap a oe D none := by
    obtain ⟨oc, od, oda, osl⟩ := oe
    obtain ⟨g1, g2⟩ := hz
    dsimp only at g1 g2 hv
    subst g1 g2 hv
    exact ⟨hget, rfl, rfl, trivial⟩
  exact PySem.W.kia_tup (PySem.W.handS_kitx_exc C.hg C.hk C.hs C.hd C.ha C.hn C.ht C.hm) I.kIn J h1 e (fun z => nomatch z) fun tk => ⟨.bl b, H, I.tok tk, rfl, q⟩
/-- a class's name as a value, in an except suite -/
def eIsE (i : Nat) (a : Addr) (r : Bool) : CE PV := fun ρ S => match ρ[i]? with
  | some (some (.fn b)) => if b = a then .ok (.bl r) S else .stuck
  | _ => .stuck
theorem eIsE_at {K : PySem.W.Frag} {mg : Str → Option Value} {W : WX} {σ : L2.St} {m : Mp} {S : Store} {H : Hp} {ρ : Sl} {Q : VK} {i : Nat} {a : Addr} {r : Bool} (at_ : At K mg m S H ρ σ) (fin : Fin K mg W σ m S H (RV K) Q (eIsE i a r ρ S)) : σ[i]? = some (some (.ref a)) ∧ Fin K mg W σ m S H (RV K) Q (.ok (.bl r) S) := by
  unfold eIsE at fin
  split at fin
  · rename_i b e
    split at fin
    · rename_i hb
      subst hb
      obtain ⟨_, v, e1, rv⟩ := at_.env.2 i _ e
      have ev : v = .ref b := rv
      rw [ev] at e1
      exact ⟨e1, fin⟩
    · exact fin.elim
  · exact fin.elim
variable {c d n : Str} {p1 p2 p3 pos : Pos} {ns : List Str} {sub : Str → Str → Bool} {i : Nat}
/-- isinstance(e, C), C of the module -/
theorem de_isE (i : Nat) (T : ExT X.K X.mg ns sub) (hc : c ∈ ns) (hd : d ∈ ns) (hz : Zc (.ref (He.ga X.K c)) none oe) (hf : ∃ vs, oe.data = .fields vs) (hm : X.mg "isinstance" = none) (hg : Gl X "isinstance" := by rfl) (hgd : Gl X d := by rfl) (hdd : (d == ("__debug__" : Str)) = false := by decide)
    (hN : X.N[i]? = some n := by rfl) (hv : Vis X.env.scope n := by first | exact Or.inl rfl | exact Or.inr (Or.inl rfl) | exact Or.inr (Or.inr rfl)) (hnd : (n == ("__debug__" : Str)) = false := by decide) (hcd : (n == ("__classdict__" : Str)) = false := by decide)
    (he : starEach [.Name n p2, .Name d p3] (X.suite a ((a, oe) :: pn)).env = (false, eval (.Name n p2) (X.suite a ((a, oe) :: pn)).env) :: starEach [.Name d p3] (X.suite a ((a, oe) :: pn)).env := by rfl)
    (he2 : starEach [.Name d p3] (X.suite a ((a, oe) :: pn)).env = (false, eval (.Name d p3) (X.suite a ((a, oe) :: pn)).env) :: starEach [] (X.suite a ((a, oe) :: pn)).env := by rfl)
    (hpl : (backTo pos (starEach [.Name d p3] (X.suite a ((a, oe) :: pn)).env)).any (·.1) = false := by rfl) :
    DE (X.suite a ((a, oe) :: pn)) W0 (.Call (.Name "isinstance" p1) [.Name n p2, .Name d p3] [] pos) (eIsE i a (sub c d)) := by
  refine pe_imp (pe_callB (call_isE (T.c c hc) hz hf) hg hm PyProof.Rows.boot_isinstance (pa_cons (pe_var hN hv hnd hcd) (pa_cons (pe_glob (v := .ref (He.ga X.K d)) hgd (T.gl d hd) rfl hdd) pa_nil he2) he) (by decide) (by decide) he hpl) fun σ H Q h => ?_
  obtain ⟨m, S, ρ, at_, fin⟩ := h
  obtain ⟨e1, f⟩ := eIsE_at at_ fin
  exact ⟨_, e1, .ref (He.ga X.K d), .ref (He.ga X.K d), sub c d, rfl, fun u r => r, T.kit c hc d hd, f.here at_.rel ⟨rfl, rfl⟩⟩
/-- isinstance(e, ValueError) -/
theorem de_isVE (i : Nat) (T : ExT X.K X.mg ns sub) (hc : c ∈ ns) (hz : Zc (.ref (He.ga X.K c)) none oe) (hf : ∃ vs, oe.data = .fields vs) (hm : X.mg "isinstance" = none) (hme : X.mg "ValueError" = none) (hg : Gl X "isinstance" := by rfl) (hgd : Gl X "ValueError" := by rfl)
    (hve : bootBuiltins "ValueError" = some (.type "ValueError") := by decide +kernel)
    (hN : X.N[i]? = some n := by rfl) (hv : Vis X.env.scope n := by first | exact Or.inl rfl | exact Or.inr (Or.inl rfl) | exact Or.inr (Or.inr rfl)) (hnd : (n == ("__debug__" : Str)) = false := by decide) (hcd : (n == ("__classdict__" : Str)) = false := by decide)
    (he : starEach [.Name n p2, .Name "ValueError" p3] (X.suite a ((a, oe) :: pn)).env = (false, eval (.Name n p2) (X.suite a ((a, oe) :: pn)).env) :: starEach [.Name "ValueError" p3] (X.suite a ((a, oe) :: pn)).env := by rfl)
    (he2 : starEach [.Name "ValueError" p3] (X.suite a ((a, oe) :: pn)).env = (false, eval (.Name "ValueError" p3) (X.suite a ((a, oe) :: pn)).env) :: starEach [] (X.suite a ((a, oe) :: pn)).env := by rfl)
    (hpl : (backTo pos (starEach [.Name "ValueError" p3] (X.suite a ((a, oe) :: pn)).env)).any (·.1) = false := by rfl) :
    DE (X.suite a ((a, oe) :: pn)) W0 (.Call (.Name "isinstance" p1) [.Name n p2, .Name "ValueError" p3] [] pos) (eIsE i a true) := by
  refine pe_imp (pe_callB (call_isE (T.c c hc) hz hf) hg hm PyProof.Rows.boot_isinstance (pa_cons (pe_var hN hv hnd hcd) (pa_cons (pe_bltn (v := .ty "ValueError") hgd hme hve rfl (by decide) (by decide)) pa_nil he2) he) (by decide) (by decide) he hpl) fun σ H Q h => ?_
  obtain ⟨m, S, ρ, at_, fin⟩ := h
  obtain ⟨e1, f⟩ := eIsE_at at_ fin
  exact ⟨_, e1, .ty "ValueError", .type "ValueError", true, rfl, fun u r => r, T.kve c hc, f.here at_.rel ⟨rfl, rfl⟩⟩
/-- names of classes as arguments -/
inductive ClsNames (X : Cx) : List Expr → List Str → Prop
  | nil : ClsNames X [] []
  | cons {es : List Expr} {ds : List Str} {d : Str} {p : Pos} (hg : Gl X d) (hd : (d == ("__debug__" : Str)) = false) (hs : starEach (.Name d p :: es) X.env = (false, eval (.Name d p) X.env) :: starEach es X.env) (r : ClsNames X es ds) : ClsNames X (.Name d p :: es) (d :: ds)
def tRefs (K : PySem.W.Frag) : List Str → TA
  | [] => tNil
  | d :: ds => tCons (tC (.ref (He.ga K d))) (tRefs K ds)
theorem pa_cls (T : ExT X.K X.mg ns sub) : ∀ {es : List Expr} {ds : List Str}, ClsNames X es ds → (∀ d ∈ ds, d ∈ ns) → PA X es (tRefs X.K ds)
  | _, _, .nil, _ => pa_nil
  | _, _, .cons hg hd hs r, h => pa_cons (pe_glob (v := .ref (He.ga X.K _)) hg (T.gl _ (h _ List.mem_cons_self)) rfl hd) (pa_cls T r fun d hd => h d (List.mem_cons_of_mem _ hd)) hs
theorem tRefs_ok {K : PySem.W.Frag} {σ : L2.St} {H : Hp} : ∀ {ds : List Str} {Q : List V → Hp → Prop}, Q (ds.map fun d => .ref (He.ga K d)) H → tRefs K ds σ H Q
  | [], _, q => q
  | d :: ds, Q, q => tRefs_ok (ds := ds) (Q := fun xs H2 => Q (.ref (He.ga K d) :: xs) H2) q
theorem kitAny_of (T : ExT X.K X.mg ns sub) (hc : c ∈ ns) : ∀ {ds : List Str}, (∀ d ∈ ds, d ∈ ns) → PySem.W.kitAny X.K (.ref (He.ga X.K c)) (ds.map fun d => .ref (He.ga X.K d)) = some (ds.any (sub c))
  | [], _ => rfl
  | d :: ds, h => by
    have h1 := T.kit c hc d (h d List.mem_cons_self)
    have h2 := kitAny_of T hc (ds := ds) fun z hz => h z (List.mem_cons_of_mem _ hz)
    rw [List.map_cons]
    exact kitAny_cons h1 (fun e => by rw [h2, List.any_cons, e, Bool.false_or]) fun e => by rw [List.any_cons, e, Bool.true_or]
theorem cls_paired (K : PySem.W.Frag) : ∀ ds : List Str, Paired ClsV (ds.map fun d => V.ref (He.ga K d)) (ds.map fun d => Value.ref (He.ga K d))
  | [] => .nil
  | d :: ds => .cons (.own _) (cls_paired K ds)
/-- isinstance(e, (C, ..)) -/
theorem de_isET (i : Nat) {es : List Expr} {ds : List Str} {kk : Nat} (T : ExT X.K X.mg ns sub) (hc : c ∈ ns) (hcl : ClsNames (X.suite a ((a, oe) :: pn)) es ds) (hd : ∀ d ∈ ds, d ∈ ns) (hlen : ds.length ≤ 1000) (hz : Zc (.ref (He.ga X.K c)) none oe) (hf : ∃ vs, oe.data = .fields vs) (hm : X.mg "isinstance" = none) (hg : Gl X "isinstance" := by rfl)
    (hN : X.N[i]? = some n := by rfl) (hv : Vis X.env.scope n := by first | exact Or.inl rfl | exact Or.inr (Or.inl rfl) | exact Or.inr (Or.inr rfl)) (hnd : (n == ("__debug__" : Str)) = false := by decide) (hcd : (n == ("__classdict__" : Str)) = false := by decide)
    (he : starEach [.Name n p2, .Tuple es kk p3] (X.suite a ((a, oe) :: pn)).env = (false, eval (.Name n p2) (X.suite a ((a, oe) :: pn)).env) :: starEach [.Tuple es kk p3] (X.suite a ((a, oe) :: pn)).env := by rfl)
    (he2 : starEach [.Tuple es kk p3] (X.suite a ((a, oe) :: pn)).env = (false, eval (.Tuple es kk p3) (X.suite a ((a, oe) :: pn)).env) :: starEach [] (X.suite a ((a, oe) :: pn)).env := by rfl)
    (hpl : (backTo pos (starEach [.Tuple es kk p3] (X.suite a ((a, oe) :: pn)).env)).any (·.1) = false := by rfl) :
    DE (X.suite a ((a, oe) :: pn)) W0 (.Call (.Name "isinstance" p1) [.Name n p2, .Tuple es kk p3] [] pos) (eIsE i a (ds.any (sub c))) := by
  have T' : ExT (X.suite a ((a, oe) :: pn)).K (X.suite a ((a, oe) :: pn)).mg ns sub := T
  refine pe_imp (pe_callB (call_isET (T.c c hc) hz hf) hg hm PyProof.Rows.boot_isinstance (pa_cons (pe_var hN hv hnd hcd) (pa_cons (pe_tup (pa_cls T' hcl hd)) pa_nil he2) he) (by decide) (by decide) he hpl) fun σ H Q h => ?_
  obtain ⟨m, S, ρ, at_, fin⟩ := h
  obtain ⟨e1, f⟩ := eIsE_at at_ fin
  refine ⟨_, e1, tRefs_ok ⟨?_, fun tp htp => ?_⟩⟩
  · rw [List.length_map]
    exact Nat.le_trans hlen (by decide)
  · refine ⟨tp, _, _, ds.any (sub c), rfl, upd_same, cls_paired X.K ds, kitAny_of T hc hd, ?_⟩
    exact f m _ _ (ext_new htp fun _ _ => rfl) (Nat.le_refl _) (at_.rel.newT htp) ⟨rfl, rfl⟩
end
/-! ### the law's end -/
theorem law_sp {K : PySem.W.Frag} {mg : Str → Option Value} {F : DF} {n : Nat} (hF : ∀ ns : List Int, ns.length ≤ n → ∃ S, F [.rol (ns.map .int)] [] = .ok (.bl true) S) (H : Hp) (a : Addr) (ns : List Int) (hl : ns.length ≤ n) (hO : Only H) (hS : SqL K H a (ns.map V.int)) :
    spF K mg 1 F [.ref a] H (fun v _ => v = .bl true) fun _ _ _ => False := by
  have hf : SqF K H a (ns.map V.int) := by
    rcases hS with (h | ⟨o, h⟩) | h
    · rcases hO a with z | ⟨o, xs, z⟩
      · rw [h] at z; cases z
      · rw [h] at z; cases z
    · exact .inl ⟨o, h⟩
    · exact .inr h
  have hb : ∀ (n : Nat) (ns : List Int), bnds n (ns.map PV.int) = true := fun n ns => by
    induction ns with
    | nil => rfl
    | cons x xs ih => exact Bool.and_eq_true_iff.mpr ⟨rfl, ih⟩
  have hr : ∀ (ns : List Int), Rps K (fun _ => 0) H (ns.map PV.int) (ns.map V.int) := fun ns => by
    induction ns with
    | nil => exact rfl
    | cons x xs ih => exact ⟨.int x, xs.map V.int, rfl, rfl, ih⟩
  obtain ⟨S, e⟩ := hF ns hl
  refine ⟨fun _ => 0, [], [.rol (ns.map .int)], ⟨fun i j hi _ _ => absurd hi (Nat.not_lt_zero _), fun i o e => by simp at e, fun i o e => by simp at e⟩, ⟨Bool.and_eq_true_iff.mpr ⟨hb _ _, rfl⟩, .ref a, [], rfl, ⟨a, _, rfl, hf, hr ns⟩, rfl⟩, rfl, ?_⟩
  rw [e]
  exact fun m' H' v _ _ _ x => x.2
theorem cx_end (P : Program) (w : World) (H : Hp) (s : Shared) (e : Value) (s' : Shared) (h : L2.CX P w [] H s (fun _ _ _ => False) e s') : False := by
  obtain ⟨_, _, _, _, _, _, _, _, _, _, _, _, z⟩ := h
  exact z
end TL

set_option Elab.async false
set_option linter.all false
set_option maxRecDepth 100000
set_option maxHeartbeats 1000000
/-! TL11: the head's facts, one more Bool of one's own; where the units stand. -/
namespace TL
open PySem PySem.Spec PyProof.Rows L2
theorem hu1 {k : Nat} {A : Around} (r : Room k A) : A.units + 1 < cLine := by have := r.un; omega
theorem hu64 {k : Nat} {A : Around} (r : Room k A) : A.units + 64 < cLine := by have := r.un; omega
theorem hu65 {k : Nat} {A : Around} (r : Room k A) : A.units + 65 < cLine := by have := r.un; omega
def excCB (K : PySem.W.Frag) (n : Str) : Bool :=
  decide (PySem.W.findIn K (.ref (He.ga K n)) "__getattribute__" = some (some (.builtin "BaseException.__getattribute__"))) && (decide (PySem.W.findIn K (.ref (He.ga K n)) "__getattr__" = some none) &&
  (decide (PySem.W.subIn K (.ref (He.ga K n)) (.type "BaseException") = some true) && (PySem.W.hasDictIn K (He.ga K n) && (decide (PySem.W.findIn K (.ref (He.ga K n)) "__class__" = some (some (.builtin "object.__class__"))) &&
  (decide (PySem.W.specialIn K (.builtin "object.__class__") "__get__" = some (some (.builtin "getset_descriptor.__get__"))) && (decide (PySem.W.takesIn K (.builtin "object.__class__") = some true) && decide (PySem.W.mroIn K (He.ga K n) (.type "object") = some true)))))))
theorem excCB_ok {K : PySem.W.Frag} {n : Str} (h : excCB K n = true) : ExcC K (He.ga K n) := by
  unfold excCB at h
  simp only [Bool.and_eq_true, decide_eq_true_eq] at h
  obtain ⟨h1, h2, h3, h4, h5, h6, h7, h8⟩ := h
  exact ⟨h1, h2, h3, h4, h5, h6, h7, h8⟩
def exB (ns : List Str) (sub : Str → Str → Bool) (K : PySem.W.Frag) : Bool := ns.all fun n => decide (PySem.W.nsIn K mainGlobals n = some (some (.ref (He.ga K n)))) && (excCB K n && (decide (PySem.W.kitOne K (.ref (He.ga K n)) (.type "ValueError") = some true) &&
  ns.all fun d => decide (PySem.W.exmOne K (.ref (He.ga K n)) (.ref (He.ga K d)) = some (sub n d)) && decide (PySem.W.kitOne K (.ref (He.ga K n)) (.ref (He.ga K d)) = some (sub n d))))
theorem exB_ok {K : PySem.W.Frag} {h : Heap} {mg : Str → Option Value} (X : K.In h) (G : h.Ns mainGlobals mg) {ns : List Str} {sub : Str → Str → Bool} (e : exB ns sub K = true) : ExT K mg ns sub := by
  unfold exB at e
  rw [List.all_eq_true] at e
  have e1 : ∀ n ∈ ns, PySem.W.nsIn K mainGlobals n = some (some (.ref (He.ga K n))) ∧ excCB K n = true ∧ PySem.W.kitOne K (.ref (He.ga K n)) (.type "ValueError") = some true ∧
      ∀ d ∈ ns, PySem.W.exmOne K (.ref (He.ga K n)) (.ref (He.ga K d)) = some (sub n d) ∧ PySem.W.kitOne K (.ref (He.ga K n)) (.ref (He.ga K d)) = some (sub n d) := fun n hn => by
    have q := e n hn
    simp only [Bool.and_eq_true, decide_eq_true_eq, List.all_eq_true] at q
    exact q
  exact ⟨fun n hn => PySem.W.mg_of X G (e1 n hn).1, fun n hn => excCB_ok (e1 n hn).2.1, fun n hn d hd => ((e1 n hn).2.2.2 d hd).1, fun n hn d hd => ((e1 n hn).2.2.2 d hd).2, fun n hn => (e1 n hn).2.2.1⟩
/-- a class that is raised -/
theorem exc_raise {X : Cx} {n : Str} (c : (He.Fa.exc n).ok X.K = true) : PySem.W.excIn X.K (He.ga X.K n) He.veBase "ValueError.__new__" = true ∧ PySem.W.keepIn X.K (.ref (He.ga X.K n)) = true ∧ Raises X (.ref (He.ga X.K n)) := by
  obtain ⟨h1, h2, h3, h4⟩ := He.exc_ok c
  exact ⟨h1, h2, raises_own h3 h4⟩
structure RaiseF (K : PySem.W.Frag) (mg : Str → Option Value) (n : Str) : Prop where
  g : mg n = some (.ref (He.ga K n))
  q : (He.Fa.exc n).ok K = true
theorem ds_raiseF {X : Cx} {W : WX} {x z : Str} {j : Nat} {p p2 ps pos : Pos} (R : RaiseF X.K X.mg x) (hc : X.calm = true) (tk : Takes X W) (hg : Gl X x := by rfl) (hdb : (x == ("__debug__" : Str)) = false := by decide) :
    DS X W (.Raise (some (.Call (.Name x p) [.Constant (.str z) j p2] [] ps)) none pos) (sRaise x) := by
  obtain ⟨h1, h2, h3⟩ := exc_raise (X := X) R.q
  exact ds_raise hc tk PySem.F.excBase_ValueError h1 R.g h2 h3 hg hdb
/-! ### the Hook -/
abbrev AlT' : Type := He.AlD × Bool
def obsT' (n : Nat) (fa : List He.Fa) (fn : List He.DefD) (ex : PySem.W.Frag → Bool) (g : Addr → Option Obj) : AlT' := (He.obsDG n fa fn g, ex (He.frG g (He.asD g n)))
def hookT' (n : Nat) (fa : List He.Fa) (fn : List He.DefD) (ex : PySem.W.Frag → Bool) : PySem.W.Hook where
  α := AlT'
  obs := fun s => obsT' n fa fn ex s.heap.get?
  val := fun _ => (He.valD fn, true)
  says := fun _ h => ∃ K : PySem.W.Frag, K.In h ∧ He.SaysD fa fn K ∧ ex K = true
  of := fun _ _ e => ⟨_, He.frG_in, congrArg Prod.fst e, congrArg Prod.snd e⟩
  keeps := fun _ _ _ ⟨K, hK, c⟩ k => ⟨K, PySem.W.Frag.In.keeps hK k, c⟩
theorem obsT'_eq {n : Nat} {fa : List He.Fa} {fn : List He.DefD} {ex : PySem.W.Frag → Bool} {g : Addr → Option Obj} {s : Shared} (h : ∀ a, g a = s.heap.get? a) : obsT' n fa fn ex g = (hookT' n fa fn ex).obs s := by
  have e : g = s.heap.get? := funext h
  rw [e] <;> rfl
/-! ### a law's end -/
theorem walk_ofX {l : PySem.W.OpenLaw} {n k : Nat} {q : Program} {loose : List Str} {XP : (Str → Option Value) → Heap → Prop} {YP : World → Heap → Prop} {d : DefRec} {CX : World → CXT} {x : Str}
    (hn : l.most = some n) (hn2 : n ≤ sizeLine) (hdf : d.params.defaults = []) (hr : Room k callerA)
    (F : ∀ (w : World) (mg : Str → Option Value) (fa : Addr) (h : Heap), YP w h → h.Ns mainGlobals mg → mg d.name = some (.ref fa) →
      ∃ (K : PySem.W.Frag) (fd : FuncData) (sp : Sp), K.In h ∧ (∀ (s : Shared) (u : Value), BindsTo s fd ⟨[u], []⟩ [(x, u)]) ∧
        (∀ (H : Hp) (a : Addr) (ns : List Int), ns.length ≤ n → Only H → SqL K H a (ns.map V.int) → sp [.ref a] H (fun v _ => v = .bl true) fun _ _ _ => False) ∧
        ∀ base : Heap, K.In base → base.Ns mainGlobals mg → FnOk l.prog w K mg base (CX w) k fa fd [x] sp)
    (hCX : ∀ (w : World) (H : Hp) (s : Shared) (e : Value) (s' : Shared), CX w [] H s (fun _ _ _ => False) e s' → False) :
    PySem.W.WalkO q loose XP YP l.row.toRowW d [] (fun f vs => PySem.call f vs) := by
  refine Att.attach_call hn hdf fun w s₀ s₁ mg mb fa o pm cd doc a vs ns G Y ho hd hcd hmg hobj hints hlen hg => ?_
  obtain ⟨K, fd, sp, KX, hb, hsp, hF⟩ := F w mg fa _ Y G.T.g hmg
  exact law_call KX G.T.g G.T.b G.T.builtins G.T.nolimit hg hobj hints (Nat.le_trans hlen hn2) hr hF hb (fun H hO hS => hsp H a ns hlen hO hS) fun H e s' => hCX w H s₁ e s'
theorem glo_ga {K : PySem.W.Frag} {h : Heap} {mg : Str → Option Value} {x : Str} {fa : Addr} (X : K.In h) (G : h.Ns mainGlobals mg) (c : (He.Fa.glo x).ok K = true) (e : mg x = some (.ref fa)) : fa = He.ga K x := by
  have e2 := e.symm.trans (He.glo_ok X G c)
  cases e2
  rfl
end TL

set_option Elab.async false
set_option linter.all false
set_option maxRecDepth 100000
/-! TS: rules for reckoning on the store. -/
namespace TL
open PySem PySem.Spec PyProof.Rows L2
@[simp] theorem bind_ap {α β : Type} (x : α) (S : Store) (k : α → Store → Res β) : (Res.ok x S).bind k = k x S := rfl
@[simp] theorem bind_apx {α β : Type} (c : Str) (p : Option (Str × PV)) (S : Store) (k : α → Store → Res β) : (Res.exc c p S : Res α).bind k = .exc c p S := rfl
@[simp] theorem sb_ap {α : Type} (x : α) (S : Store) (ρ : Sl) (k : α → Store → SR) : sb (.ok x S) ρ k = k x S := rfl
@[simp] theorem sb_apx {α : Type} (c : Str) (p : Option (Str × PV)) (S : Store) (ρ : Sl) (k : α → Store → SR) : sb (.exc c p S : Res α) ρ k = .exc c p ρ S := rfl
@[simp] theorem eK_ap (x : PV) (ρ : Sl) (S : Store) : eK x ρ S = .ok x S := rfl
@[simp] theorem eVar_ap (i : Nat) (ρ : Sl) (S : Store) : eVar i ρ S = match ρ[i]? with
  | some (some x) => .ok x S
  | _ => .stuck := rfl
@[simp] theorem aNil_ap (ρ : Sl) (S : Store) : aNil ρ S = .ok [] S := rfl
@[simp] theorem aCons_ap (c : CE PV) (cs : CE (List PV)) (ρ : Sl) (S : Store) : aCons c cs ρ S = (c ρ S).bind fun x S1 => (cs ρ S1).bind fun xs S2 => .ok (x :: xs) S2 := rfl
@[simp] theorem eBin_ap (f : F2) (a b : CE PV) (ρ : Sl) (S : Store) : eBin f a b ρ S = (a ρ S).bind fun x S1 => (b ρ S1).bind fun y S2 => f x y S2 := rfl
@[simp] theorem eChain_ap (f g : F2) (ca cb cc : CE PV) (ρ : Sl) (S : Store) : eChain f g ca cb cc ρ S = (ca ρ S).bind fun x S1 => (cb ρ S1).bind fun y S2 => (f x y S2).bind fun z S3 => match z with
  | .bl true => (cc ρ S3).bind fun u S4 => g y u S4
  | .bl false => .ok (.bl false) S3
  | _ => .stuck := rfl
@[simp] theorem eB_ap (f : FB) (c : CE (List PV)) (ρ : Sl) (S : Store) : eB f c ρ S = (c ρ S).bind fun xs S1 => f xs S1 := rfl
@[simp] theorem f2I_ap (g : Int → Int → PV) (i j : Int) (S : Store) : f2I g (.int i) (.int j) S = .ok (g i j) S := rfl
@[simp] theorem f2C_ap (c : Int → Int → Bool) (g : Int → Int → Int) (i j : Int) (S : Store) : f2C c g (.int i) (.int j) S = if c i j = true then .ok (.int (g i j)) S else .stuck := rfl
@[simp] theorem addV_int (i j : Int) (S : Store) : addV (.int i) (.int j) S = .ok (.int (i + j)) S := rfl
@[simp] theorem mulV_int (i j : Int) (S : Store) : mulV (.int i) (.int j) S = if mulOk i j = true then .ok (.int (i * j)) S else .stuck := rfl
@[simp] theorem eqG_int (g : Bool → Bool) (i j : Int) (S : Store) : eqG g (.int i) (.int j) S = .ok (.bl (g (decide (i = j)))) S := rfl
@[simp] theorem eqG_str (g : Bool → Bool) (i j : Str) (S : Store) : eqG g (.str i) (.str j) S = .ok (.bl (g (decide (i = j)))) S := rfl
@[simp] theorem isG_ap (g : Bool → Bool) (x : PV) (S : Store) : isG g x .non S = .ok (.bl (g (isNon x))) S := rfl
@[simp] theorem tBl_ap (c : CE PV) (ρ : Sl) (S : Store) : tBl c ρ S = (c ρ S).bind fun x S1 => match x with
  | .bl b => .ok b S1
  | _ => .stuck := rfl
@[simp] theorem tTru_ap (c : CE PV) (ρ : Sl) (S : Store) : tTru c ρ S = (c ρ S).bind fun x S1 => match truV x S1 with
  | some b => .ok b S1
  | none => .stuck := rfl
@[simp] theorem truV_bl (b : Bool) (S : Store) : truV (.bl b) S = some b := rfl
@[simp] theorem truV_int (i : Int) (S : Store) : truV (.int i) S = some (i != 0) := rfl
@[simp] theorem cAnd_ap (a b : CE Bool) (ρ : Sl) (S : Store) : cAnd a b ρ S = (a ρ S).bind fun k S1 => if k = true then b ρ S1 else .ok false S1 := rfl
@[simp] theorem cOr_ap (a b : CE Bool) (ρ : Sl) (S : Store) : cOr a b ρ S = (a ρ S).bind fun k S1 => if k = true then .ok true S1 else b ρ S1 := rfl
@[simp] theorem cNot_ap (a : CE Bool) (ρ : Sl) (S : Store) : cNot a ρ S = (a ρ S).bind fun k S1 => .ok (!k) S1 := rfl
@[simp] theorem eAnd_ap (a b : CE PV) (ρ : Sl) (S : Store) : eAnd a b ρ S = (a ρ S).bind fun x S1 => match x with
  | .bl k => if k = true then b ρ S1 else .ok (.bl false) S1
  | _ => .stuck := rfl
@[simp] theorem eOr_ap (a b : CE PV) (ρ : Sl) (S : Store) : eOr a b ρ S = (a ρ S).bind fun x S1 => match x with
  | .bl k => if k = true then .ok (.bl true) S1 else b ρ S1
  | _ => .stuck := rfl
@[simp] theorem eNot_ap (a : CE PV) (ρ : Sl) (S : Store) : eNot a ρ S = (a ρ S).bind fun x S1 => match x with
  | .bl k => .ok (.bl (!k)) S1
  | _ => .stuck := rfl
@[simp] theorem eNeg_ap (a : CE PV) (ρ : Sl) (S : Store) : eNeg a ρ S = (a ρ S).bind fun x S1 => match x with
  | .int i => .ok (.int (-i)) S1
  | _ => .stuck := rfl
@[simp] theorem eIf_ap (t : CE Bool) (a b : CE PV) (ρ : Sl) (S : Store) : eIf t a b ρ S = (t ρ S).bind fun k S1 => if k = true then a ρ S1 else b ρ S1 := rfl
theorem line2 {n : Nat} (h : n ≤ 1000000) : n ≤ sizeLine := Nat.le_trans h (by decide)
@[simp] theorem eTup_ap (cs : CE (List PV)) (ρ : Sl) (S : Store) : eTup cs ρ S = (cs ρ S).bind fun xs S1 => if xs.length ≤ sizeLine then .ok (.tup xs) S1 else .stuck := rfl
@[simp] theorem eLst_ap (cs : CE (List PV)) (ρ : Sl) (S : Store) : eLst cs ρ S = (cs ρ S).bind fun xs S1 => if xs.length ≤ sizeLine then .ok (.obj S1.length) (S1 ++ [.lst xs]) else .stuck := rfl
@[simp] theorem eDic_ap (ρ : Sl) (S : Store) : eDic ρ S = .ok (.obj S.length) (S ++ [.dic false []]) := rfl
@[simp] theorem eCall_ap (n : Nat) (f : DF) (cs : CE (List PV)) (ρ : Sl) (S : Store) : eCall n f cs ρ S = (cs ρ S).bind fun xs S1 => if xs.length = n then gc S1 (f xs S1) else .stuck := rfl
@[simp] theorem eCall0_ap (f : DF) (ρ : Sl) (S : Store) : eCall0 f ρ S = match f [] S with
  | .ok x S' => gc S (.ok x S')
  | _ => .stuck := rfl
@[simp] theorem eGc_ap (c : CE PV) (ρ : Sl) (S : Store) : eGc c ρ S = gc S (c ρ S) := rfl
@[simp] theorem oNone_ap (ρ : Sl) (S : Store) : oNone ρ S = .ok none S := rfl
@[simp] theorem oSome_ap (c : CE PV) (ρ : Sl) (S : Store) : oSome c ρ S = (c ρ S).bind fun x S1 => match x with
  | .int i => .ok (some i) S1
  | _ => .stuck := rfl
@[simp] theorem eSlice_ap (c : CE PV) (l h : CE (Option Int)) (ρ : Sl) (S : Store) : eSlice c l h ρ S = (c ρ S).bind fun x S1 => (l ρ S1).bind fun lo S2 => (h ρ S2).bind fun hi S3 => sliceV x lo hi S3 := rfl
/-! ### statements -/
@[simp] theorem sNext_ap (ρ : Sl) (S : Store) : sNext ρ S = .next ρ S := rfl
@[simp] theorem sSeq_ap (a b : CS) (ρ : Sl) (S : Store) : sSeq a b ρ S = match a ρ S with
  | .next ρ' S' => b ρ' S'
  | r => r := rfl
@[simp] theorem sSet_ap (i : Nat) (c : CE PV) (ρ : Sl) (S : Store) : sSet i c ρ S = sb (c ρ S) ρ fun x S1 => .next (ρ.set i (some x)) S1 := rfl
@[simp] theorem sDrop_ap (c : CE PV) (ρ : Sl) (S : Store) : sDrop c ρ S = sb (c ρ S) ρ fun _ S1 => .next ρ S1 := rfl
@[simp] theorem sRet_ap (c : CE PV) (ρ : Sl) (S : Store) : sRet c ρ S = sb (c ρ S) ρ fun x S1 => .ret x S1 := rfl
@[simp] theorem sRetN_ap (ρ : Sl) (S : Store) : sRetN ρ S = .ret .non S := rfl
@[simp] theorem sBrk_ap (ρ : Sl) (S : Store) : sBrk ρ S = .brk ρ S := rfl
@[simp] theorem sCont_ap (ρ : Sl) (S : Store) : sCont ρ S = .cont ρ S := rfl
@[simp] theorem sIf_ap (t : CE Bool) (a b : CS) (ρ : Sl) (S : Store) : sIf t a b ρ S = sb (t ρ S) ρ fun k S1 => if k = true then a ρ S1 else b ρ S1 := rfl
@[simp] theorem sRaise_ap (c : Str) (ρ : Sl) (S : Store) : sRaise c ρ S = .exc c none ρ S := rfl
@[simp] theorem sPar_ap (i j : Nat) (ca cb : CE PV) (ρ : Sl) (S : Store) : sPar i j ca cb ρ S = sb (ca ρ S) ρ fun x S1 => sb (cb ρ S1) ρ fun y S2 => .next ((ρ.set i (some x)).set j (some y)) S2 := rfl
@[simp] theorem sSetT_ap (t : TT') (c : CE PV) (ρ : Sl) (S : Store) : sSetT t c ρ S = sb (c ρ S) ρ fun x S1 => match setT t x ρ with
  | some ρ' => .next ρ' S1
  | none => .stuck := rfl
@[simp] theorem sAug_ap (i : Nat) (f : F2) (c : CE PV) (ρ : Sl) (S : Store) : sAug i f c ρ S = match ρ[i]? with
  | some (some x) => sb (c ρ S) ρ fun y S1 => sb (f x y S1) ρ fun z S2 => .next (ρ.set i (some z)) S2
  | _ => .stuck := rfl
@[simp] theorem sSetIx_ap (co ci c : CE PV) (ρ : Sl) (S : Store) : sSetIx co ci c ρ S = sb (c ρ S) ρ fun x S1 => sb (co ρ S1) ρ fun o S2 => sb (ci ρ S2) ρ fun k S3 => match setV o k x S3 with
  | some S4 => .next ρ S4
  | none => .stuck := rfl
@[simp] theorem sFor_ap (t : TT') (i : CE (List PV × Chk)) (b : CS) (ρ : Sl) (S : Store) : sFor t i b ρ S = sb (i ρ S) ρ fun p S1 => forN t b p.2 p.1 ρ S1 := rfl
@[simp] theorem runD_ap (n : Nat) (b : CS) (xs : List PV) (S : Store) : runD n b xs S = outS (b (startP n xs) S) := rfl
@[simp] theorem outS_ret (x : PV) (S : Store) : outS (.ret x S) = .ok x S := rfl
@[simp] theorem outS_next (ρ : Sl) (S : Store) : outS (.next ρ S) = .ok .non S := rfl
@[simp] theorem outS_exc (c : Str) (p : Option (Str × PV)) (ρ : Sl) (S : Store) : outS (.exc c p ρ S) = .exc c p S := rfl
@[simp] theorem startP_nil (xs : List PV) (n : Nat) : startP n xs = xs.map some ++ List.replicate (n - xs.length) none := rfl
@[simp] theorem eIsE_ap (i : Nat) (a : Addr) (r : Bool) (ρ : Sl) (S : Store) : eIsE i a r ρ S = match ρ[i]? with
  | some (some (.fn b)) => if b = a then .ok (.bl r) S else .stuck
  | _ => .stuck := rfl
@[simp] theorem suiteS_next (i : Nat) (ρ : Sl) (S : Store) : suiteS i (.next ρ S) = .next (ρ.set i none) S := rfl
@[simp] theorem suiteS_ret (i : Nat) (x : PV) (S : Store) : suiteS i (.ret x S) = .ret x S := rfl
@[simp] theorem same0_const (r : SR) : (same0 fun _ => r) = r := same0_eq fun _ => rfl
/-! ### gc -/
@[simp] theorem gc_self (S : Store) (x : PV) : gc S (.ok x S) = .ok x S := by
  unfold gc
  simp only
  by_cases h : bnd S.length x = true ∧ S <+: S
  · rw [if_pos h]
  · rw [if_neg h]
    cases x with
    | obj i =>
      simp only
      by_cases q : S.length ≤ i ∧ S <+: S
      · rw [if_pos q, List.getElem?_eq_none_iff.mpr q.1]
      · rw [if_neg q]
    | _ => rfl
@[simp] theorem gc_exc (S : Store) (c : Str) : gc S (.exc c none S) = .exc c none S := by
  unfold gc
  simp
theorem gc_ok {S S' : Store} {x : PV} (hb : bnd S.length x = true) (hp : S <+: S') : gc S (.ok x S') = .ok x S := by
  unfold gc
  simp only
  rw [if_pos ⟨hb, hp⟩]
theorem gc_app {S J : Store} {x : PV} (hb : bnd S.length x = true) : gc S (.ok x (S ++ J)) = .ok x S := gc_ok hb (List.prefix_append S J)
theorem gc_xapp {S J : Store} {c : Str} : gc S (.exc c none (S ++ J)) = .exc c none S := by
  unfold gc
  simp only
  rw [if_pos (List.prefix_append S J)]
theorem gc_new {S J : Store} {i : Nat} {o : PO} (hi : S.length ≤ i) (e : (S ++ J)[i]? = some o) (ho : bndO S.length o = true) : gc S (.ok (.obj i) (S ++ J)) = .ok (.obj S.length) (S ++ [o]) := by
  unfold gc
  simp only
  have h1 : ¬ (bnd S.length (.obj i) = true ∧ S <+: S ++ J) := fun z => absurd (of_decide_eq_true z.1) (by omega)
  rw [if_neg h1, if_pos ⟨hi, List.prefix_append S J⟩, e]
  simp only
  rw [if_pos ho]
/-! ### numbers -/
theorem log2_small {n k : Nat} (h : n < 2 ^ k) (hk : 0 < k) : n.log2 < k := PySem.Flt.log2_lt_of hk h
theorem mulOk_of {i j : Int} {a b : Nat} (ha : i.natAbs < 2 ^ a) (hb : j.natAbs < 2 ^ b) (h0 : 0 < a) (h1 : 0 < b) (h : a + b ≤ 1000000) : mulOk i j = true := by
  have x := log2_small ha h0
  have y := log2_small hb h1
  unfold mulOk
  rw [Bool.or_eq_true]
  exact .inr (decide_eq_true (by omega))
theorem mulOk_r {i j : Int} (h : j.natAbs < 2 ^ 64) : mulOk i j = true := by
  unfold mulOk
  rw [Bool.or_eq_true, Bool.or_eq_true]
  exact .inl (.inr (decide_eq_true h))
theorem mulOk_l {i j : Int} (h : i.natAbs < 2 ^ 64) : mulOk i j = true := by
  unfold mulOk
  rw [Bool.or_eq_true, Bool.or_eq_true]
  exact .inl (.inl (decide_eq_true h))
theorem divOk_of {j : Int} {b : Nat} (h : j ≠ 0) (hb : j.natAbs < 2 ^ b) (h0 : 0 < b) (h1 : b ≤ 9000) : divOk j = true := by
  have y := log2_small hb h0
  unfold divOk
  rw [Bool.and_eq_true]
  exact ⟨decide_eq_true h, decide_eq_true (by omega)⟩
@[simp] theorem mulOk_sl {i j : Int} (h : i.natAbs < 18446744073709551616) : mulOk i j = true := mulOk_l (by omega)
@[simp] theorem mulOk_sr {i j : Int} (h : j.natAbs < 18446744073709551616) : mulOk i j = true := mulOk_r (by omega)
@[simp] theorem divOk_s {j : Int} (h : j ≠ 0) (hb : j.natAbs < 18446744073709551616) : divOk j = true := divOk_of (b := 64) h (by omega) (by decide) (by decide)
@[simp] theorem powOk_s {i j : Int} (h0 : 0 ≤ j) (h1 : j ≤ 1000000) (h : i.natAbs < 18446744073709551616) : powOk i j = true := by
  unfold powOk
  rw [Bool.and_eq_true, Bool.and_eq_true]
  exact ⟨⟨decide_eq_true h0, decide_eq_true h1⟩, decide_eq_true (by omega)⟩
end TL

set_option Elab.async false
set_option linter.all false
set_option maxRecDepth 100000
set_option maxHeartbeats 1000000
/-! TM1: methods of lists and dicts, built-in types as calls, sum, str, int, max, min. -/
namespace TL
open PySem PySem.Spec PyProof.Rows L2
section
variable {K : PySem.W.Frag} {mg : Str → Option Value} {W : WX} {σ : L2.St} {m : Mp} {S : Store} {H : Hp} {Q : VK}
/-- an object of the store is written, a value comes -/
theorem Fin.setO {i : Nat} {x : PV} {v : V} {o : PO} {u : HO} (f : Fin K mg W σ m S H (RV K) Q (.ok x (S.set i o))) (rel : Rel K mg m S H) {q : PO} (hq : S[i]? = some q) (hl : ∀ kvs, q ≠ .dic true kvs) (hb : bndO S.length o = true)
    (ho : ObR K mg m (upd H (m i) u) (m i) o) (rx : RV K S.length m H x v) : Q v (upd H (m i) u) :=
  f m _ v (rel.ext_write hq hl) (by rw [List.length_set]; exact Nat.le_refl _) (rel.write hq hl hb ho) (by rw [List.length_set]; exact stbV (rel.ext_write hq hl) (Nat.le_refl _) rx)
theorem Fin.setL {i : Nat} {x : PV} {v : V} {xs zs : List PV} {us : List V} (f : Fin K mg W σ m S H (RV K) Q (.ok x (S.set i (.lst zs)))) (rel : Rel K mg m S H) (e : S[i]? = some (.lst xs)) (hb : bnds S.length zs = true)
    (hz : Rps K m H zs us) (rx : RV K S.length m H x v) : Q v (upd H (m i) (.lst us)) :=
  f.setO rel e (fun _ z => by cases z) hb ⟨us, upd_same, hz.ext (rel.ext_write e (fun _ z => by cases z)) zs us hb⟩ rx
end
/-! ### o.m(..), o a list -/
abbrev FM := PV → List PV → Store → Res PV
def OpM (K : PySem.W.Frag) (mg : Str → Option Value) (f : FM) (r : V → List V → Hp → VK → Prop) : Prop := ∀ (W : WX) (σ : L2.St) (m : Mp) (S : Store) (H : Hp) (x : PV) (v : V) (xs : List PV) (vs : List V) (Q : VK),
  Rel K mg m S H → RV K S.length m H x v → RL K S.length m H xs vs → Fin K mg W σ m S H (RV K) Q (f x xs S) → r v vs H Q
def isL (x : PV) (S : Store) : Bool := match x with
  | .rol _ => true
  | .obj i => match S[i]? with
    | some (.lst _) => true
    | _ => false
  | _ => false
def eM (f : FM) (co : CE PV) (cs : CE (List PV)) : CE PV := fun ρ S => (co ρ S).bind fun o S1 => if isL o S1 = true then (cs ρ S1).bind fun xs S2 => f o xs S2 else .stuck
theorem isL_ok {K : PySem.W.Frag} {mg : Str → Option Value} {m : Mp} {S : Store} {H : Hp} {x : PV} {v : V} (rel : Rel K mg m S H) (r : RV K S.length m H x v) (h : isL x S = true) : tyV K "list" v H := by
  unfold isL at h
  cases x with
  | rol xs =>
    obtain ⟨_, p, vs, rfl, h1, h2⟩ := r
    exact .inl ⟨rfl, vs, h1.l⟩
  | obj i =>
    have ev : v = .ref (m i) := r.2
    subst ev
    simp only at h
    cases e : S[i]? with
    | none => rw [e] at h; cases h
    | some o =>
      rw [e] at h
      cases o with
      | lst xs =>
        obtain ⟨_, vs, h1, _⟩ := rel.lst e
        exact .inl ⟨rfl, vs, SqL.of h1⟩
      | _ => cases h
  | _ => cases h
section
variable {X : Cx} {W : WX} {o e : Expr} {es : List Expr} {co : CE PV} {cs : CE (List PV)} {f : FM} {r : V → List V → Hp → VK → Prop} {name : Str} {id : String} {apos cpos : Pos}
theorem de_M (slot : Slot "list" name id) (hty : typeOf (.builtin id) = pure (.type "method_descriptor")) (hm : MtR X id r) (oM : OpM X.K X.mg f r) (ho : DE X W o co) (ha : DA X W (e :: es) cs)
    (hbase : attributeBase o name X.env (eval o X.env) = eval o X.env := by rfl)
    (hfew : ((backTo cpos (starEach (e :: es) X.env)).all (fun x => !x.1) && (backToKw cpos (keywordEach [] X.env)).all (fun x => x.1.isSome)
      && decide ((e :: es).length + ([] : List Keyword).length + (if ([] : List Keyword).isEmpty then 0 else 1) < 30)) = true := by rfl)
    (hline : (apos.endLine == cpos.line) = true := by rfl) (hs : starEach (e :: es) X.env = (false, eval e X.env) :: starEach es X.env := by rfl) (hplain : (backTo cpos (starEach es X.env)).any (·.1) = false := by rfl) :
    DE X W (.Call (.Attribute o name apos) (e :: es) [] cpos) (eM f co cs) :=
  pe_imp (pe_bm PySem.F.plainAttrs_list slot hty hm ho ha hbase hfew hline hs hplain) fun σ H Q h => by
    obtain ⟨m, S, ρ, at_, fin⟩ := h
    refine ⟨m, S, ρ, at_, (Fin.bind at_ fin).mono fun v H1 h1 => ?_⟩
    obtain ⟨m1, S1, x, at1, r1, e1, l1, f1⟩ := h1
    dsimp only at f1
    by_cases hL : isL x S1 = true
    · rw [if_pos hL] at f1
      refine ⟨isL_ok at1.rel r1 hL, m1, S1, ρ, at1, (Fin.bind at1 f1).mono fun vs H2 h2 => ?_⟩
      obtain ⟨m2, S2, xs, at2, r2, e2, l2, f2⟩ := h2
      exact oM W σ m2 S2 H2 x v xs vs Q at2.rel (stbV e2 l2 r1) r2 f2
    · rw [if_neg hL] at f1
      exact f1.elim
theorem de_M0 (slot : Slot "list" name id) (hty : typeOf (.builtin id) = pure (.type "method_descriptor")) (hm : MtR X id r) (oM : OpM X.K X.mg f r) (ho : DE X W o co)
    (hbase : attributeBase o name X.env (eval o X.env) = eval o X.env := by rfl) (hline : (apos.endLine == cpos.line) = true := by rfl) : DE X W (.Call (.Attribute o name apos) [] [] cpos) (eM f co aNil) :=
  pe_imp (pe_bm0 PySem.F.plainAttrs_list slot hty hm ho hbase hline) fun σ H Q h => by
    obtain ⟨m, S, ρ, at_, fin⟩ := h
    refine ⟨m, S, ρ, at_, (Fin.bind at_ fin).mono fun v H1 h1 => ?_⟩
    obtain ⟨m1, S1, x, at1, r1, e1, l1, f1⟩ := h1
    dsimp only at f1
    by_cases hL : isL x S1 = true
    · rw [if_pos hL] at f1
      exact ⟨isL_ok at1.rel r1 hL, oM W σ m1 S1 H1 x v [] [] Q at1.rel r1 ⟨rfl, rfl⟩ f1⟩
    · rw [if_neg hL] at f1
      exact f1.elim
end
section
variable {K : PySem.W.Frag} {mg : Str → Option Value}
def appendV : FM := fun o xs S => match o, xs with
  | .obj i, [y] => match S[i]? with
    | some (.lst zs) => if zs.length < sizeLine then .ok .non (S.set i (.lst (zs ++ [y]))) else .stuck
    | _ => .stuck
  | _, _ => .stuck
theorem opM_append : OpM K mg appendV rAppend := by
  intro W σ m S H x v xs vs Q rel rx ra f
  unfold appendV at f
  split at f
  · rename_i i y
    have ev : v = .ref (m i) := rx.2
    obtain ⟨u, rfl, ru⟩ := one_of ra
    split at f
    · rename_i zs e
      obtain ⟨b, us, h1, h2⟩ := rel.lst e
      split at f
      · rename_i hl
        exact ⟨m i, us, u, ev, rfl, h1, by rw [h2.length]; exact hl, f.setL rel e (bnds_append.mpr ⟨b, Bool.and_eq_true_iff.mpr ⟨ru.1, rfl⟩⟩) (h2.append (Rps.one ru.2)) ⟨rfl, rfl⟩⟩
      · exact f.elim
    · exact f.elim
  · exact f.elim
theorem bnds_dropLast {n : Nat} {xs : List PV} (h : bnds n xs = true) : bnds n xs.dropLast = true := bnds_all.mpr fun x hx => bnds_all.mp h x (List.dropLast_subset xs hx)
theorem Rps.dropLast {m : Mp} {H : Hp} : ∀ {xs : List PV} {vs : List V}, Rps K m H xs vs → Rps K m H xs.dropLast vs.dropLast := by
  intro xs vs h
  rw [List.dropLast_eq_take, List.dropLast_eq_take, h.length]
  exact h.take _
def popV : FM := fun o xs S => match o, xs with
  | .obj i, [] => match S[i]? with
    | some (.lst zs) => match zs[zs.length - 1]? with
      | some y => .ok y (S.set i (.lst zs.dropLast))
      | none => .stuck
    | _ => .stuck
  | _, _ => .stuck
theorem opM_pop : OpM K mg popV rPop := by
  intro W σ m S H x v xs vs Q rel rx ra f
  unfold popV at f
  split at f
  · rename_i i
    have ev : v = .ref (m i) := rx.2
    have er : vs = [] := ra.2
    subst er
    split at f
    · rename_i zs e
      obtain ⟨b, us, h1, h2⟩ := rel.lst e
      split at f
      · rename_i y ey
        obtain ⟨u, eu, ru⟩ := h2.get ey
        exact ⟨m i, us, u, ev, rfl, h1, by rw [h2.length]; exact eu, f.setL rel e (bnds_dropLast b) h2.dropLast ⟨bnds_get b ey, ru⟩⟩
      · exact f.elim
    · exact f.elim
  · exact f.elim
theorem bnds_erase {n : Nat} {xs : List PV} (h : bnds n xs = true) (k : Nat) : bnds n (xs.eraseIdx k) = true := bnds_all.mpr fun x hx => bnds_all.mp h x (List.eraseIdx_subset hx)
theorem Rps.erase {m : Mp} {H : Hp} : ∀ {xs : List PV} {vs : List V} (k : Nat), Rps K m H xs vs → Rps K m H (xs.eraseIdx k) (vs.eraseIdx k)
  | [], vs, k, h => by
    have e : vs = [] := h
    subst e
    exact rfl
  | x :: xs, vs, 0, h => by
    obtain ⟨v, r, rfl, h1, h2⟩ := h
    exact h2
  | x :: xs, vs, k + 1, h => by
    obtain ⟨v, r, rfl, h1, h2⟩ := h
    exact ⟨v, r.eraseIdx k, rfl, h1, Rps.erase k h2⟩
def popAtV : FM := fun o xs S => match o, xs with
  | .obj i, [.int j] => match S[i]? with
    | some (.lst zs) => if -(2 ^ 63) ≤ j ∧ j < 2 ^ 63 then match seqIndex? j zs.length with
      | some k => match zs[k]? with
        | some y => .ok y (S.set i (.lst (zs.eraseIdx k)))
        | none => .stuck
      | none => .stuck
      else .stuck
    | _ => .stuck
  | _, _ => .stuck
theorem opM_popAt : OpM K mg popAtV rPopAt := by
  intro W σ m S H x v xs vs Q rel rx ra f
  unfold popAtV at f
  split at f
  · rename_i i j
    have ev : v = .ref (m i) := rx.2
    obtain ⟨u, rfl, ru⟩ := one_of ra
    have eu : u = .int j := ru.2
    subst eu
    split at f
    · rename_i zs e
      obtain ⟨b, us, h1, h2⟩ := rel.lst e
      split at f
      · rename_i hj
        split at f
        · rename_i k ek
          split at f
          · rename_i y ey
            obtain ⟨u, eu, ru⟩ := h2.get ey
            exact ⟨m i, us, j, k, u, ev, rfl, h1, hj.1, hj.2, by rw [h2.length]; exact ek, eu, f.setL rel e (bnds_erase b k) (h2.erase k) ⟨bnds_get b ey, ru⟩⟩
          · exact f.elim
        · exact f.elim
      · exact f.elim
    · exact f.elim
  · exact f.elim
def clearV : FM := fun o xs S => match o, xs with
  | .obj i, [] => match S[i]? with
    | some (.lst zs) => .ok .non (S.set i (.lst []))
    | _ => .stuck
  | _, _ => .stuck
theorem opM_clear : OpM K mg clearV rClear := by
  intro W σ m S H x v xs vs Q rel rx ra f
  unfold clearV at f
  split at f
  · rename_i i
    have ev : v = .ref (m i) := rx.2
    have er : vs = [] := ra.2
    subst er
    split at f
    · rename_i zs e
      obtain ⟨b, us, h1, h2⟩ := rel.lst e
      exact ⟨m i, us, ev, rfl, h1, f.setL rel e rfl rfl ⟨rfl, rfl⟩⟩
    · exact f.elim
  · exact f.elim
def extendV : FM := fun o xs S => match o, xs with
  | .obj i, [.obj j] => match S[i]?, S[j]? with
    | some (.lst zs), some (.lst ys) => if zs.length + ys.length ≤ sizeLine then .ok .non (S.set i (.lst (zs ++ ys))) else .stuck
    | _, _ => .stuck
  | _, _ => .stuck
theorem opM_extend : OpM K mg extendV rExtend := by
  intro W σ m S H x v xs vs Q rel rx ra f
  unfold extendV at f
  split at f
  · rename_i i j
    have ev : v = .ref (m i) := rx.2
    obtain ⟨u, rfl, ru⟩ := one_of ra
    have eu : u = .ref (m j) := ru.2
    subst eu
    split at f
    · rename_i zs ys e1 e2
      obtain ⟨b, us, h1, h2⟩ := rel.lst e1
      obtain ⟨b', ws, h3, h4⟩ := rel.lst e2
      split at f
      · rename_i hl
        exact ⟨m i, m j, us, ws, ev, rfl, h1, h3, by rw [h2.length, h4.length]; exact hl, f.setL rel e1 (bnds_append.mpr ⟨b, b'⟩) (h2.append h4) ⟨rfl, rfl⟩⟩
      · exact f.elim
    · exact f.elim
  · exact f.elim
/-! ### tuple(x), list(x), sum(x), int(x), str(x), max, min -/
def lstOf (x : PV) (S : Store) : Option (List PV) := match x with
  | .rol xs => some xs
  | .obj i => match S[i]? with
    | some (.lst xs) => some xs
    | _ => none
  | _ => none
theorem lst_ok {m : Mp} {S : Store} {H : Hp} {x : PV} {v : V} {xs : List PV} (rel : Rel K mg m S H) (r : RV K S.length m H x v) (h : lstOf x S = some xs) : bnds S.length xs = true ∧ ∃ p vs, v = .ref p ∧ SqL K H p vs ∧ Rps K m H xs vs := by
  unfold lstOf at h
  cases x with
  | rol zs => cases h; obtain ⟨b, p, vs, rfl, h1, h2⟩ := r; exact ⟨b, p, vs, rfl, h1.l, h2⟩
  | obj i =>
    have ev : v = .ref (m i) := r.2
    subst ev
    simp only at h
    cases e : S[i]? with
    | none => rw [e] at h; cases h
    | some o =>
      rw [e] at h
      cases o with
      | lst zs =>
        cases h
        obtain ⟨b, vs, h1, h2⟩ := rel.lst e
        exact ⟨b, _, vs, rfl, SqL.of h1, h2⟩
      | _ => cases h
  | _ => cases h
def tupleV : FB := fun xs S => match xs with
  | [.tup ys] => .ok (.tup ys) S
  | [.kup ys] => .ok (.kup ys) S
  | [x] => match lstOf x S with
    | some ys => .ok (.tup ys) S
    | none => .stuck
  | _ => .stuck
theorem opC_tuple : OpC K mg tupleV (fun xs H Q => ∃ p ys, xs = [.ref p] ∧ ((SqL K H p ys ∧ ∀ l, H l = none → Q (.ref l) (upd H l (.tup ys))) ∨ (SqT K H p ys ∧ Q (.ref p) H))) := by
  intro W σ m S H xs vs Q rel ra f
  unfold tupleV at f
  split at f
  · obtain ⟨v, rfl, b, p, us, rfl, h1, h2⟩ := one_of ra
    exact ⟨p, us, rfl, .inr ⟨SqT.of h1, f.here rel ⟨b, p, us, rfl, h1, h2⟩⟩⟩
  · obtain ⟨v, rfl, b, p, us, rfl, h1, h2⟩ := one_of ra
    exact ⟨p, us, rfl, .inr ⟨h1.t, f.here rel ⟨b, p, us, rfl, h1, h2⟩⟩⟩
  · rename_i x n1 n2
    obtain ⟨v, rfl, rv⟩ := one_of ra
    cases e : lstOf x S with
    | none => rw [e] at f; exact f.elim
    | some ys =>
      rw [e] at f
      obtain ⟨b, p, us, rfl, h1, h2⟩ := lst_ok rel rv e
      exact ⟨p, us, rfl, .inl ⟨h1, fun l hl => f.tup rel b h2 hl⟩⟩
  · exact f.elim
theorem KvK.keys {m : Mp} {H : Hp} : ∀ {kvs : List (PV × PV)} {l : List (Key × V)}, KvK K m H kvs l → Rps K m H (kvs.map (·.1)) (l.map fun kv => kV kv.1)
  | [], l, h => by
    have e : l = [] := h
    subst e
    exact rfl
  | p :: ps, l, h => by
    obtain ⟨q, r, rfl, h1, h2, h3⟩ := h
    refine ⟨_, _, rfl, ?_, KvK.keys h3⟩
    cases e : p.1 with
    | int i =>
      rw [e] at h1
      have e' : q.1 = .inl i := (Option.some.inj h1).symm
      show Rp K m H p.1 (kV q.1)
      rw [e, e']
      exact rfl
    | str z =>
      rw [e] at h1
      have e' : q.1 = .inr z := (Option.some.inj h1).symm
      show Rp K m H p.1 (kV q.1)
      rw [e, e']
      exact rfl
    | _ => rw [e] at h1; cases h1
theorem KvK.keysB {n : Nat} {m : Mp} {H : Hp} : ∀ {kvs : List (PV × PV)} {l : List (Key × V)}, KvK K m H kvs l → bnds n (kvs.map (·.1)) = true
  | [], l, h => rfl
  | p :: ps, l, h => by
    obtain ⟨q, r, rfl, h1, h2, h3⟩ := h
    refine Bool.and_eq_true_iff.mpr ⟨?_, KvK.keysB h3⟩
    show bnd n p.1 = true
    cases e : p.1 with
    | int i => rfl
    | str z => rfl
    | _ => rw [e] at h1; cases h1
theorem keysOf_rps {m : Mp} {H : Hp} : ∀ {xs : List PV} {k : List Key}, keysOf xs = some k → Rps K m H xs (k.map kV) ∧ ∀ n, bnds n xs = true
  | [], k, h => by
    cases h
    exact ⟨rfl, fun _ => rfl⟩
  | x :: xs, k, h => by
    unfold keysOf at h
    cases e1 : keyOf x with
    | none => rw [e1] at h; cases h
    | some q =>
      cases e2 : keysOf xs with
      | none => rw [e1, e2] at h; cases h
      | some qs =>
        rw [e1, e2] at h
        cases h
        obtain ⟨h1, h2⟩ := keysOf_rps (m := m) (H := H) e2
        refine ⟨⟨_, _, rfl, ?_, h1⟩, fun n => Bool.and_eq_true_iff.mpr ⟨?_, h2 n⟩⟩
        · cases x with
          | int i => cases e1; exact rfl
          | str z => cases e1; exact rfl
          | _ => cases e1
        · cases x with
          | int i => rfl
          | str z => rfl
          | _ => cases e1
theorem KvT.keys {m : Mp} {H : Hp} : ∀ {kvs : List (PV × PV)} {l : List (List Key × V)} {bs : List Addr}, KvT K m H kvs l → IsKeys H l bs → Rps K m H (kvs.map (·.1)) (bs.map V.ref) ∧ ∀ n, bnds n (kvs.map (·.1)) = true
  | [], l, bs, h, h' => by
    have e : l = [] := h
    subst e
    cases h'
    exact ⟨rfl, fun _ => rfl⟩
  | p :: ps, l, bs, h, h' => by
    obtain ⟨q, r, rfl, h1, h2, h3⟩ := h
    cases h' with
    | cons hb ht =>
      obtain ⟨i1, i2⟩ := KvT.keys h3 ht
      cases e : p.1 with
      | tup xs =>
        rw [e] at h1
        obtain ⟨r1, r2⟩ := keysOf_rps (K := K) (m := m) (H := H) (show keysOf xs = some q.1 from h1)
        refine ⟨⟨_, _, rfl, ?_, i1⟩, fun n => Bool.and_eq_true_iff.mpr ⟨?_, i2 n⟩⟩
        · show Rp K m H p.1 _
          rw [e]
          exact ⟨_, _, rfl, hb, r1⟩
        · show bnd n p.1 = true
          rw [e]
          exact r2 n
      | _ => rw [e] at h1; cases h1
def listV : FB := fun xs S => match xs with
  | [.tup ys] => .ok (.obj S.length) (S ++ [.lst ys])
  | [.kup ys] => .ok (.obj S.length) (S ++ [.lst ys])
  | [.rol ys] => .ok (.obj S.length) (S ++ [.lst ys])
  | [.obj i] => match S[i]? with
    | some (.lst ys) => .ok (.obj S.length) (S ++ [.lst ys])
    | some (.dic _ kvs) => .ok (.obj S.length) (S ++ [.lst (kvs.map (·.1))])
    | _ => .stuck
  | _ => .stuck
def rListV (K : PySem.W.Frag) : List V → Hp → VK → Prop := fun xs H Q => ((∃ p ys, xs = [.ref p] ∧ (SqL K H p ys ∨ SqT K H p ys) ∧ ∀ l, H l = none → Q (.ref l) (upd H l (.lst ys))) ∨ (∃ (a : Addr) (kvs : List (Key × V)), xs = [.ref a] ∧ Rd H a (.dK kvs) ∧ ∀ p, H p = none → Q (.ref p) (upd H p (.lst (kvs.map fun kv => kV kv.1))))) ∨
  (∃ d kvs, xs = [V.ref d] ∧ Rd H d (.dT kvs) ∧ ∀ p bs, H p = none → IsKeys H kvs bs → Q (.ref p) (upd H p (.lst (bs.map V.ref))))
theorem call_listV {X : Cx} (hc : X.calm = true) : CallR X (.type "list") (rListV X.K) := (call_list_of.or (call_listD hc)).or (call_list_dT hc)
theorem opC_list : OpC K mg listV (rListV K) := by
  intro W σ m S H xs vs Q rel ra f
  unfold listV at f
  split at f
  · obtain ⟨v, rfl, b, p, us, rfl, h1, h2⟩ := one_of ra
    exact .inl (.inl ⟨p, us, rfl, .inr (SqT.of h1), fun l hl => f.lst rel b h2 hl⟩)
  · obtain ⟨v, rfl, b, p, us, rfl, h1, h2⟩ := one_of ra
    exact .inl (.inl ⟨p, us, rfl, .inr h1.t, fun l hl => f.lst rel b h2 hl⟩)
  · obtain ⟨v, rfl, b, p, us, rfl, h1, h2⟩ := one_of ra
    exact .inl (.inl ⟨p, us, rfl, .inl h1.l, fun l hl => f.lst rel b h2 hl⟩)
  · rename_i i
    obtain ⟨v, rfl, b, ev⟩ := one_of ra
    have ev' : v = .ref (m i) := ev
    subst ev'
    split at f
    · rename_i ys e
      obtain ⟨b, us, h1, h2⟩ := rel.lst e
      exact .inl (.inl ⟨_, us, rfl, .inl (SqL.of h1), fun l hl => f.lst rel b h2 hl⟩)
    · rename_i lk kvs e
      cases lk with
      | false =>
        rcases rel.ob i _ e with ⟨l, h1, h2⟩ | ⟨l, h1, h2⟩
        · exact .inl (.inr ⟨_, l, rfl, .inl h1, fun p hp => f.lst rel h2.keysB h2.keys hp⟩)
        · exact .inr ⟨_, l, rfl, .inl h1, fun p bs hp hk => f.lst rel ((h2.keys hk).2 _) (h2.keys hk).1 hp⟩
      | true =>
        rcases rel.ob i _ e with ⟨o, l, h1, h2⟩ | ⟨o, l, h1, h2⟩
        · exact .inl (.inr ⟨_, l, rfl, .inr ⟨o, h1⟩, fun p hp => f.lst rel h2.keysB h2.keys hp⟩)
        · exact .inr ⟨_, l, rfl, .inr ⟨o, h1⟩, fun p bs hp hk => f.lst rel ((h2.keys hk).2 _) (h2.keys hk).1 hp⟩
    · exact f.elim
  · exact f.elim
/-- all ints, all truths -/
def intsOf : List PV → Option (List Int)
  | [] => some []
  | .int i :: xs => (intsOf xs).map (i :: ·)
  | _ :: _ => none
def blsOf : List PV → Option (List Bool)
  | [] => some []
  | .bl i :: xs => (blsOf xs).map (i :: ·)
  | _ :: _ => none
theorem intsOf_eq : ∀ {xs : List PV} {ns : List Int}, intsOf xs = some ns → xs = ns.map .int
  | [], ns, h => by cases h; rfl
  | x :: xs, ns, h => by
    cases x with
    | int i =>
      have h' : (intsOf xs).map (i :: ·) = some ns := h
      cases e : intsOf xs with
      | none => rw [e] at h'; cases h'
      | some ms =>
        rw [e] at h'
        cases h'
        rw [intsOf_eq e]
        rfl
    | _ => cases h
theorem blsOf_eq : ∀ {xs : List PV} {ns : List Bool}, blsOf xs = some ns → xs = ns.map .bl
  | [], ns, h => by cases h; rfl
  | x :: xs, ns, h => by
    cases x with
    | bl i =>
      have h' : (blsOf xs).map (i :: ·) = some ns := h
      cases e : blsOf xs with
      | none => rw [e] at h'; cases h'
      | some ms =>
        rw [e] at h'
        cases h'
        rw [blsOf_eq e]
        rfl
    | _ => cases h
theorem ints_rps {m : Mp} {H : Hp} : ∀ {ns : List Int} {vs : List V}, Rps K m H (ns.map .int) vs → vs = ns.map V.int
  | [], vs, h => h
  | n :: ns, vs, h => by
    obtain ⟨v, r, rfl, h1, h2⟩ := h
    have e : v = .int n := h1
    rw [e, ints_rps h2]
    rfl
theorem bls_rps {m : Mp} {H : Hp} : ∀ {ns : List Bool} {vs : List V}, Rps K m H (ns.map .bl) vs → vs = ns.map V.bl
  | [], vs, h => h
  | n :: ns, vs, h => by
    obtain ⟨v, r, rfl, h1, h2⟩ := h
    have e : v = .bl n := h1
    rw [e, bls_rps h2]
    rfl
@[simp] theorem intsOf_map (ns : List Int) : intsOf (ns.map .int) = some ns := by
  induction ns with
  | nil => rfl
  | cons n ns ih => show (intsOf (ns.map .int)).map (n :: ·) = _; rw [ih]; rfl
@[simp] theorem blsOf_map (ns : List Bool) : blsOf (ns.map .bl) = some ns := by
  induction ns with
  | nil => rfl
  | cons n ns ih => show (blsOf (ns.map .bl)).map (n :: ·) = _; rw [ih]; rfl
def sumV : FB := fun xs S => match xs with
  | [x] => match (lstOf x S).bind intsOf with
    | some ns => .ok (.int ns.sum) S
    | none => .stuck
  | _ => .stuck
theorem opC_sum : OpC K mg sumV (rSum K) := by
  intro W σ m S H xs vs Q rel ra f
  unfold sumV at f
  split at f
  · rename_i x
    obtain ⟨v, rfl, rv⟩ := one_of ra
    cases e : lstOf x S with
    | none => rw [e] at f; exact f.elim
    | some ys =>
      obtain ⟨b, p, us, rfl, h1, h2⟩ := lst_ok rel rv e
      rw [e] at f
      cases e2 : intsOf ys with
      | none => simp only [Option.bind_some, e2] at f; exact f.elim
      | some ns =>
        simp only [Option.bind_some, e2] at f
        have e3 := intsOf_eq e2
        subst e3
        have e4 := ints_rps h2
        subst e4
        exact ⟨p, ns, rfl, h1, f.here rel ⟨rfl, rfl⟩⟩
  · exact f.elim
def qAll (g : List Bool → Bool) : FB := fun xs S => match xs with
  | [x] => match (lstOf x S).bind blsOf with
    | some ns => .ok (.bl (g ns)) S
    | none => .stuck
  | _ => .stuck
theorem opC_q (g : List Bool → Bool) : OpC K mg (qAll g) (fun vs H Q => ∃ (a : Addr) (bs : List Bool), vs = [V.ref a] ∧ SqL K H a (bs.map V.bl) ∧ Q (.bl (g bs)) H) := by
  intro W σ m S H xs vs Q rel ra f
  unfold qAll at f
  split at f
  · rename_i x
    obtain ⟨v, rfl, rv⟩ := one_of ra
    cases e : lstOf x S with
    | none => rw [e] at f; exact f.elim
    | some ys =>
      obtain ⟨b, p, us, rfl, h1, h2⟩ := lst_ok rel rv e
      rw [e] at f
      cases e2 : blsOf ys with
      | none => simp only [Option.bind_some, e2] at f; exact f.elim
      | some ns =>
        simp only [Option.bind_some, e2] at f
        have e3 := blsOf_eq e2
        subst e3
        have e4 := bls_rps h2
        subst e4
        exact ⟨p, ns, rfl, h1, f.here rel ⟨rfl, rfl⟩⟩
  · exact f.elim
abbrev anyV : FB := qAll fun bs => bs.any id
abbrev allV : FB := qAll fun bs => bs.all id
theorem opC_any : OpC K mg anyV (rAny K) := opC_q _
theorem opC_all : OpC K mg allV (rAll K) := opC_q _
/-- the greatest, the least of ints, the first of them -/
def maxI : List Int → Int
  | [] => 0
  | [a] => a
  | a :: b :: r => max a (maxI (b :: r))
def minI : List Int → Int
  | [] => 0
  | [a] => a
  | a :: b :: r => min a (minI (b :: r))
theorem maxI_spec : ∀ {ns : List Int} {k : Int}, k ∈ ns → (∀ y, y ∈ ns → y ≤ k) → maxI ns = k
  | [], k, h, _ => by cases h
  | [a], k, h, _ => by
    rcases List.mem_cons.mp h with h | h
    · exact h.symm
    · cases h
  | a :: b :: r, k, h, q => by
    show max a (maxI (b :: r)) = k
    by_cases hk : k ∈ b :: r
    · rw [maxI_spec hk fun y hy => q y (List.mem_cons_of_mem _ hy)]
      have := q a (List.mem_cons_self ..)
      omega
    · have ea : k = a := (List.mem_cons.mp h).resolve_right hk
      subst ea
      have le : ∀ (l : List Int) (h0 : l ≠ []), (∀ y ∈ l, y ≤ k) → maxI l ≤ k := by
        intro l
        induction l with
        | nil => intro h0; exact absurd rfl h0
        | cons x l ih =>
          intro _ hy
          cases l with
          | nil => exact hy x (List.mem_cons_self ..)
          | cons y l =>
            have h1 := hy x (List.mem_cons_self ..)
            have h2 := ih (by simp) fun z hz => hy z (List.mem_cons_of_mem _ hz)
            show max x (maxI (y :: l)) ≤ k
            omega
      have := le (b :: r) (by simp) fun y hy => q y (List.mem_cons_of_mem _ hy)
      omega
theorem minI_spec : ∀ {ns : List Int} {k : Int}, k ∈ ns → (∀ y, y ∈ ns → k ≤ y) → minI ns = k
  | [], k, h, _ => by cases h
  | [a], k, h, _ => by
    rcases List.mem_cons.mp h with h | h
    · exact h.symm
    · cases h
  | a :: b :: r, k, h, q => by
    show min a (minI (b :: r)) = k
    by_cases hk : k ∈ b :: r
    · rw [minI_spec hk fun y hy => q y (List.mem_cons_of_mem _ hy)]
      have := q a (List.mem_cons_self ..)
      omega
    · have ea : k = a := (List.mem_cons.mp h).resolve_right hk
      subst ea
      have le : ∀ (l : List Int) (h0 : l ≠ []), (∀ y ∈ l, k ≤ y) → k ≤ minI l := by
        intro l
        induction l with
        | nil => intro h0; exact absurd rfl h0
        | cons x l ih =>
          intro _ hy
          cases l with
          | nil => exact hy x (List.mem_cons_self ..)
          | cons y l =>
            have h1 := hy x (List.mem_cons_self ..)
            have h2 := ih (by simp) fun z hz => hy z (List.mem_cons_of_mem _ hz)
            show k ≤ min x (minI (y :: l))
            omega
      have := le (b :: r) (by simp) fun y hy => q y (List.mem_cons_of_mem _ hy)
      omega
def maxV : FB := fun xs S => match xs with
  | [.int i, .int j] => .ok (.int (if j > i then j else i)) S
  | [x] => match (lstOf x S).bind intsOf with
    | some ns => if 0 < ns.length then .ok (.int (maxI ns)) S else .stuck
    | none => .stuck
  | _ => .stuck
def rMaxV (K : PySem.W.Frag) : List V → Hp → VK → Prop := fun xs H Q => (∃ i j, xs = [.int i, .int j] ∧ Q (.int (if j > i then j else i)) H) ∨ rMax K xs H Q
theorem call_maxV {X : Cx} (hc : X.calm = true) : CallR X (.builtin "max") (rMaxV X.K) := (call_max2 hc).or (cr_max hc)
theorem opC_max : OpC K mg maxV (rMaxV K) := by
  intro W σ m S H xs vs Q rel ra f
  unfold maxV at f
  split at f
  · rename_i i j
    obtain ⟨v, u, rfl, rv, ru⟩ := two_of ra
    have e1 : v = .int i := rv.2
    have e2 : u = .int j := ru.2
    subst e1 e2
    exact .inl ⟨i, j, rfl, f.here rel ⟨rfl, rfl⟩⟩
  · rename_i x
    obtain ⟨v, rfl, rv⟩ := one_of ra
    cases e : lstOf x S with
    | none => rw [e] at f; exact f.elim
    | some ys =>
      obtain ⟨b, p, us, rfl, h1, h2⟩ := lst_ok rel rv e
      rw [e] at f
      cases e2 : intsOf ys with
      | none => simp only [Option.bind_some, e2] at f; exact f.elim
      | some ns =>
        simp only [Option.bind_some, e2] at f
        have e3 := intsOf_eq e2
        subst e3
        have e4 := ints_rps h2
        subst e4
        by_cases hl : 0 < ns.length
        · rw [if_pos hl] at f
          refine .inr ⟨p, ns, rfl, h1, hl, fun k hk hq => ?_⟩
          rw [← maxI_spec hk hq]
          exact f.here rel ⟨rfl, rfl⟩
        · rw [if_neg hl] at f
          exact f.elim
  · exact f.elim
def minV : FB := fun xs S => match xs with
  | [.int i, .int j] => .ok (.int (if j < i then j else i)) S
  | [x] => match (lstOf x S).bind intsOf with
    | some ns => if 0 < ns.length then .ok (.int (minI ns)) S else .stuck
    | none => .stuck
  | _ => .stuck
def rMinV (K : PySem.W.Frag) : List V → Hp → VK → Prop := fun xs H Q => (∃ i j, xs = [.int i, .int j] ∧ Q (.int (if j < i then j else i)) H) ∨ rMin K xs H Q
theorem call_minV {X : Cx} (hc : X.calm = true) : CallR X (.builtin "min") (rMinV X.K) := (call_min2 hc).or (cr_min hc)
theorem opC_min : OpC K mg minV (rMinV K) := by
  intro W σ m S H xs vs Q rel ra f
  unfold minV at f
  split at f
  · rename_i i j
    obtain ⟨v, u, rfl, rv, ru⟩ := two_of ra
    have e1 : v = .int i := rv.2
    have e2 : u = .int j := ru.2
    subst e1 e2
    exact .inl ⟨i, j, rfl, f.here rel ⟨rfl, rfl⟩⟩
  · rename_i x
    obtain ⟨v, rfl, rv⟩ := one_of ra
    cases e : lstOf x S with
    | none => rw [e] at f; exact f.elim
    | some ys =>
      obtain ⟨b, p, us, rfl, h1, h2⟩ := lst_ok rel rv e
      rw [e] at f
      cases e2 : intsOf ys with
      | none => simp only [Option.bind_some, e2] at f; exact f.elim
      | some ns =>
        simp only [Option.bind_some, e2] at f
        have e3 := intsOf_eq e2
        subst e3
        have e4 := ints_rps h2
        subst e4
        by_cases hl : 0 < ns.length
        · rw [if_pos hl] at f
          refine .inr ⟨p, ns, rfl, h1, hl, fun k hk hq => ?_⟩
          rw [← minI_spec hk hq]
          exact f.here rel ⟨rfl, rfl⟩
        · rw [if_neg hl] at f
          exact f.elim
  · exact f.elim
def intV : FB := fun xs S => match xs with
  | [.int i] => .ok (.int i) S
  | [.bl k] => .ok (.int (if k then 1 else 0)) S
  | [.str a] => match PySem.intText? a with
    | some n => if a.length ≤ 640 then .ok (.int n) S else .stuck
    | none => .stuck
  | _ => .stuck
def rIntV : List V → Hp → VK → Prop := fun xs H Q => ((∃ i, xs = [.int i] ∧ Q (.int i) H) ∨ ∃ k, xs = [.bl k] ∧ Q (.int (if k then 1 else 0)) H) ∨ ∃ a n, xs = [.str a] ∧ PySem.intText? a = some n ∧ a.length ≤ 640 ∧ Q (.int n) H
theorem call_intV {X : Cx} : CallR X (.type "int") rIntV := call_int1.or call_int_str
theorem opC_int : OpC K mg intV rIntV := by
  intro W σ m S H xs vs Q rel ra f
  unfold intV at f
  split at f
  · rename_i i
    obtain ⟨v, rfl, rv⟩ := one_of ra
    have e1 : v = .int i := rv.2
    subst e1
    exact .inl (.inl ⟨i, rfl, f.here rel ⟨rfl, rfl⟩⟩)
  · rename_i i
    obtain ⟨v, rfl, rv⟩ := one_of ra
    have e1 : v = .bl i := rv.2
    subst e1
    exact .inl (.inr ⟨i, rfl, f.here rel ⟨rfl, rfl⟩⟩)
  · rename_i a
    obtain ⟨v, rfl, rv⟩ := one_of ra
    have e1 : v = .str a := rv.2
    subst e1
    split at f
    · rename_i n e
      split at f
      · rename_i hl
        exact .inr ⟨a, n, rfl, e, hl, f.here rel ⟨rfl, rfl⟩⟩
      · exact f.elim
    · exact f.elim
  · exact f.elim
def strV : FB := fun xs S => match xs with
  | [.int i] => if i.natAbs.log2 < 1920 then .ok (.str (toString i)) S else .stuck
  | _ => .stuck
theorem opC_str : OpC K mg strV (fun xs H Q => ∃ i, xs = [.int i] ∧ i.natAbs.log2 < 1920 ∧ Q (.str (toString i)) H) := by
  intro W σ m S H xs vs Q rel ra f
  unfold strV at f
  split at f
  · rename_i i
    obtain ⟨v, rfl, rv⟩ := one_of ra
    have e1 : v = .int i := rv.2
    subst e1
    split at f
    · rename_i hl
      exact ⟨i, rfl, hl, f.here rel ⟨rfl, rfl⟩⟩
    · exact f.elim
  · exact f.elim
/-- dict(d) -/
def dictV : FB := fun xs S => match xs with
  | [.obj i] => match S[i]? with
    | some (.dic _ kvs) => if (kvs.all fun kv => (keyOf kv.1).isSome) = true then .ok (.obj S.length) (S ++ [.dic false kvs]) else .stuck
    | _ => .stuck
  | _ => .stuck
theorem KvT.nok {m : Mp} {H : Hp} : ∀ {kvs : List (PV × PV)} {l : List (List Key × V)}, KvT K m H kvs l → (kvs.all fun kv => (keyOf kv.1).isSome) = true → kvs = []
  | [], l, h, _ => rfl
  | p :: ps, l, h, q => by
    obtain ⟨q1, r, rfl, h1, h2, h3⟩ := h
    have z : (keyOf p.1).isSome = true := (Bool.and_eq_true_iff.mp q).1
    cases e : p.1 with
    | tup xs => rw [e] at z; cases z
    | _ => rw [e] at h1; cases h1
end
section
variable {X : Cx} {W : WX} {o e e2 : Expr} {co ce c2 : CE PV} {apos cpos : Pos}
theorem pe_cv {te : TE} (h : PE X e te) : PE X e (fun σ H Q => te σ H fun v H1 => ∃ H2, cvH H1 H2 ∧ Q v H2) := ⟨fun pins s σ H Q I q => thn (h.run pins s σ H _ I q) fun v s1 ⟨x, H1, I1, r1, H2, c, q1⟩ => ⟨x, H2, Inv.cv I1 c, r1, q1⟩⟩
def isDic (x : PV) (S : Store) : Bool := match x with
  | .obj i => match S[i]? with
    | some (.dic _ _) => true
    | _ => false
  | _ => false
theorem isDic_ok {K : PySem.W.Frag} {mg : Str → Option Value} {m : Mp} {S : Store} {H : Hp} {x : PV} {v : V} (rel : Rel K mg m S H) (r : RV K S.length m H x v) (h : isDic x S = true) : ∃ a, v = .ref a ∧ IsD H a := by
  unfold isDic at h
  cases x with
  | obj i =>
    refine ⟨m i, r.2, ?_⟩
    simp only at h
    cases e : S[i]? with
    | none => rw [e] at h; cases h
    | some o =>
      rw [e] at h
      cases o with
      | dic lk kvs =>
        cases lk with
        | false =>
          rcases rel.ob i _ e with ⟨l, h1, h2⟩ | ⟨l, h1, h2⟩
          · exact .inl ⟨l, .inl h1⟩
          · exact .inr ⟨l, .inl h1⟩
        | true =>
          rcases rel.ob i _ e with ⟨o, l, h1, h2⟩ | ⟨o, l, h1, h2⟩
          · exact .inl ⟨l, .inr ⟨o, h1⟩⟩
          · exact .inr ⟨l, .inr ⟨o, h1⟩⟩
      | _ => cases h
  | _ => cases h
def getDV (o k z : PV) (S : Store) : Res PV := match o with
  | .obj i => match dicAt S i k with
    | some kvs => .ok ((dget kvs k).getD z) S
    | none => .stuck
  | _ => .stuck
def eGet1 (co ce : CE PV) : CE PV := fun ρ S => (co ρ S).bind fun o S1 => if isDic o S1 = true then (ce ρ S1).bind fun k S2 => getDV o k .non S2 else .stuck
def eGet2 (co ce c2 : CE PV) : CE PV := fun ρ S => (co ρ S).bind fun o S1 => if isDic o S1 = true then (ce ρ S1).bind fun k S2 => (c2 ρ S2).bind fun z S3 => getDV o k z S3 else .stuck
theorem getDV_ok {K : PySem.W.Frag} {mg : Str → Option Value} {W : WX} {σ : L2.St} {m : Mp} {S : Store} {H : Hp} {Q : VK} {x y z : PV} {a : Addr} {u w : V} (rel : Rel K mg m S H) (rx : RV K S.length m H x (.ref a)) (ry : RV K S.length m H y u) (rz : RV K S.length m H z w)
    (f : Fin K mg W σ m S H (RV K) Q (getDV x y z S)) : ∃ H2, cvH H H2 ∧ ∃ o, DGet H2 a u o ∧ Q (o.getD w) H2 := by
  unfold getDV at f
  cases x with
  | obj i =>
    have ea : V.ref a = .ref (m i) := rx.2
    cases ea
    simp only at f
    cases e : dicAt S i y with
    | none => rw [e] at f; exact f.elim
    | some kvs =>
      rw [e] at f
      simp only at f
      obtain ⟨H', c, r', ex, h1, h2⟩ := dic_get rel e ry
      refine ⟨H', c, ?_⟩
      cases eg : dget kvs y with
      | none =>
        rw [eg] at f
        exact ⟨none, h2 eg, f m H' w ex (Nat.le_refl _) r' (stbV ex (Nat.le_refl _) rz)⟩
      | some x =>
        rw [eg] at f
        obtain ⟨v, hv, rv⟩ := h1 x eg
        exact ⟨some v, hv, f m H' v ex (Nat.le_refl _) r' rv⟩
  | _ => exact f.elim
theorem de_get1 (hu : X.A.units + 1 < cLine) (ho : DE X W o co) (he : DE X W e ce) (hb : attributeBase o "get" X.env (eval o X.env) = eval o X.env := by rfl)
    (hf : ((backTo cpos (starEach [e] X.env)).all (fun x => !x.1) && (backToKw cpos (keywordEach [] X.env)).all (fun x => x.1.isSome)
    && decide (([e] : List Expr).length + ([] : List Keyword).length + (if ([] : List Keyword).isEmpty then 0 else 1) < 30)) = true := by rfl) (hl : (apos.endLine == cpos.line) = true := by rfl) (ht : backTo cpos (starEach [e] X.env) = [(false, eval e X.env)] := by rfl) :
    DE X W (.Call (.Attribute o "get" apos) [e] [] cpos) (eGet1 co ce) :=
  pe_imp (pe_dget1 hu ho (pe_cv he) ⟨hb, hf, hl, ht⟩) fun σ H Q h => by
    obtain ⟨m, S, ρ, at_, fin⟩ := h
    refine ⟨m, S, ρ, at_, (Fin.bind at_ fin).mono fun v H1 h1 => ?_⟩
    obtain ⟨m1, S1, x, at1, r1, e1, l1, f1⟩ := h1
    dsimp only at f1
    by_cases hD : isDic x S1 = true
    · rw [if_pos hD] at f1
      obtain ⟨a, rfl, ha⟩ := isDic_ok at1.rel r1 hD
      refine ⟨a, rfl, ha, m1, S1, ρ, at1, (Fin.bind at1 f1).mono fun u H2 h2 => ?_⟩
      obtain ⟨m2, S2, y, at2, r2, e2, l2, f2⟩ := h2
      exact getDV_ok (z := .non) (w := .non) at2.rel (stbV e2 l2 r1) r2 ⟨rfl, rfl⟩ f2
    · rw [if_neg hD] at f1
      exact f1.elim
theorem de_get2 (hu : X.A.units + 1 < cLine) (ho : DE X W o co) (he : DE X W e ce) (hz : DE X W e2 c2) (hb : attributeBase o "get" X.env (eval o X.env) = eval o X.env := by rfl)
    (hf : ((backTo cpos (starEach [e, e2] X.env)).all (fun x => !x.1) && (backToKw cpos (keywordEach [] X.env)).all (fun x => x.1.isSome)
    && decide (([e, e2] : List Expr).length + ([] : List Keyword).length + (if ([] : List Keyword).isEmpty then 0 else 1) < 30)) = true := by rfl) (hl : (apos.endLine == cpos.line) = true := by rfl) (ht : backTo cpos (starEach [e, e2] X.env) = [(false, eval e X.env), (false, eval e2 X.env)] := by rfl) :
    DE X W (.Call (.Attribute o "get" apos) [e, e2] [] cpos) (eGet2 co ce c2) :=
  pe_imp (pe_dget2 hu ho he (pe_cv hz) ⟨hb, hf, hl, ht⟩) fun σ H Q h => by
    obtain ⟨m, S, ρ, at_, fin⟩ := h
    refine ⟨m, S, ρ, at_, (Fin.bind at_ fin).mono fun v H1 h1 => ?_⟩
    obtain ⟨m1, S1, x, at1, r1, e1, l1, f1⟩ := h1
    dsimp only at f1
    by_cases hD : isDic x S1 = true
    · rw [if_pos hD] at f1
      obtain ⟨a, rfl, ha⟩ := isDic_ok at1.rel r1 hD
      refine ⟨a, rfl, ha, m1, S1, ρ, at1, (Fin.bind at1 f1).mono fun u H2 h2 => ?_⟩
      obtain ⟨m2, S2, y, at2, r2, e2, l2, f2⟩ := h2
      refine ⟨m2, S2, ρ, at2, (Fin.bind at2 f2).mono fun w H3 h3 => ?_⟩
      obtain ⟨m3, S3, z, at3, r3, e3, l3, f3⟩ := h3
      exact getDV_ok at3.rel (stbV e3 l3 (stbV e2 l2 r1)) (stbV e3 l3 r2) r3 f3
    · rw [if_neg hD] at f1
      exact f1.elim
end
end TL

set_option Elab.async false
set_option linter.all false
set_option maxRecDepth 100000
/-! TT1: more rules for reckoning on the store. -/
namespace TL
open PySem PySem.Spec PyProof.Rows L2
@[simp] theorem eM_ap (f : FM) (co : CE PV) (cs : CE (List PV)) (ρ : Sl) (S : Store) : eM f co cs ρ S = (co ρ S).bind fun o S1 => if isL o S1 = true then (cs ρ S1).bind fun xs S2 => f o xs S2 else .stuck := rfl
@[simp] theorem eGet1_ap (co ce : CE PV) (ρ : Sl) (S : Store) : eGet1 co ce ρ S = (co ρ S).bind fun o S1 => if isDic o S1 = true then (ce ρ S1).bind fun k S2 => getDV o k .non S2 else .stuck := rfl
@[simp] theorem eGet2_ap (co ce c2 : CE PV) (ρ : Sl) (S : Store) : eGet2 co ce c2 ρ S = (co ρ S).bind fun o S1 => if isDic o S1 = true then (ce ρ S1).bind fun k S2 => (c2 ρ S2).bind fun z S3 => getDV o k z S3 else .stuck := rfl
end TL

set_option Elab.async false
set_option linter.all false
set_option maxRecDepth 100000
set_option maxHeartbeats 1000000
/-! TZ: zip over any two of lists and tuples. -/
namespace TL
open PySem PySem.Spec PyProof.Rows L2
open PySem.Sem (wp)
/-- lists and tuples as what zip draws from -/
inductive Kd where
  | l | t
namespace Kd
def nm : Kd → String
  | .l => "list_iterator"
  | .t => "tuple_iterator"
def It (d : Kd) (h : Heap) (a b : Addr) (i : Nat) : Prop := match d with
  | .l => h.IsListIter a b i
  | .t => h.IsTupleIter a b i
def Sq (d : Kd) (h : Heap) (a : Addr) (xs : Array Value) : Prop := match d with
  | .l => h.IsList a xs
  | .t => h.IsTuple a xs
def Vw (d : Kd) (K : PySem.W.Frag) (H : Hp) (a : Addr) (xs : List V) : Prop := match d with
  | .l => SqL K H a xs
  | .t => SqT K H a xs
section
variable {d : Kd} {h h' : Heap} {a b c : Addr} {i : Nat} {xs : Array Value}
theorem It.ext (x : d.It h a b i) (e : Heap.ExtBut c h h') (n : a ≠ c) : d.It h' a b i := by
  cases d with
  | l => exact Heap.IsListIter.extBut x e n
  | t => exact Heap.IsTupleIter.extBut x e n
theorem It.to (x : d.It h a b i) (e : ∀ o, h.get? a = some o → h'.get? a = some o) : d.It h' a b i := by
  cases d with
  | l => exact Heap.IsListIter.at x e
  | t => exact Heap.IsTupleIter.at x e
theorem It.obj (x : d.It h a b i) : ∃ o, h.get? a = some o ∧ ∀ v, o.data ≠ .cell v := by
  cases d with
  | l =>
    obtain ⟨o, e, _, q⟩ := x
    exact ⟨o, e, fun v z => by rw [q] at z; cases z⟩
  | t =>
    obtain ⟨o, e, _, q⟩ := x
    exact ⟨o, e, fun v z => by rw [q] at z; cases z⟩
theorem Sq.ext (x : d.Sq h a xs) (e : Heap.ExtBut c h h') (n : a ≠ c) : d.Sq h' a xs := by
  cases d with
  | l => exact Heap.IsList.extBut x e n
  | t => exact Heap.IsTuple.extBut x e n
theorem Sq.push (x : d.Sq h a xs) (o : Obj) : d.Sq (h.push o) a xs := by
  cases d with
  | l => exact Heap.IsList.push x o
  | t => exact Heap.IsTuple.push x o
theorem Sq.lt (x : d.Sq h a xs) : a < h.objs.size := by
  cases d with
  | l =>
    obtain ⟨o, e, _⟩ := x
    exact Heap.lt_size e
  | t =>
    obtain ⟨o, e, _⟩ := x
    exact Heap.lt_size e
end
section
variable {prog : Program} {w : World} {A : Around} {E : Value → Shared → Prop} {s : Shared} {d : Kd} {it l : Addr} {i : Nat} {xs : Array Value} {x : Value} {Q : Value → Shared → Prop}
theorem draw (hi : d.It s.heap it l i) (hl : d.Sq s.heap l xs) (hx : xs[i]? = some x) (hQ : ∀ h', d.It h' it l (i + 1) → Heap.SameBut it s.heap h' → Q x { s with heap := h' }) :
    wpAny (model prog w) A (Builtin.SmallTypes.nextOf (.ref it)) Q E s := by
  cases d with
  | l => exact wpAny_nextOf_list_item hi hl hx hQ
  | t => exact RZ.nextOf_tuple_item hi hl hx hQ
theorem drawn (hh : A.handled = none) (hi : d.It s.heap it l i) (hl : d.Sq s.heap l xs) (hx : xs[i]? = none)
    (hE : ∀ h' e, Heap.ExtBut it s.heap h' → (∃ o, h'.get? e = some o ∧ o.cls = .type "StopIteration") → E (.ref e) { s with heap := h' }) :
    wpAny (model prog w) A (Builtin.SmallTypes.nextOf (.ref it)) Q E s := by
  cases d with
  | l => exact wpAny_nextOf_list_end hh hi hl hx hE
  | t => exact RZ.nextOf_tuple_end hh hi hl hx hE
theorem iter (hl : d.Sq s.heap l xs) (hQ : Q (.ref s.heap.objs.size) { s with heap := s.heap.push { cls := .type d.nm, data := .fields #[.ref l, .int 0 0] } }) : wpAny (model prog w) A (pyIter (.ref l)) Q E s := by
  cases d with
  | l => exact wpAny_pyIter_list hl hQ
  | t => exact wpAny_pyIter_tuple hl hQ
theorem newIt {h : Heap} (e : h.get? it = some { cls := .type d.nm, data := .fields #[.ref l, .int 0 0] }) : d.It h it l 0 := by
  cases d with
  | l => exact ⟨_, e, rfl, rfl⟩
  | t => exact ⟨_, e, rfl, rfl⟩
end
end Kd
/-- what a zip's iterator keeps: its two iterators, the pair it hands out -/
structure ZipSt (d e : Kd) (h : Heap) (z p r i j a b : Addr) (k : Nat) : Prop where
  z : IsZip h z p r .none
  p : IsPair h p (.ref i) (.ref j)
  r : ∃ x y, IsPair h r x y
  i : d.It h i a k
  j : e.It h j b k
section
variable {prog : Program} {w : World} {A : Around} {E : Value → Shared → Prop} {s : Shared} {d e : Kd} {z p r i j a b : Addr} {k : Nat} {xs ys : Array Value}
/-- the head of zip's step: the tuple that it keeps is free, the two iterators stand in p -/
theorem zip_item {x y : Value} {Q : Value → Shared → Prop} (D : ZipApart z p r i j a b) (st : ZipSt d e s.heap z p r i j a b k) (ha : d.Sq s.heap a xs) (hb : e.Sq s.heap b ys) (hx : xs[k]? = some x) (hy : ys[k]? = some y)
    (hQ : ∀ h', IsZip h' z p r (rawInt s.heap.objs.size) → IsPair h' r x y → d.It h' i a (k + 1) → e.It h' j b (k + 1) → IsPair h' s.heap.objs.size x y → h'.objs.size = s.heap.objs.size + 1 →
      (∀ c o, c ≠ z → c ≠ r → c ≠ i → c ≠ j → s.heap.get? c = some o → h'.get? c = some o) → Q (.ref s.heap.objs.size) { s with heap := h' }) :
    wpAny (model prog w) A (Builtin.«zip.__next__» ⟨[.ref z], []⟩) (fun fin s' => ∃ v, fin = .done (.ret v) ∧ Q v s') E s := by
  obtain ⟨z0, p0, ⟨x0, y0, r0⟩, i0, j0⟩ := st
  show wpAny _ _ (field (.ref z) 2 >>= _) _ _ _
  refine wpAny_bind (wpAny_field z0 rfl (x := .bool false) rfl ?_)
  show wpAny _ _ (field (.ref z) 3 >>= _) _ _ _
  refine wpAny_bind (wpAny_field z0 rfl (x := .ref p) rfl (wpAny_bind (wpAny_seqItems p0 rfl ?_)))
  show wpAny _ _ (Builtin.SmallTypes.ownedTupleIsFree (.ref z) >>= _) _ _ _
  unfold Builtin.SmallTypes.ownedTupleIsFree
  refine wpAny_bind (wpAny_bind (wpAny_field z0 rfl (x := .none) rfl (wpAny_pure ?_)))
  simp only [if_true]
  refine wpAny_bind (wpAny_rule (wpAny_bind (wpAny_field z0 rfl (x := .ref r) rfl (wpAny_bind (wpAny_setField_rec z0 (by simp) fun ha1 z1' sb1 => ?_)))))
  have z1 : IsZip ha1 z p r .ellipsis := z1'
  refine wpAny_bind ?_
  simp only [List.zipIdx_cons, List.zipIdx_nil, List.forIn_cons, List.forIn_nil]
  refine wpAny_bind (wpAny_bind (wpAny_onRaise ?_))
  show wpAny _ _ (Builtin.SmallTypes.nextOf (.ref i) >>= _) _ _ _
  refine wpAny_bind (Kd.draw (i0.ext sb1.extBut D.i1z) (ha.ext sb1.extBut D.l1z) hx fun ha2 i2 sb2 => wpAny_pure ?_)
  have r2 : IsPair ha2 r x0 y0 := sb2.extBut _ _ D.TOi1 (sb1.extBut _ _ D.TOz r0)
  refine wpAny_bind (wpAny_seqItems r2 rfl (wpAny_bind (wpAny_updateSeq_pair r2 fun ha3 r3' sb3 => wpAny_bind (wpAny_letGo (wpAny_pure ?_)))))
  have r3 : IsPair ha3 r x y0 := r3'
  refine wpAny_bind (wpAny_bind (wpAny_onRaise ?_))
  show wpAny _ _ (Builtin.SmallTypes.nextOf (.ref j) >>= _) _ _ _
  have j3 : e.It ha3 j b k := ((j0.ext sb1.extBut D.i2z).ext sb2.extBut D.i12.symm).ext sb3.extBut D.TOi2.symm
  have b3 : e.Sq ha3 b ys := ((hb.ext sb1.extBut D.l2z).ext sb2.extBut D.l2i1).ext sb3.extBut D.l2TO
  refine wpAny_bind (Kd.draw j3 b3 hy fun ha4 j4 sb4 => wpAny_pure ?_)
  have r4 : IsPair ha4 r x y0 := sb4.extBut _ _ D.TOi2 r3
  refine wpAny_bind (wpAny_seqItems r4 rfl (wpAny_bind (wpAny_updateSeq_pair r4 fun ha5 r5' sb5 => wpAny_bind (wpAny_letGo (wpAny_pure (wpAny_pure ?_))))))
  have r5 : IsPair ha5 r x y := r5'
  refine wpAny_bind (wpAny_seqItems r5 rfl (wpAny_bind (wpAny_newTuple ?_)))
  have size5 : ha5.objs.size = s.heap.objs.size := sb5.1.trans (sb4.1.trans (sb3.1.trans (sb2.1.trans sb1.1)))
  have z5 : IsZip ha5 z p r .ellipsis := sb5.extBut _ _ D.TOz.symm (sb4.extBut _ _ D.i2z.symm (sb3.extBut _ _ D.TOz.symm (sb2.extBut _ _ D.i1z.symm z1)))
  have keep5 : ∀ c o, c ≠ z → c ≠ r → c ≠ i → c ≠ j → s.heap.get? c = some o → ha5.get? c = some o := fun c o n1 n2 n3 n4 q =>
    sb5.extBut _ _ n2 (sb4.extBut _ _ n4 (sb3.extBut _ _ n2 (sb2.extBut _ _ n3 (sb1.extBut _ _ n1 q))))
  have i5 : d.It ha5 i a (k + 1) := ((i2.ext sb3.extBut D.TOi1.symm).ext sb4.extBut D.i12).ext sb5.extBut D.TOi1.symm
  have j5 : e.It ha5 j b (k + 1) := j4.ext sb5.extBut D.TOi2.symm
  have zlt : z < ha5.objs.size := Heap.lt_size z5
  show wpAny _ _ (Builtin.SmallTypes.ownedTupleHandOut (.ref z) (.ref ha5.objs.size) >>= _) _ _ _
  unfold Builtin.SmallTypes.ownedTupleHandOut
  have z6 : IsZip (ha5.push { cls := .type "tuple", data := .seq #[x, y] }) z p r .ellipsis := Heap.get?_push_of_some _ z5
  refine wpAny_bind (wpAny_bind (wpAny_setField_rec z6 (by simp) fun ha7 z7' sb7 => ?_))
  have z7 : IsZip ha7 z p r (rawInt ha5.objs.size) := z7'
  refine wpAny_setField_rec z7 (by simp) fun ha8 z8' sb8 => ?_
  have z8 : IsZip ha8 z p r (rawInt ha5.objs.size) := z8'
  have last : ∀ c o, c ≠ z → ha5.get? c = some o → ha8.get? c = some o := fun c o n q => sb8.extBut _ _ n (sb7.extBut _ _ n (Heap.get?_push_of_some _ q))
  have t8 : IsPair ha8 ha5.objs.size x y := sb8.extBut _ _ (Nat.ne_of_gt zlt) (sb7.extBut _ _ (Nat.ne_of_gt zlt) (Heap.get?_push_size _ rfl))
  have size8 : ha8.objs.size = ha5.objs.size + 1 := by rw [sb8.1, sb7.1, Heap.size_push]
  rw [size5] at z8 t8 size8
  refine wpAny_pure ⟨_, rfl, ?_⟩
  show Q (.ref ha5.objs.size) _
  rw [size5]
  exact hQ ha8 z8 (last _ _ D.TOz r5) (i5.to fun o q => last _ o D.i1z q) (j5.to fun o q => last _ o D.i2z q) t8 size8 fun c o n1 n2 n3 n4 q => last c o n1 (keep5 c o n1 n2 n3 n4 q)
theorem zip_stop {Q : PySem.Fin → Shared → Prop} (hh : A.handled = none) (D : ZipApart z p r i j a b) (st : ZipSt d e s.heap z p r i j a b k) (ha : d.Sq s.heap a xs) (hb : e.Sq s.heap b ys) (hend : xs[k]? = none ∨ ys[k]? = none)
    (hE : ∀ h' x, (∀ c o, c ≠ z → c ≠ r → c ≠ i → c ≠ j → s.heap.get? c = some o → h'.get? c = some o) → (∃ o, h'.get? x = some o ∧ o.cls = .type "StopIteration") → E (.ref x) { s with heap := h' }) :
    wpAny (model prog w) A (Builtin.«zip.__next__» ⟨[.ref z], []⟩) Q E s := by
  obtain ⟨z0, p0, ⟨x0, y0, r0⟩, i0, j0⟩ := st
  show wpAny _ _ (field (.ref z) 2 >>= _) _ _ _
  refine wpAny_bind (wpAny_field z0 rfl (x := .bool false) rfl ?_)
  show wpAny _ _ (field (.ref z) 3 >>= _) _ _ _
  refine wpAny_bind (wpAny_field z0 rfl (x := .ref p) rfl (wpAny_bind (wpAny_seqItems p0 rfl ?_)))
  show wpAny _ _ (Builtin.SmallTypes.ownedTupleIsFree (.ref z) >>= _) _ _ _
  unfold Builtin.SmallTypes.ownedTupleIsFree
  refine wpAny_bind (wpAny_bind (wpAny_field z0 rfl (x := .none) rfl (wpAny_pure ?_)))
  simp only [if_true]
  refine wpAny_bind (wpAny_rule (wpAny_bind (wpAny_field z0 rfl (x := .ref r) rfl (wpAny_bind (wpAny_setField_rec z0 (by simp) fun ha1 z1' sb1 => ?_)))))
  have z1 : IsZip ha1 z p r .ellipsis := z1'
  refine wpAny_bind ?_
  simp only [List.zipIdx_cons, List.zipIdx_nil, List.forIn_cons, List.forIn_nil]
  refine wpAny_bind (wpAny_bind (wpAny_onRaise ?_))
  show wpAny _ _ (Builtin.SmallTypes.nextOf (.ref i) >>= _) _ _ _
  cases hx : xs[k]? with
  | none =>
    refine wpAny_bind (Kd.drawn hh (i0.ext sb1.extBut D.i1z) (ha.ext sb1.extBut D.l1z) hx fun ha2 x sb2 hs => ?_)
    obtain ⟨ox, hox, hcx⟩ := hs
    have z2 : IsZip ha2 z p r .ellipsis := sb2 _ _ D.i1z.symm z1
    have nz : x ≠ z := fun q => by
      rw [q, z2] at hox
      cases hox
      simp at hcx
    exact wpAny_setField_rec z2 (by simp) fun ha3 _ sb3 => hE ha3 x (fun c o n1 _ n3 _ q => sb3.extBut _ _ n1 (sb2 _ _ n3 (sb1.extBut _ _ n1 q))) ⟨ox, sb3.extBut _ _ nz hox, hcx⟩
  | some x =>
    have hy : ys[k]? = none := hend.resolve_left (by rw [hx]; exact fun q => nomatch q)
    refine wpAny_bind (Kd.draw (i0.ext sb1.extBut D.i1z) (ha.ext sb1.extBut D.l1z) hx fun ha2 i2 sb2 => wpAny_pure ?_)
    have r2 : IsPair ha2 r x0 y0 := sb2.extBut _ _ D.TOi1 (sb1.extBut _ _ D.TOz r0)
    refine wpAny_bind (wpAny_seqItems r2 rfl (wpAny_bind (wpAny_updateSeq_pair r2 fun ha3 r3' sb3 => wpAny_bind (wpAny_letGo (wpAny_pure ?_)))))
    refine wpAny_bind (wpAny_bind (wpAny_onRaise ?_))
    show wpAny _ _ (Builtin.SmallTypes.nextOf (.ref j) >>= _) _ _ _
    have j3 : e.It ha3 j b k := ((j0.ext sb1.extBut D.i2z).ext sb2.extBut D.i12.symm).ext sb3.extBut D.TOi2.symm
    have b3 : e.Sq ha3 b ys := ((hb.ext sb1.extBut D.l2z).ext sb2.extBut D.l2i1).ext sb3.extBut D.l2TO
    refine wpAny_bind (Kd.drawn hh j3 b3 hy fun ha4 x sb4 hs => ?_)
    obtain ⟨ox, hox, hcx⟩ := hs
    have z4 : IsZip ha4 z p r .ellipsis := sb4 _ _ D.i2z.symm (sb3.extBut _ _ D.TOz.symm (sb2.extBut _ _ D.i1z.symm z1))
    have nz : x ≠ z := fun q => by
      rw [q, z4] at hox
      cases hox
      simp at hcx
    exact wpAny_setField_rec z4 (by simp) fun ha5 _ sb5 => hE ha5 x (fun c o n1 n2 n3 n4 q => sb5.extBut _ _ n1 (sb4 _ _ n4 (sb3.extBut _ _ n2 (sb2.extBut _ _ n3 (sb1.extBut _ _ n1 q))))) ⟨ox, sb5.extBut _ _ nz hox, hcx⟩
theorem next_item {x y : Value} {Q : Option Value → Shared → Prop} (D : ZipApart z p r i j a b) (st : ZipSt d e s.heap z p r i j a b k) (ha : d.Sq s.heap a xs) (hb : e.Sq s.heap b ys) (hx : xs[k]? = some x) (hy : ys[k]? = some y)
    (hQ : ∀ h', IsZip h' z p r (rawInt s.heap.objs.size) → IsPair h' r x y → d.It h' i a (k + 1) → e.It h' j b (k + 1) → IsPair h' s.heap.objs.size x y → h'.objs.size = s.heap.objs.size + 1 →
      (∀ c o, c ≠ z → c ≠ r → c ≠ i → c ≠ j → s.heap.get? c = some o → h'.get? c = some o) → Q (some (.ref s.heap.objs.size)) { s with heap := h' }) :
    wpAny (model prog w) A (pyNext (.ref z)) Q E s := by
  have ty : s.TypeIs (.ref z) "zip" := ⟨_, st.z, rfl⟩
  unfold pyNext
  exact wpAny_bind (wpAny_attempt (wpAny_callSpecial?_slot (name := Str.ofString "__next__") ty F.slot_zip_next
    (wpAny_call_entry F.slot_zip_next ty F.entry_zip_next
      (zip_item D st ha hb hx hy fun h' q1 q2 q3 q4 q5 q6 q7 => wpAny_pure (hQ h' q1 q2 q3 q4 q5 q6 q7)) (F.args_zip_next_1 _))))
theorem next_stop {Q : Option Value → Shared → Prop} (hh : A.handled = none) (D : ZipApart z p r i j a b) (st : ZipSt d e s.heap z p r i j a b k) (ha : d.Sq s.heap a xs) (hb : e.Sq s.heap b ys) (hend : xs[k]? = none ∨ ys[k]? = none)
    (hQ : ∀ h', (∀ c o, c ≠ z → c ≠ r → c ≠ i → c ≠ j → s.heap.get? c = some o → h'.get? c = some o) → Q none { s with heap := h' }) : wpAny (model prog w) A (pyNext (.ref z)) Q E s := by
  have ty : s.TypeIs (.ref z) "zip" := ⟨_, st.z, rfl⟩
  unfold pyNext
  refine wpAny_bind (wpAny_attempt (wpAny_callSpecial?_slot (name := Str.ofString "__next__") ty F.slot_zip_next
    (wpAny_call_entry F.slot_zip_next ty F.entry_zip_next (zip_stop hh D st ha hb hend fun h' x keep hs => ?_) (F.args_zip_next_1 _))))
  obtain ⟨o, ho, hc⟩ := hs
  refine wpAny_bind (wpAny_isInstance (T := "StopIteration") (b := true) ⟨o, ho, hc⟩ isSubtype_stop ?_)
  exact wpAny_pure (hQ _ keep)
end
/-- the heap behind zip(a, b), object by object -/
abbrev zH1 (d : Kd) (h : Heap) (a : Addr) : Heap := h.push { cls := .type d.nm, data := .fields #[.ref a, .int 0 0] }
abbrev zH2 (d e : Kd) (h : Heap) (a b : Addr) : Heap := (zH1 d h a).push { cls := .type e.nm, data := .fields #[.ref b, .int 0 0] }
abbrev zH3 (d e : Kd) (h : Heap) (a b : Addr) : Heap := (zH2 d e h a b).push { cls := .type "tuple", data := .seq #[.ref h.objs.size, .ref (zH1 d h a).objs.size] }
abbrev zH4 (d e : Kd) (h : Heap) (a b : Addr) : Heap := (zH3 d e h a b).push { cls := .type "tuple", data := .seq #[.none, .none] }
abbrev zH5 (d e : Kd) (h : Heap) (a b : Addr) : Heap := (zH4 d e h a b).push { cls := .type "zip", data := .fields #[.none, .bool false, .bool false, .ref (zH2 d e h a b).objs.size, .ref (zH3 d e h a b).objs.size] }
theorem zip_meets (d e : Kd) (a b : Addr) (xs ys : Array Value) :
    Meets (Builtin.«zip.__new__» ⟨[.type "zip", .ref a, .ref b], []⟩) (fun _ R s => d.Sq s.heap a xs ∧ e.Sq s.heap b ys ∧ R (.ok (.ret (.ref (zH4 d e s.heap a b).objs.size))) { s with heap := zH5 d e s.heap a b }) :=
  .of_wp fun prog w A R s h => by
    obtain ⟨hp, g, dd, tk, os⟩ := s
    obtain ⟨ha, hb, h⟩ := h
    have sz := sub_zip
    have ha' : d.Sq (Shared.heap ⟨hp, g, dd, tk, os⟩) a xs := ha
    have hb' : e.Sq (Shared.heap ⟨hp.push { cls := .type d.nm, data := .fields #[.ref a, .int 0 0] }, g, dd, tk, os⟩) b ys := Kd.Sq.push hb _
    wp_walk using Kd.iter ha', Kd.iter hb'
    exact ⟨_, rfl, h⟩
theorem call_zipK {prog : Program} {w : World} {A : Around} {E : Value → Shared → Prop} {s : Shared} {d e : Kd} {a b : Addr} {xs ys : Array Value} {Q : Value → Shared → Prop} (ha : d.Sq s.heap a xs) (hb : e.Sq s.heap b ys)
    (h : ∀ h', ZipSt d e h' (s.heap.objs.size + 4) (s.heap.objs.size + 2) (s.heap.objs.size + 3) s.heap.objs.size (s.heap.objs.size + 1) a b 0 → (∀ c o, s.heap.get? c = some o → h'.get? c = some o) → Q (.ref (s.heap.objs.size + 4)) { s with heap := h' }) :
    wpAny (model prog w) A (call (.type "zip") [.ref a, .ref b]) Q E s := by
  refine callType_new F.called_zip (by decide) (F.typeCall_zip_2 _ _) (F.newCall_zip_2 _ _) (fun obj => F.args_object_init_3 obj _ _) F.entry_zip_new (zip_meets d e a b xs ys) ⟨ha, hb, ?_⟩
  have n1 : (zH1 d s.heap a).objs.size = s.heap.objs.size + 1 := Heap.size_push ..
  have n2 : (zH2 d e s.heap a b).objs.size = s.heap.objs.size + 2 := by rw [Heap.size_push, n1]
  have n3 : (zH3 d e s.heap a b).objs.size = s.heap.objs.size + 3 := by rw [Heap.size_push, n2]
  have n4 : (zH4 d e s.heap a b).objs.size = s.heap.objs.size + 4 := by rw [Heap.size_push, n3]
  have z5 : (zH5 d e s.heap a b).get? (zH4 d e s.heap a b).objs.size = some _ := Heap.get?_push_size _ rfl
  have z4 : (zH5 d e s.heap a b).get? (zH3 d e s.heap a b).objs.size = some _ := Heap.get?_push_of_some _ (Heap.get?_push_size _ rfl)
  have z3 : (zH5 d e s.heap a b).get? (zH2 d e s.heap a b).objs.size = some _ := Heap.get?_push_of_some _ (Heap.get?_push_of_some _ (Heap.get?_push_size _ rfl))
  have z2 : (zH5 d e s.heap a b).get? (zH1 d s.heap a).objs.size = some _ := Heap.get?_push_of_some _ (Heap.get?_push_of_some _ (Heap.get?_push_of_some _ (Heap.get?_push_size _ rfl)))
  have z1 : (zH5 d e s.heap a b).get? s.heap.objs.size = some _ := Heap.get?_push_of_some _ (Heap.get?_push_of_some _ (Heap.get?_push_of_some _ (Heap.get?_push_of_some _ (Heap.get?_push_size _ rfl))))
  show _ ∧ _
  rw [n2, n3, n4] at z5
  rw [n1, n2] at z3
  rw [n3] at z4
  rw [n1] at z2
  rw [n4]
  refine ⟨⟨_, z5, rfl⟩, h _ ⟨z5, z3, ⟨_, _, z4⟩, Kd.newIt z1, Kd.newIt z2⟩ fun c o q => ?_⟩
  exact Heap.get?_push_of_some _ (Heap.get?_push_of_some _ (Heap.get?_push_of_some _ (Heap.get?_push_of_some _ (Heap.get?_push_of_some _ q))))
/-- the two as they stand at each turn, the items in new pairs -/
def ItzK (K : PySem.W.Frag) (d e : Kd) (a b : Addr) : L2.It :=
  ⟨fun i H => ∃ (xs ys : List V) (x y : V), d.Vw K H a xs ∧ e.Vw K H b ys ∧ xs[i]? = some x ∧ ys[i]? = some y,
    fun i H v H' => ∃ T x y, v = .ref T ∧ H T = none ∧ H' = upd H T (.tup [x, y]) ∧ (∀ xs, d.Vw K H a xs → xs[i]? = some x) ∧ ∀ ys, e.Vw K H b ys → ys[i]? = some y,
    fun i H => ∃ xs ys : List V, d.Vw K H a xs ∧ e.Vw K H b ys ∧ (xs.length ≤ i ∨ ys.length ≤ i)⟩
section
variable {X : Cx} {pins : List (Addr × Obj)} {σ : L2.St} {H : Hp} {s : Shared}
theorem Kd.at_ {d : Kd} {a : Addr} {xs : List V} (I : Inv X pins σ H s) (h : d.Vw X.K H a xs) : ∃ its : List Value, Vals xs its ∧ d.Sq s.heap a its.toArray := by
  cases d with
  | l =>
    obtain ⟨its, rv, q, _⟩ := I.list h
    exact ⟨its, rv, q.isList⟩
  | t =>
    obtain ⟨its, rv, q, _⟩ := I.tuple h
    exact ⟨its, rv, q⟩
theorem Kd.inj {d : Kd} {a : Addr} {xs ys : List V} (I : Inv X pins σ H s) (h : d.Vw X.K H a xs) (h' : d.Vw X.K H a ys) : xs = ys := by
  cases d with
  | l => exact I.list_inj h h'
  | t => exact I.tuple_inj h h'
end
theorem turn_zipK {P : Program} {w : World} {K : PySem.W.Frag} {elts : List Expr} {kk : Nat} {tpos : Pos} {d e : Kd} {a b z p r i j : Addr} (D : ZipApart z p r i j a b) :
    Turn P w K (.Tuple elts kk tpos) (ItzK K d e a b) [z, p, r, i, j] z (fun k h => ZipSt d e h z p r i j a b k) where
  mem := List.mem_cons_self ..
  obj := fun k h st c hc => by
    obtain ⟨z0, p0, ⟨x0, y0, r0⟩, i0, j0⟩ := st
    have hc' : c = z ∨ c = p ∨ c = r ∨ c = i ∨ c = j := by simpa using hc
    rcases hc' with q | q | q | q | q
    · rw [q]; exact ⟨_, z0, fun v q => nomatch q⟩
    · rw [q]; exact ⟨_, p0, fun v q => nomatch q⟩
    · rw [q]; exact ⟨_, r0, fun v q => nomatch q⟩
    · rw [q]; exact i0.obj
    · rw [q]; exact j0.obj
  keep := fun k h h' st kp => by
    obtain ⟨z0, p0, ⟨x0, y0, r0⟩, i0, j0⟩ := st
    exact ⟨kp z (by simp) _ z0, kp p (by simp) _ p0, ⟨x0, y0, kp r (by simp) _ r0⟩, i0.to fun o q => kp i (by simp) o q, j0.to fun o q => kp j (by simp) o q⟩
  item := by
    intro X hP hw hK hc k pins s σ H E I hf st hg
    subst hP hw hK
    obtain ⟨xs, ys, x, y, vx, vy, hx, hy⟩ := hg
    obtain ⟨us, ru, qu⟩ := Kd.at_ I vx
    obtain ⟨ws, rw', qw⟩ := Kd.at_ I vy
    obtain ⟨u, hu, r1⟩ := ru.get hx
    obtain ⟨u2, hu2, r2⟩ := rw'.get hy
    have lt : ∀ c, c ∈ [z, p, r, i, j] → c < s.heap.objs.size := fun c hcm => by
      have hc' : c = z ∨ c = p ∨ c = r ∨ c = i ∨ c = j := by simpa using hcm
      obtain ⟨x1, y1, r0⟩ := st.r
      rcases hc' with q | q | q | q | q
      · rw [q]; exact Heap.lt_size st.z
      · rw [q]; exact Heap.lt_size st.p
      · rw [q]; exact Heap.lt_size r0
      · rw [q]; obtain ⟨o, e1, _⟩ := st.i.obj; exact Heap.lt_size e1
      · rw [q]; obtain ⟨o, e1, _⟩ := st.j.obj; exact Heap.lt_size e1
    refine next_item D st qu qw (x := u) (y := u2) (by simpa using hu) (by simpa using hu2) fun h' z1 rr i1 j1 new _ keep => ?_
    refine ⟨_, rfl, wpAny_letOwnedTupleGo_zip (s := { s with heap := h' }) z1 fun h2 z2 sb => ?_⟩
    have new2 : h2.get? s.heap.objs.size = some { cls := .type "tuple", data := .seq #[u, u2] } := (sb.2 _ (Nat.ne_of_gt (lt z (by simp)))).trans new
    have ok : ObjOk X.prog X.w (upd H s.heap.objs.size (.tup [x, y])) h2 s.heap.objs.size (.tup [x, y]) :=
      ⟨by show 2 ≤ sizeLine; decide, [u, u2], .cons r1 (.cons r2 .nil), ⟨_, new2, rfl, _, rfl⟩⟩
    have I1 : Inv X pins σ (upd H s.heap.objs.size (.tup [x, y])) { s with heap := h2 } :=
      I.turnedNew (t' := s.toks) (ch := [z, p, r, i, j]) (fun c o no q => by
        have no' : c ≠ z ∧ c ≠ p ∧ c ≠ r ∧ c ≠ i ∧ c ≠ j := by simpa using no
        exact (sb.2 c no'.1).trans (keep c o no'.1 no'.2.2.1 no'.2.2.2.1 no'.2.2.2.2 q)) hf (Nat.le_refl _) ok
    refine ⟨.ref s.heap.objs.size, _, I1, rfl, ⟨_, x, y, rfl, I.hok.fresh (Nat.le_refl _), rfl, fun l hl => by rw [Kd.inj I hl vx]; exact hx, fun l hl => by rw [Kd.inj I hl vy]; exact hy⟩, ⟨z2, ?_, ⟨u, u2, ?_⟩, ?_, ?_⟩, fun c hcm => ?_⟩
    · exact (sb.2 _ D.TIz).trans (keep _ _ D.TIz D.TITO D.TIi1 D.TIi2 st.p)
    · exact (sb.2 _ D.TOz).trans rr
    · exact i1.to fun o q => (sb.2 _ D.i1z).trans q
    · exact j1.to fun o q => (sb.2 _ D.i2z).trans q
    · rw [upd_ne (Nat.ne_of_lt (lt c hcm))]
      exact (hf c hcm).1
  done := by
    intro X hP hw hK hc k pins s σ H E I hf st hg
    subst hP hw hK
    obtain ⟨xs, ys, vx, vy, hend⟩ := hg
    obtain ⟨us, ru, qu⟩ := Kd.at_ I vx
    obtain ⟨ws, rw', qw⟩ := Kd.at_ I vy
    have n1 := ru.length
    have n2 := rw'.length
    have he : us.toArray[k]? = none ∨ ws.toArray[k]? = none := by
      rcases hend with q | q
      · exact .inl (by simp; omega)
      · exact .inr (by simp; omega)
    exact next_stop (I.ok.hd hc) D st qu qw he fun h' keep => ⟨rfl, I.turnedL (t' := s.toks) (ch := [z, p, r, i, j]) (fun c o no q => by
      have no' : c ≠ z ∧ c ≠ p ∧ c ≠ r ∧ c ≠ i ∧ c ≠ j := by simpa using no
      exact keep c o no'.1 no'.2.2.1 no'.2.2.2.1 no'.2.2.2.2 q) hf⟩
  self := fun A i s Q E st h => wpAny_pyIter_zip st.z h
def tZipK (K : PySem.W.Frag) (ta : TA) : TI := fun σ H R => ta σ H fun vs H1 => ∃ (d e : Kd) (a b : Addr) (xs ys : List V), vs = [.ref a, .ref b] ∧ d.Vw K H1 a xs ∧ e.Vw K H1 b ys ∧ R (ItzK K d e a b) H1
theorem pi_zipK {X : Cx} {e1 e2 : Expr} {ta : TA} {p pos tpos : Pos} {elts : List Expr} {kk : Nat} (hg : Gl X "zip") (hm : X.mg "zip" = none) (ha : PA X [e1, e2] ta)
    (hs : starEach [e1, e2] X.env = (false, eval e1 X.env) :: starEach [e2] X.env := by rfl) (hpl : (backTo pos (starEach [e2] X.env)).any (·.1) = false := by rfl) :
    PI X (.Tuple elts kk tpos) (.Call (.Name "zip" p) [e1, e2] [] pos) (tZipK X.K ta) := by
  refine ⟨fun pins s σ H R I h => ?_⟩
  refine Call_ (ld_blt I hg hm PyProof.Rows.boot_zip (PyProof.Rows.callWith_type1 (thn (ha.run pos pins s σ H _ I h) fun us s1 ⟨vs, H1, I1, r1, q1⟩ => ?_) hs hpl))
  obtain ⟨d, e, a, b, xs, ys, ex, vx, vy, q⟩ := q1
  subst ex
  cases r1 with
  | cons ra rr =>
    cases rr with
    | cons rb rr =>
      cases rr
      cases ra
      cases rb
      obtain ⟨ws, _, qa⟩ := Kd.at_ I1 vx
      obtain ⟨ws2, _, qb⟩ := Kd.at_ I1 vy
      refine call_zipK qa qb fun h' st keep => wpAny_pyIter_zip st.z ?_
      refine ⟨s1.heap.objs.size + 4, [s1.heap.objs.size + 4, s1.heap.objs.size + 2, s1.heap.objs.size + 3, s1.heap.objs.size, s1.heap.objs.size + 1], _, _, H1, rfl, I1.kept (t' := s1.toks) keep, turn_zipK (PySem.W.ktu_apart s1.heap.objs.size a b qa.lt qb.lt), st, fun c hcm => ?_, q⟩
      have hle : s1.heap.objs.size ≤ c := by
        have hc' : c = s1.heap.objs.size + 4 ∨ c = s1.heap.objs.size + 2 ∨ c = s1.heap.objs.size + 3 ∨ c = s1.heap.objs.size ∨ c = s1.heap.objs.size + 1 := by simpa using hcm
        rcases hc' with q | q | q | q | q <;> rw [q] <;> first | exact Nat.le_add_right _ _ | exact Nat.le_refl _
      exact I1.fpOk hle (I1.hok.fresh hle)
end TL

set_option Elab.async false
set_option linter.all false
set_option maxRecDepth 100000
set_option maxHeartbeats 1000000
/-! TM2: more that is walked: zip, enumerate, reversed, range with a step. -/
namespace TL
open PySem PySem.Spec PyProof.Rows L2
def seqC (x : PV) (S : Store) : Option (Kd × List PV × Chk) := match x with
  | .tup xs => some (.t, xs, [])
  | .kup xs => some (.t, xs, [])
  | .rol xs => some (.l, xs, [])
  | .obj i => match S[i]? with
    | some (.lst xs) => some (.l, xs, [(i, .lst xs)])
    | _ => none
  | _ => none
section
variable {K : PySem.W.Frag} {mg : Str → Option Value}
theorem seqC_ok {m : Mp} {S : Store} {H : Hp} {x : PV} {v : V} {d : Kd} {xs : List PV} {ck : Chk} (rel : Rel K mg m S H) (r : RV K S.length m H x v) (h : seqC x S = some (d, xs, ck)) :
    ∃ p, v = .ref p ∧ ∀ (m' : Mp) (S' : Store) (H' : Hp), Ext K S.length m H m' H' → S.length ≤ S'.length → Rel K mg m' S' H' → chk ck S' → ∃ vs, d.Vw K H' p vs ∧ Rps K m' H' xs vs ∧ bnds S'.length xs = true := by
  unfold seqC at h
  cases x with
  | tup zs =>
    cases h
    obtain ⟨b, p, vs, rfl, h1, h2⟩ := r
    exact ⟨p, rfl, fun m' S' H' e l _ _ => ⟨vs, SqT.of (e.tu _ _ h1), h2.ext e _ _ b, bnds_mono l _ b⟩⟩
  | kup zs =>
    cases h
    obtain ⟨b, p, vs, rfl, h1, h2⟩ := r
    exact ⟨p, rfl, fun m' S' H' e l _ _ => ⟨vs, (e.e0.fk _ _ h1).t, h2.ext e _ _ b, bnds_mono l _ b⟩⟩
  | rol zs =>
    cases h
    obtain ⟨b, p, vs, rfl, h1, h2⟩ := r
    exact ⟨p, rfl, fun m' S' H' e l _ _ => ⟨vs, (e.fz _ _ h1).l, h2.ext e _ _ b, bnds_mono l _ b⟩⟩
  | obj i =>
    have ev : v = .ref (m i) := r.2
    subst ev
    simp only at h
    cases e : S[i]? with
    | none => rw [e] at h; cases h
    | some o =>
      rw [e] at h
      cases o with
      | lst zs =>
        cases h
        refine ⟨m i, rfl, fun m' S' H' ex l r' c => ?_⟩
        have hi := (List.getElem?_eq_some_iff.mp e).1
        obtain ⟨b, vs, h1, h2⟩ := r'.lst (c _ (List.mem_cons_self ..))
        rw [ex.mi i hi] at h1
        exact ⟨vs, SqL.of h1, h2, b⟩
      | _ => cases h
  | _ => cases h
def zipP (xs ys : List PV) : List PV := (xs.zip ys).map fun p => .tup [p.1, p.2]
theorem zipP_len (xs ys : List PV) : (zipP xs ys).length = min xs.length ys.length := by unfold zipP; simp
theorem zipP_get {xs ys : List PV} {i : Nat} {x y : PV} (h1 : xs[i]? = some x) (h2 : ys[i]? = some y) : (zipP xs ys)[i]? = some (.tup [x, y]) := by
  unfold zipP
  rw [List.getElem?_map, (List.getElem?_zip_eq_some (z := (x, y))).mpr ⟨h1, h2⟩]
  rfl
theorem chk_app {a b : Chk} {S : Store} (h : chk (a ++ b) S) : chk a S ∧ chk b S := ⟨fun p hp => h p (List.mem_append_left _ hp), fun p hp => h p (List.mem_append_right _ hp)⟩
theorem itR_zip {m : Mp} {S : Store} {H : Hp} {x y : PV} {v u : V} {d e : Kd} {xs ys : List PV} {ck ck2 : Chk} (rel : Rel K mg m S H) (rx : RV K S.length m H x v) (ry : RV K S.length m H y u) (hx : seqC x S = some (d, xs, ck)) (hy : seqC y S = some (e, ys, ck2)) :
    ∃ p q ps qs, v = .ref p ∧ u = .ref q ∧ (chk (ck ++ ck2) S → d.Vw K H p ps ∧ e.Vw K H q qs) ∧ ItR K mg (ItzK K d e p q) (zipP xs ys) (ck ++ ck2) S.length m H := by
  obtain ⟨p, rfl, hp⟩ := seqC_ok rel rx hx
  obtain ⟨q, rfl, hq⟩ := seqC_ok rel ry hy
  by_cases hc : chk (ck ++ ck2) S
  · obtain ⟨c1, c2⟩ := chk_app hc
    obtain ⟨vs, v1, _⟩ := hp m S H Ext.refl (Nat.le_refl _) rel c1
    obtain ⟨us, u1, _⟩ := hq m S H Ext.refl (Nat.le_refl _) rel c2
    refine ⟨p, q, vs, us, rfl, rfl, fun _ => ⟨v1, u1⟩, fun m' S' H' ex l r c => ?_, fun i m' S' H' ex l r c hi => ?_, fun i m' S' H' w H'' ex l r c hi yl => ?_⟩
    · obtain ⟨c1, c2⟩ := chk_app c
      obtain ⟨vs, v1, r1, _⟩ := hp m' S' H' ex l r c1
      obtain ⟨us, u1, r2, _⟩ := hq m' S' H' ex l r c2
      refine ⟨vs, us, v1, u1, ?_⟩
      have := r1.length
      have := r2.length
      rw [zipP_len]
      omega
    · obtain ⟨c1, c2⟩ := chk_app c
      obtain ⟨vs, v1, r1, _⟩ := hp m' S' H' ex l r c1
      obtain ⟨us, u1, r2, _⟩ := hq m' S' H' ex l r c2
      rw [zipP_len] at hi
      have := r1.length
      have := r2.length
      exact ⟨vs, us, vs[i]'(by omega), us[i]'(by omega), v1, u1, by simp, by simp⟩
    · obtain ⟨c1, c2⟩ := chk_app c
      obtain ⟨vs, v1, r1, b1⟩ := hp m' S' H' ex l r c1
      obtain ⟨us, u1, r2, b2⟩ := hq m' S' H' ex l r c2
      obtain ⟨T, x', y', rfl, hT, rfl, f1, f2⟩ := yl
      obtain ⟨a, ea, ra⟩ := r1.get' (f1 _ v1)
      obtain ⟨b, eb, rb⟩ := r2.get' (f2 _ u1)
      have e0 : Ext K S'.length m' H' m' (upd H' T (.tup [x', y'])) := ext_new hT fun _ _ => rfl
      have ba := bnds_get b1 ea
      have bb := bnds_get b2 eb
      refine ⟨.tup [a, b], zipP_get ea eb, e0, r.newT hT, ⟨Bool.and_eq_true_iff.mpr ⟨ba, Bool.and_eq_true_iff.mpr ⟨bb, rfl⟩⟩, T, [x', y'], rfl, upd_same, x', [y'], rfl, ra.ext e0 _ _ ba, y', [], rfl, rb.ext e0 _ _ bb, rfl⟩, fun D hD => upd_ne fun z => hD (by rw [z]; exact hT)⟩
  · refine ⟨p, q, [], [], rfl, rfl, fun z => absurd z hc, ?_⟩
    exact ⟨fun m' S' H' ex l r c => by
      obtain ⟨c1, c2⟩ := chk_app c
      obtain ⟨vs, v1, r1, _⟩ := hp m' S' H' ex l r c1
      obtain ⟨us, u1, r2, _⟩ := hq m' S' H' ex l r c2
      refine ⟨vs, us, v1, u1, ?_⟩
      have := r1.length
      have := r2.length
      rw [zipP_len]
      omega, fun i m' S' H' ex l r c hi => by
      obtain ⟨c1, c2⟩ := chk_app c
      obtain ⟨vs, v1, r1, _⟩ := hp m' S' H' ex l r c1
      obtain ⟨us, u1, r2, _⟩ := hq m' S' H' ex l r c2
      rw [zipP_len] at hi
      have := r1.length
      have := r2.length
      exact ⟨vs, us, vs[i]'(by omega), us[i]'(by omega), v1, u1, by simp, by simp⟩, fun i m' S' H' w H'' ex l r c hi yl => by
      obtain ⟨c1, c2⟩ := chk_app c
      obtain ⟨vs, v1, r1, b1⟩ := hp m' S' H' ex l r c1
      obtain ⟨us, u1, r2, b2⟩ := hq m' S' H' ex l r c2
      obtain ⟨T, x', y', rfl, hT, rfl, f1, f2⟩ := yl
      obtain ⟨a, ea, ra⟩ := r1.get' (f1 _ v1)
      obtain ⟨b, eb, rb⟩ := r2.get' (f2 _ u1)
      have e0 : Ext K S'.length m' H' m' (upd H' T (.tup [x', y'])) := ext_new hT fun _ _ => rfl
      have ba := bnds_get b1 ea
      have bb := bnds_get b2 eb
      exact ⟨.tup [a, b], zipP_get ea eb, e0, r.newT hT, ⟨Bool.and_eq_true_iff.mpr ⟨ba, Bool.and_eq_true_iff.mpr ⟨bb, rfl⟩⟩, T, [x', y'], rfl, upd_same, x', [y'], rfl, ra.ext e0 _ _ ba, y', [], rfl, rb.ext e0 _ _ bb, rfl⟩, fun D hD => upd_ne fun z => hD (by rw [z]; exact hT)⟩⟩
end
open Classical in
noncomputable def iZipP (ca cb : CE PV) : CE (List PV × Chk) := fun ρ S => (ca ρ S).bind fun x S1 => (cb ρ S1).bind fun y S2 => match seqC x S2, seqC y S2 with
  | some (_, xs, ck), some (_, ys, ck2) => if chk (ck ++ ck2) S2 then .ok (zipP xs ys, ck ++ ck2) S2 else .stuck
  | _, _ => .stuck
section
variable {X : Cx} {W : WX} {p pos tpos : Pos} {a b : Expr} {ca cb : CE PV} {elts : List Expr} {kk : Nat} {tg : Expr}
theorem di_zip (hm : X.mg "zip" = none) (ha : DE X W a ca) (hb : DE X W b cb) (hg : Gl X "zip" := by rfl) (hs : starEach [a, b] X.env = (false, eval a X.env) :: starEach [b] X.env := by rfl) (hs2 : starEach [b] X.env = (false, eval b X.env) :: starEach [] X.env := by rfl)
    (hpl : (backTo pos (starEach [b] X.env)).any (·.1) = false := by rfl) : DI X W (.Tuple elts kk tpos) (.Call (.Name "zip" p) [a, b] [] pos) (iZipP ca cb) := by
  refine pi_imp (pi_zipK hg hm (pa_cons ha (pa_cons hb pa_nil hs2) hs) hs hpl) fun σ H R h => ?_
  obtain ⟨m, S, ρ, at_, fin⟩ := h
  refine ⟨m, S, ρ, at_, (Fin.bind at_ fin).mono fun v H1 h1 => ?_⟩
  obtain ⟨m1, S1, x, at1, r1, e1, l1, f1⟩ := h1
  refine ⟨m1, S1, ρ, at1, (Fin.bind at1 f1).mono fun u H2 h2 => ?_⟩
  obtain ⟨m2, S2, y, at2, r2, e2, l2, f2⟩ := h2
  have rx := stbV e2 l2 r1
  cases hx : seqC x S2 with
  | none => simp only [hx] at f2; exact f2.elim
  | some t1 =>
    obtain ⟨d, xs, ck⟩ := t1
    cases hy : seqC y S2 with
    | none => simp only [hx, hy] at f2; exact f2.elim
    | some t2 =>
      obtain ⟨e, ys, ck2⟩ := t2
      simp only [hx, hy] at f2
      by_cases hc : chk (ck ++ ck2) S2
      · rw [if_pos hc] at f2
        obtain ⟨p, q, ps, qs, rfl, rfl, hv, it⟩ := itR_zip at2.rel rx r2 hx hy
        obtain ⟨v1, v2⟩ := hv hc
        exact ⟨d, e, p, q, ps, qs, rfl, v1, v2, f2.here at2.rel it⟩
      · rw [if_neg hc] at f2
        exact f2.elim
/-! ### enumerate, reversed, range with a step -/
def enumP (xs : List PV) : List PV := xs.zipIdx.map fun p => .tup [.int (p.2 : Nat), p.1]
theorem enumP_len (xs : List PV) : (enumP xs).length = xs.length := by unfold enumP; simp
theorem enumP_get {xs : List PV} {i : Nat} {x : PV} (h : xs[i]? = some x) : (enumP xs)[i]? = some (.tup [.int (i : Nat), x]) := by
  unfold enumP
  rw [List.getElem?_map, List.getElem?_zipIdx, h]
  simp
def iEnumP (c : CE PV) : CE (List PV × Chk) := fun ρ S => (c ρ S).bind fun x S1 => match seqC x S1 with
  | some (.l, xs, ck) => .ok (enumP xs, ck) S1
  | _ => .stuck
theorem di_enum (hm : X.mg "enumerate" = none) (ha : DE X W a ca) (hg : Gl X "enumerate" := by rfl) (hs : starEach [a] X.env = [(false, eval a X.env)] := by rfl) (hs2 : starEach [a] X.env = (false, eval a X.env) :: starEach [] X.env := by rfl) :
    DI X W (.Tuple elts kk tpos) (.Call (.Name "enumerate" p) [a] [] pos) (iEnumP ca) := by
  refine pi_imp (pi_enum hg hm (pa_cons ha pa_nil hs2) hs) fun σ H R h => ?_
  obtain ⟨m, S, ρ, at_, fin⟩ := h
  refine ⟨m, S, ρ, at_, (Fin.bind at_ fin).mono fun v H1 h1 => ?_⟩
  obtain ⟨m1, S1, x, at1, r1, e1, l1, f1⟩ := h1
  dsimp only at f1
  cases hx : seqC x S1 with
  | none => rw [hx] at f1; exact f1.elim
  | some t1 =>
    obtain ⟨d, xs, ck⟩ := t1
    rw [hx] at f1
    cases d with
    | t => exact f1.elim
    | l =>
      obtain ⟨q, rfl, hq⟩ := seqC_ok at1.rel r1 hx
      have c0 : chk ck S1 := by
        unfold seqC at hx
        cases x with
        | rol z => cases hx; exact chk_nil _
        | obj i =>
          simp only at hx
          split at hx
          · rename_i e
            cases hx
            exact chk_one e
          · cases hx
        | _ => cases hx
      obtain ⟨vs, v1, _⟩ := hq m1 S1 H1 Ext.refl (Nat.le_refl _) at1.rel c0
      refine ⟨q, vs, rfl, v1, f1.here at1.rel ⟨fun m' S' H' ex l r c => ?_, fun i m' S' H' ex l r c hi => ?_, fun i m' S' H' w H'' ex l r c hi yl => ?_⟩⟩
      · obtain ⟨us, u1, r1, _⟩ := hq m' S' H' ex l r c
        exact ⟨us, u1, by rw [r1.length]; show _ ≤ (enumP xs).length; rw [enumP_len]; exact Nat.le_refl _⟩
      · obtain ⟨us, u1, r1, _⟩ := hq m' S' H' ex l r c
        have hi' : i < xs.length := by rw [← enumP_len xs]; exact hi
        exact ⟨us, us[i]'(by rw [r1.length]; exact hi'), u1, by simp⟩
      · obtain ⟨us, u1, r1, b1⟩ := hq m' S' H' ex l r c
        obtain ⟨T, x', rfl, hT, rfl, f1'⟩ := yl
        obtain ⟨z, ez, rz⟩ := r1.get' (f1' _ u1)
        have e0 : Ext X.K S'.length m' H' m' (upd H' T (.tup [.int (i : Nat), x'])) := ext_new hT fun _ _ => rfl
        have bz := bnds_get b1 ez
        have bb : bnds S'.length [.int (i : Nat), z] = true := by simp [bnds, bnd, bz]
        exact ⟨.tup [.int (i : Nat), z], enumP_get ez, e0, r.newT hT, ⟨bb, T, [.int (i : Nat), x'], rfl, upd_same, _, [x'], rfl, rfl, x', [], rfl, rz.ext e0 _ _ bz, rfl⟩, fun D hD => upd_ne fun z => hD (by rw [z]; exact hT)⟩
end
end TL

set_option Elab.async false
set_option linter.all false
set_option maxRecDepth 100000
set_option maxHeartbeats 1000000
/-! TM3: slices with a step, of lists. -/
namespace TL
open PySem PySem.Spec PyProof.Rows L2
def pickP {α : Type} (xs : List α) (lo hi st : Option Int) : List α := (sliceRange (sliceBounds lo hi st xs.length).1 (sliceBounds lo hi st xs.length).2.1 (sliceBounds lo hi st xs.length).2.2).filterMap (xs[·]?)
theorem slicePick_eq (its : List Value) (lo hi st : Option Int) : slicePick its.toArray lo hi st = (pickP its lo hi st).toArray := by
  unfold slicePick pickP
  simp
theorem vals_picks {xs : List V} {its : List Value} (h : Vals xs its) : ∀ l : List Nat, Vals (l.filterMap (xs[·]?)) (l.filterMap (its[·]?))
  | [] => .nil
  | i :: l => by
    have ih := vals_picks h l
    by_cases hi : i < xs.length
    · obtain ⟨u, e, r⟩ := h.get (List.getElem?_eq_getElem hi)
      rw [List.filterMap_cons_some (List.getElem?_eq_getElem hi), List.filterMap_cons_some e]
      exact .cons r ih
    · have hl := h.length
      rw [List.filterMap_cons_none (List.getElem?_eq_none (by omega)), List.filterMap_cons_none (List.getElem?_eq_none (by omega))]
      exact ih
theorem vals_pick {xs : List V} {its : List Value} (h : Vals xs its) (lo hi st : Option Int) : Vals (pickP xs lo hi st) (pickP its lo hi st) := by
  unfold pickP
  rw [h.length]
  exact vals_picks h _
theorem pickP_len (xs : List V) {its : List Value} (h : Vals xs its) (lo hi st : Option Int) : (pickP xs lo hi st).length ≤ xs.length := by
  have e := (vals_pick h lo hi st).length
  have z := slicePick_size_le its.toArray lo hi st
  rw [slicePick_eq, List.size_toArray, List.size_toArray, ← e, ← h.length] at z
  exact z
theorem rps_picks {K : PySem.W.Frag} {m : Mp} {H : Hp} {n : Nat} {xs : List PV} {vs : List V} (b : bnds n xs = true) (h : Rps K m H xs vs) : ∀ l : List Nat, Rps K m H (l.filterMap (xs[·]?)) (l.filterMap (vs[·]?)) ∧ bnds n (l.filterMap (xs[·]?)) = true
  | [] => ⟨rfl, rfl⟩
  | i :: l => by
    obtain ⟨i1, i2⟩ := rps_picks b h l
    by_cases hi : i < xs.length
    · obtain ⟨u, e, r⟩ := h.get (List.getElem?_eq_getElem hi)
      rw [List.filterMap_cons_some (List.getElem?_eq_getElem hi), List.filterMap_cons_some e]
      exact ⟨⟨_, _, rfl, r, i1⟩, Bool.and_eq_true_iff.mpr ⟨bnds_get b (List.getElem?_eq_getElem hi), i2⟩⟩
    · have hl := h.length
      rw [List.filterMap_cons_none (List.getElem?_eq_none (by omega)), List.filterMap_cons_none (List.getElem?_eq_none (by omega))]
      exact ⟨i1, i2⟩
def tSlc (K : PySem.W.Frag) (te : TE) (tl th ts : TO) : TE := fun σ H Q => te σ H fun x H1 => tl σ H1 fun l H2 => th σ H2 fun u H3 => ts σ H3 fun c H4 => ∃ a xs, x = .ref a ∧ SqL K H4 a xs ∧ c ≠ some 0 ∧ ∀ p, H4 p = none → Q (.ref p) (upd H4 p (.lst (pickP xs l u c)))
theorem pe_slc {X : Cx} {e c : Expr} {lo hi : Option Expr} {te : TE} {tl th ts : TO} {p2 pos : Pos} (he : PE X e te) (hl : L2.PO X lo tl) (hu : L2.PO X hi th) (hc : L2.PO X (some c) ts) : PE X (.Subscript e (.Slice lo hi (some c) p2) pos) (tSlc X.K te tl th ts) := by
  refine ⟨fun pins s σ H Q I h => ?_⟩
  refine Subscript_ (thn (he.run pins s σ H _ I h) fun v s1 ⟨x, H1, I1, r1, q1⟩ => ?_)
  refine wpAny_Slice (thn (hl.run pins s1 σ H1 _ I1 q1) fun vl s2 ⟨l, H2, I2, pl, q2⟩ => thn (hu.run pins s2 σ H2 _ I2 q2) fun vu s3 ⟨u, H3, I3, pu, q3⟩ => thn (hc.run pins s3 σ H3 _ I3 q3) fun vc s4 ⟨d, H4, I4, pc, q4⟩ => ?_)
  obtain ⟨a, xs, rfl, hx, hd, q⟩ := q4
  have ev : v = Value.ref a := r1
  subst ev
  have I5 : Inv X pins σ H4 { s4 with heap := s4.heap.push { cls := .type "slice", data := .fields #[vl, vu, vc] } } := I4.kept (t' := s4.toks) fun b ob q => Heap.get?_push_of_some _ q
  obtain ⟨its, r, ht, hz⟩ := I5.list hx
  have hlen := r.length
  have ty : ({ s4 with heap := s4.heap.push { cls := .type "slice", data := .fields #[vl, vu, vc] } } : Shared).TypeIs (.ref a) "list" := ht.isList.typeIs
  refine tail_any (ops := [.ref a, .ref s4.heap.objs.size]) ty slot_list_getitem.lookup ?_ (by with_unfolding_all rfl)
  refine wpAny_getItem_list_slice ht.isList (Heap.IsSliceOf.new ..) pl pu pc hd ?_ (by rw [List.size_toArray] <;> omega)
  rw [slicePick_eq]
  generalize hs : ({ s4 with heap := s4.heap.push { cls := .type "slice", data := .fields #[vl, vu, vc] } } : Shared) = s5 at *
  refine ⟨.ref s5.heap.objs.size, _, I5.laid (t' := s5.toks) (o := .lst (pickP xs l u d)) (fun b ob q => Heap.get?_push_of_some _ q) (Nat.le_refl _) ?_, rfl, q _ (I5.hok.fresh (Nat.le_refl _))⟩
  exact ⟨Nat.le_trans (pickP_len xs r l u d) hz, _, 0, vals_pick r l u d, Heap.get?_push_size _ rfl⟩
def eSlc (c : CE PV) (l h s : CE (Option Int)) : CE PV := fun ρ S => (c ρ S).bind fun x S1 => (l ρ S1).bind fun lo S2 => (h ρ S2).bind fun hi S3 => (s ρ S3).bind fun st S4 => match lstOf x S4 with
  | some xs => if st ≠ some 0 then .ok (.obj S4.length) (S4 ++ [.lst (pickP xs lo hi st)]) else .stuck
  | none => .stuck
theorem de_slc {X : Cx} {W : WX} {a c : Expr} {lo hi : Option Expr} {ca : CE PV} {cl ch cc : CE (Option Int)} {p2 pos : Pos} (ha : DE X W a ca) (hl : DO X W lo cl) (hh : DO X W hi ch) (hc : DO X W (some c) cc) : DE X W (.Subscript a (.Slice lo hi (some c) p2) pos) (eSlc ca cl ch cc) :=
  pe_imp (pe_slc ha hl hh hc) fun σ H Q h => by
    obtain ⟨m, S, ρ, at_, fin⟩ := h
    refine ⟨m, S, ρ, at_, (Fin.bind at_ fin).mono fun v H1 h1 => ?_⟩
    obtain ⟨m1, S1, x, at1, r1, e1, l1, f1⟩ := h1
    refine ⟨m1, S1, ρ, at1, (Fin.bind at1 f1).mono fun l H2 h2 => ?_⟩
    obtain ⟨m2, S2, y, at2, r2, e2, l2, f2⟩ := h2
    refine ⟨m2, S2, ρ, at2, (Fin.bind at2 f2).mono fun u H3 h3 => ?_⟩
    obtain ⟨m3, S3, z, at3, r3, e3, l3, f3⟩ := h3
    refine ⟨m3, S3, ρ, at3, (Fin.bind at3 f3).mono fun d H4 h4 => ?_⟩
    obtain ⟨m4, S4, w, at4, r4, e4, l4, f4⟩ := h4
    have q2 : y = l := r2
    have q3 : z = u := r3
    have q4 : w = d := r4
    subst q2 q3 q4
    have rx : RV X.K S4.length m4 H4 x v := stbV e4 l4 (stbV e3 l3 (stbV e2 l2 r1))
    cases e : lstOf x S4 with
    | none => simp only [e] at f4; exact f4.elim
    | some xs =>
      simp only [e] at f4
      obtain ⟨b, p, vs, rfl, h1, h2⟩ := lst_ok at4.rel rx e
      by_cases hw : w ≠ some 0
      · rw [if_pos hw] at f4
        refine ⟨p, vs, rfl, h1, hw, fun t ht => ?_⟩
        obtain ⟨i1, i2⟩ := rps_picks b h2 (sliceRange (sliceBounds y z w xs.length).1 (sliceBounds y z w xs.length).2.1 (sliceBounds y z w xs.length).2.2)
        have e5 : pickP vs y z w = (sliceRange (sliceBounds y z w xs.length).1 (sliceBounds y z w xs.length).2.1 (sliceBounds y z w xs.length).2.2).filterMap (vs[·]?) := by
          unfold pickP
          rw [h2.length]
        rw [e5]
        exact f4.lst at4.rel i2 i1 ht
      · rw [if_neg hw] at f4
        exact f4.elim
theorem pick_map (ns : List Int) (lo hi st : Option Int) : pickP (ns.map PV.int) lo hi st = (pickP ns lo hi st).map PV.int := by
  unfold pickP
  rw [List.length_map, List.map_filterMap]
  congr 1
  funext i
  rw [List.getElem?_map]
end TL

set_option Elab.async false
set_option linter.all false
set_option maxRecDepth 100000
set_option maxHeartbeats 1000000
/-! TM4: sorted(d), the keys of d tuples of ints. -/
namespace TL
open PySem PySem.Spec PyProof.Rows L2

def lexLe : List Int → List Int → Bool
  | [], _ => true
  | _ :: _, [] => false
  | a :: as, b :: bs => decide (a < b) || (decide (a = b) && lexLe as bs)
theorem lexLe_cons {a b : Int} {as bs : List Int} : lexLe (a :: as) (b :: bs) = true ↔ a < b ∨ (a = b ∧ lexLe as bs = true) := by
  show (decide (a < b) || (decide (a = b) && lexLe as bs)) = true ↔ _
  simp
theorem lexLe_total : ∀ a b : List Int, (lexLe a b || lexLe b a) = true
  | [], _ => rfl
  | _ :: _, [] => rfl
  | a :: as, b :: bs => by
    rw [Bool.or_eq_true, lexLe_cons, lexLe_cons]
    have ih := lexLe_total as bs
    rw [Bool.or_eq_true] at ih
    rcases Int.lt_trichotomy a b with h | h | h
    · exact .inl (.inl h)
    · exact ih.elim (fun z => .inl (.inr ⟨h, z⟩)) fun z => .inr (.inr ⟨h.symm, z⟩)
    · exact .inr (.inl h)
theorem lexLe_trans : ∀ a b c : List Int, lexLe a b = true → lexLe b c = true → lexLe a c = true
  | [], _, _, _, _ => rfl
  | _ :: _, [], _, h, _ => nomatch h
  | _ :: _, _ :: _, [], _, h => nomatch h
  | a :: as, b :: bs, c :: cs, h1, h2 => by
    rw [lexLe_cons] at h1 h2 ⊢
    have ih := lexLe_trans as bs cs
    rcases h1 with h1 | ⟨h1, z1⟩ <;> rcases h2 with h2 | ⟨h2, z2⟩
    · exact .inl (by omega)
    · exact .inl (by omega)
    · exact .inl (by omega)
    · exact .inr ⟨by omega, ih z1 z2⟩
theorem lexLe_anti : ∀ a b : List Int, lexLe a b = true → lexLe b a = true → a = b
  | [], [], _, _ => rfl
  | [], _ :: _, _, h => nomatch h
  | _ :: _, [], h, _ => nomatch h
  | a :: as, b :: bs, h1, h2 => by
    rw [lexLe_cons] at h1 h2
    have ih := lexLe_anti as bs
    rcases h1 with h1 | ⟨h1, z1⟩ <;> rcases h2 with h2 | ⟨h2, z2⟩
    · omega
    · omega
    · omega
    · rw [h1, ih z1 z2]
theorem code_lexLe {B : Int} : ∀ a b : List Int, a.length = b.length → TS.Bd B a → TS.Bd B b → TS.code B a ≤ TS.code B b → lexLe a b = true
  | [], _, _, _, _, _ => rfl
  | _ :: _, [], h, _, _, _ => nomatch h
  | a :: as, b :: bs, hl, h1, h2, h => by
    have hl' : as.length = bs.length := by simpa using hl
    rw [lexLe_cons]
    rcases Int.lt_trichotomy a b with z | z | z
    · exact .inl z
    · subst z
      refine .inr ⟨rfl, code_lexLe as bs hl' h1.tail h2.tail ?_⟩
      have q := TS.code_same (B := B) (d := a) hl'.symm
      exact Int.not_lt.mp fun z => Int.not_lt.mpr h (q.mpr z)
    · have := TS.code_lt hl'.symm h2.tail h1.tail z
      omega
/-- the sorted keys -/
def srt (ks : List (List Int)) : List (List Int) := ks.mergeSort lexLe
theorem srt_perm (ks : List (List Int)) : (srt ks).Perm ks := List.mergeSort_perm ks lexLe
theorem srt_pw (ks : List (List Int)) : (srt ks).Pairwise (fun a b => lexLe a b = true) := List.pairwise_mergeSort lexLe_trans lexLe_total ks
theorem srt_eq {ks zs : List (List Int)} (h : zs.Perm ks) (pw : zs.Pairwise (fun a b => lexLe a b = true)) : zs = srt ks :=
  List.Perm.eq_of_pairwise (fun a b _ _ h1 h2 => lexLe_anti a b h1 h2) pw (srt_pw ks) (h.trans (srt_perm ks).symm)
theorem srt_of_perm {ks zs : List (List Int)} (h : zs.Perm ks) : srt zs = srt ks := srt_eq ((srt_perm zs).trans h) (srt_pw zs)
theorem srt_len (ks : List (List Int)) : (srt ks).length = ks.length := (srt_perm ks).length_eq
theorem srt_mem {ks : List (List Int)} {k : List Int} : k ∈ srt ks ↔ k ∈ ks := (srt_perm ks).mem_iff

theorem perm_map_ex {α β : Type} {f : α → β} {m n : List β} (p : m.Perm n) : ∀ l : List α, n = l.map f → ∃ l' : List α, l'.Perm l ∧ m = l'.map f := by
  induction p with
  | nil => intro l e; exact ⟨l, List.Perm.refl _, e⟩
  | cons x p ih =>
    intro l e
    cases l with
    | nil => cases e
    | cons y l =>
      rw [List.map_cons] at e
      injection e with e1 e2
      obtain ⟨l', p', e'⟩ := ih l e2
      exact ⟨y :: l', p'.cons y, by rw [List.map_cons, e1, e']⟩
  | swap x y l0 =>
    intro l e
    cases l with
    | nil => cases e
    | cons a l =>
      cases l with
      | nil => cases e
      | cons b l =>
        rw [List.map_cons, List.map_cons] at e
        injection e with e1 e2
        injection e2 with e2 e3
        exact ⟨b :: a :: l, List.Perm.swap a b l, by rw [List.map_cons, List.map_cons, e1, e2, e3]⟩
  | trans p1 p2 ih1 ih2 =>
    intro l e
    obtain ⟨l1, q1, e1⟩ := ih2 l e
    obtain ⟨l2, q2, e2⟩ := ih1 l1 e1
    exact ⟨l2, q2.trans q1, e2⟩

section
open TS
variable {prog : Program} {w : World} {A : Around} {E : Value → Shared → Prop} {s : Shared}
/-- list.sort of a list of tuples of ints; fewer than two may be empty ones -/
theorem sort_tups1 {a : Addr} {vs : List Value} {n d : Nat} {B : Int} {P : PySem.Fin → Shared → Prop} (ho : s.heap.get? a = some (seqObj "list" vs.toArray n)) (h64 : vs.length < 64) (hd : 2 ≤ vs.length → 1 ≤ d) (x : TupsOk s.heap d B vs)
    (r : Value → Int) (hr : ∀ v, v ∈ vs → ∀ ns, TupInts s.heap v ns → r v = code B ns)
    (h : ∀ out : Array Value, out.toList.Perm vs → out.toList.Pairwise (fun u v => r u ≤ r v) → P (.done (.ret .none)) { s with heap := sortedHeap s.heap a vs out }) :
    wpAny (model prog w) A (Builtin.«list.sort» ⟨[.ref a], []⟩) P E s := by
  have keep : ∀ b o, s.heap.get? b = some o → o.cls = .type "tuple" → (midHeap s.heap a vs).get? b = some o := fun b o e hc => by
    refine midHeap_old ?_ e
    rintro rfl
    rw [ho] at e
    have e' : seqObj "list" vs.toArray n = o := Option.some.inj e
    rw [← e'] at hc
    have c' : Value.type "list" = Value.type "tuple" := hc
    injection c' with c''
    exact absurd c'' (by decide)
  refine SK.plain_sort (r := r) ho h64 (fun h2 Q hQ => ?_) fun ps out h1 h2 h3 => ?_
  · refine kind_tups (s := { s with heap := midHeap s.heap a vs }) (hd h2) h2 (x.keeps keep) r (fun v hv ns t => ?_) Q hQ
    obtain ⟨ns0, t0, _⟩ := x v hv
    have e : ns = ns0 := t.ints.symm.trans (t0.keeps keep).ints
    rw [e]
    exact hr v hv ns0 t0
  · obtain ⟨p, o⟩ := out_rank h1 h2 h3
    exact h out p o
end
theorem ints_are : ∀ {ns : List Int} {us : List Value}, Vals ((ns.map Sum.inl).map kV) us → IntsAre us ns
  | [], _, h => by cases h; exact .nil
  | n :: ns, _, h => by
    cases h with
    | cons r t =>
      obtain ⟨tk, rfl⟩ := r
      exact .cons _ _ (ints_are t)

section
variable {X : Cx}
/-- sorted(d) of a dict whose keys are tuples of ints, all alike long -/
def rSortK : List V → Hp → VK → Prop := fun xs H Q => ∃ d kvs nss dd B, xs = [V.ref d] ∧ Rd H d (.dT kvs) ∧ kvs.map (·.1) = nss.map (fun ns => ns.map Sum.inl) ∧ nss.length < 64 ∧ (2 ≤ nss.length → 1 ≤ dd) ∧ (∀ ns ∈ nss, ns.length = dd ∧ TS.Bd B ns) ∧
  ∀ (p : Addr) (L : List (List Int × Addr)), H p = none → (L.map (·.1)).Perm nss → L.Pairwise (fun a b => TS.code B a.1 ≤ TS.code B b.1) → (∀ q ∈ L, H q.2 = some (.tup (q.1.map V.int))) → Q (.ref p) (upd H p (.lst (L.map fun q => V.ref q.2)))
theorem zip_keys {H : Hp} : ∀ {kvs : List (List Key × V)} {ks : List (List Key × Addr × Value)} {nss : List (List Int)}, Paired (fun (p : List Key × V) (q : List Key × Addr × Value) => p.1 = q.1 ∧ H q.2.1 = some (.tup (p.1.map kV)) ∧ RelV p.2 q.2.2) kvs ks →
    kvs.map (·.1) = nss.map (fun ns => ns.map Sum.inl) → ∃ L : List (List Int × Addr), L.map (·.1) = nss ∧ (ks.map fun x => Value.ref x.2.1) = L.map (fun q => Value.ref q.2) ∧ ∀ q ∈ L, H q.2 = some (.tup (q.1.map V.int))
  | [], _, nss, h, e => by
    cases h
    cases nss with
    | nil => exact ⟨[], rfl, rfl, fun q hq => nomatch hq⟩
    | cons n nss => cases e
  | p :: kvs, _, nss, h, e => by
    cases h with
    | @cons _ q _ ks h1 h2 =>
      cases nss with
      | nil => cases e
      | cons n nss =>
        rw [List.map_cons, List.map_cons] at e
        injection e with e1 e2
        obtain ⟨L, a, b, c⟩ := zip_keys h2 e2
        refine ⟨(n, q.2.1) :: L, by rw [List.map_cons, a], by rw [List.map_cons, List.map_cons, b], fun r hr => ?_⟩
        rcases List.mem_cons.mp hr with z | z
        · subst z
          have := h1.2.1
          rw [e1, List.map_map] at this
          exact this
        · exact c r z
theorem call_sortK (hcalm : X.calm = true) : CallR X (.builtin "sorted") rSortK := by
  intro pins s σ H xs us Q I r q
  obtain ⟨d, kvs, nss, dd, B, rfl, hd, hkeys, h64, hdd, hB, q⟩ := q
  obtain ⟨u, rfl, rx⟩ := r.one
  cases rx
  obtain ⟨z, hs, ks, pr, o, es, ep, ho, hx, hdt, he, hn⟩ := (show ObjOk X.prog X.w H s.heap d (.dT kvs) from hd.ok I.hok)
  have l1 : es.size = ks.length := size_of_entries he
  have l2 : kvs.length = ks.length := Paired.length pr
  obtain ⟨L, eL, evs, hL⟩ := zip_keys pr hkeys
  have lL : L.length = ks.length := by
    have e := congrArg List.length evs
    rw [List.length_map, List.length_map] at e
    exact e.symm
  have lN : nss.length = L.length := by rw [← eL, List.length_map]
  refine Calls.call_function_entry PyProof.Rows.kind_sorted PyProof.Rows.plain_sorted PyProof.Rows.entry_sorted (PyProof.Rows.args_sorted1 _) ?_
  unfold Builtin.«sorted»
  refine wpAny_bind (m := checkCount "sorted" 1 1 _) (wpAny_pure ?_)
  refine wpAny_bind (PySem.W.kdu_collect (A := X.A.in1) (kdl_raw hs hx hdt) (I.ok.hd hcalm) ho (by omega) fun h' tk acc hk it => ?_)
  have ea : acc.toList = L.map fun q => Value.ref q.2 := by
    rw [← evs]
    have hl : acc.toList.length = ks.length := by rw [Array.length_toList, it.1]; exact l1
    apply List.ext_getElem?
    intro j
    rw [List.getElem?_map]
    cases hj : acc.toList[j]? with
    | none =>
      have h1 := List.getElem?_eq_none_iff.mp hj
      rw [List.getElem?_eq_none (by omega)]
      all_goals rfl
    | some v =>
      obtain ⟨en, hen, hv⟩ := it.2 j v (by rw [← Array.getElem?_toList]; exact hj)
      have qe := entry_at he j
      rw [hen] at qe
      cases hb : ks[j]? with
      | none =>
        rw [hb] at qe
        exact nomatch (show some en = none from qe)
      | some b =>
        rw [hb] at qe
        have e2 : en = entryOfKey (tupleKind (mixKind X.prog X.w)) b := Option.some.inj qe
        rw [hv, e2]
        all_goals rfl
  have hal : acc.toList.length = L.length := by rw [ea, List.length_map]
  have I1 : Inv X pins σ H { s with heap := h', toks := tk } := I.kept hk
  refine wpAny_bind (wpAny_newList ?_ (by rw [hal, sizeLine_eq]; omega))
  have hoL : (h'.push (seqObj "list" acc.toList.toArray 0)).get? h'.objs.size = some (seqObj "list" acc.toList.toArray 0) := Heap.get?_push_size _ rfl
  have tk0 : ∀ q ∈ L, TS.TupInts (h'.push (seqObj "list" acc.toList.toArray 0)) (.ref q.2) q.1 := fun q hq => by
    obtain ⟨_, ts, rt, o, ho, hc, hd⟩ := (show ObjOk X.prog X.w H s.heap q.2 (.tup (q.1.map V.int)) from I.hok q.2 _ (hL q hq))
    refine ⟨q.2, ts.toArray, rfl, ⟨o, Heap.get?_push_of_some _ (hk _ _ ho), hc, hd⟩, ?_⟩
    have rt' : Vals ((q.1.map Sum.inl).map kV) ts := by rw [List.map_map]; exact rt
    exact ints_are rt'
  have x : TS.TupsOk (h'.push (seqObj "list" acc.toList.toArray 0)) dd B acc.toList := fun v hv => by
    rw [ea] at hv
    obtain ⟨q, hq, e⟩ := List.mem_map.mp hv
    rw [← e]
    have hm : q.1 ∈ nss := by rw [← eL]; exact List.mem_map.mpr ⟨q, hq, rfl⟩
    exact ⟨q.1, tk0 q hq, (hB _ hm).1, (hB _ hm).2⟩
  show wpAny _ _ _ _ _ { s with heap := h'.push (seqObj "list" acc.toList.toArray 0), toks := tk }
  refine wpAny_bind (wpAny_holding (wpAny_call_entry PyProof.Rows.slot_list_sort ⟨_, hoL, rfl⟩ PyProof.Rows.entry_list_sort
    (sort_tups1 (s := { s with heap := h'.push (seqObj "list" acc.toList.toArray 0), toks := tk }) (B := B) (d := dd) hoL (by omega) (fun h2 => hdd (by omega)) x
      (fun v => TS.code B (TS.intsOf (h'.push (seqObj "list" acc.toList.toArray 0)) v)) (fun v _ ns hv => congrArg (TS.code B) hv.ints) fun out a1 a2 => ⟨_, rfl, ?_⟩)
    (PyProof.Rows.args_list_sort _)))
  rw [ea] at a1
  obtain ⟨L', pL, eo⟩ := perm_map_ex a1 L rfl
  obtain ⟨e', he'⟩ := PyProof.Rows.sortedHeap_at (vs := acc.toList) (out := out) hoL
  have pw : L'.Pairwise (fun a b => TS.code B a.1 ≤ TS.code B b.1) := by
    rw [eo] at a2
    refine List.Pairwise.imp_of_mem (fun {a b} ha hb hle => ?_) (List.pairwise_map.mp a2)
    have f1 := (tk0 a (pL.mem_iff.mp ha)).ints
    have f2 := (tk0 b (pL.mem_iff.mp hb)).ints
    rw [← f1, ← f2]
    exact hle
  have hlen : (L'.map fun q => V.ref q.2).length ≤ sizeLine := by
    rw [List.length_map, pL.length_eq, sizeLine_eq]
    omega
  have rv : Vals (L'.map fun q => V.ref q.2) out.toList := by
    have e1 : (L'.map fun q => V.ref q.2) = (L'.map (·.2)).map V.ref := by rw [List.map_map]; rfl
    have e2 : out.toList = (L'.map (·.2)).map Value.ref := by rw [eo, List.map_map]; rfl
    rw [e1, e2]
    exact vals_refs _
  refine wpAny_pure ⟨_, rfl, .ref h'.objs.size, upd H h'.objs.size (.lst (L'.map fun q => V.ref q.2)), I1.laid (t' := tk) (fun b u e => ?_) (Nat.le_refl _)
    (show ObjOk X.prog X.w _ _ _ (.lst (L'.map fun q => V.ref q.2)) from ⟨hlen, out.toList, e', rv, by rw [Array.toArray_toList]; exact he'⟩), rfl,
    q _ _ (I1.hok.fresh (Nat.le_refl _)) (by rw [← eL]; exact pL.map _) pw fun q hq => hL q (pL.mem_iff.mp hq)⟩
  have hb : b < h'.objs.size := Heap.lt_size e
  rw [PyProof.Rows.sortedHeap_old (Nat.ne_of_lt hb) (by rw [size_push']; exact Nat.lt_succ_of_lt hb)]
  exact Heap.get?_push_of_some _ e
end
/-! ### in the store -/
def keyI : PV → Option (List Int)
  | .tup xs => intsOf xs
  | _ => none
def keysI : List PV → Option (List (List Int))
  | [] => some []
  | x :: xs => match keyI x, keysI xs with
    | some k, some ks => some (k :: ks)
    | _, _ => none
theorem keyI_eq {x : PV} {k : List Int} (h : keyI x = some k) : x = .tup (k.map .int) := by
  cases x with
  | tup xs => rw [intsOf_eq (show intsOf xs = some k from h)]
  | _ => cases h
theorem keysI_eq : ∀ {xs : List PV} {ks : List (List Int)}, keysI xs = some ks → xs = ks.map fun k => .tup (k.map .int)
  | [], ks, h => by cases h; rfl
  | x :: xs, ks, h => by
    unfold keysI at h
    cases e1 : keyI x with
    | none => rw [e1] at h; cases h
    | some k =>
      cases e2 : keysI xs with
      | none => rw [e1, e2] at h; cases h
      | some ks' =>
        rw [e1, e2] at h
        cases h
        rw [List.map_cons, ← keysI_eq e2, ← keyI_eq e1]
theorem keysI_map : ∀ ks : List (List Int), keysI (ks.map fun k => .tup (k.map .int)) = some ks
  | [] => rfl
  | k :: ks => by
    have h : intsOf (k.map .int) = some k := by
      induction k with
      | nil => rfl
      | cons a k ih => show (intsOf (k.map .int)).map (a :: ·) = _; rw [ih]; rfl
    show (match keyI (.tup (k.map .int)), keysI (ks.map fun k => .tup (k.map .int)) with | some k, some ks => some (k :: ks) | _, _ => none) = _
    rw [keysI_map ks, show keyI (.tup (k.map .int)) = some k from h]
/-- fewer than 64, all alike long, none below 0 -/
def okT (ks : List (List Int)) : Bool := decide (ks.length < 64) && (decide (ks.length < 2) || decide (1 ≤ (ks.headD []).length)) && ks.all (fun k => k.length == (ks.headD []).length) && ks.all fun k => k.all fun i => decide (0 ≤ i)
theorem okT_bd {ks : List (List Int)} (h : okT ks = true) : ks.length < 64 ∧ (2 ≤ ks.length → 1 ≤ (ks.headD []).length) ∧ ∃ B, ∀ k ∈ ks, k.length = (ks.headD []).length ∧ TS.Bd B k := by
  unfold okT at h
  rw [Bool.and_eq_true, Bool.and_eq_true, Bool.and_eq_true, Bool.or_eq_true] at h
  obtain ⟨⟨⟨h1, h2⟩, h3⟩, h4⟩ := h
  refine ⟨of_decide_eq_true h1, fun q => h2.elim (fun z => absurd (of_decide_eq_true z) (by omega)) of_decide_eq_true, ?_⟩
  have ex1 : ∀ k : List Int, ∃ B : Int, ∀ i ∈ k, i < B := fun k => by
    induction k with
    | nil => exact ⟨0, fun i hi => nomatch hi⟩
    | cons a k ih =>
      obtain ⟨B, hB⟩ := ih
      refine ⟨max (a + 1) B, fun i hi => ?_⟩
      rcases List.mem_cons.mp hi with z | z
      · omega
      · have := hB i z
        omega
  have ex2 : ∀ l : List (List Int), ∃ B : Int, ∀ k ∈ l, ∀ i ∈ k, i < B := fun l => by
    induction l with
    | nil => exact ⟨0, fun k hk => nomatch hk⟩
    | cons a l ih =>
      obtain ⟨B, hB⟩ := ih
      obtain ⟨C, hC⟩ := ex1 a
      refine ⟨max C B, fun k hk i hi => ?_⟩
      rcases List.mem_cons.mp hk with z | z
      · subst z
        have := hC i hi
        omega
      · have := hB k z i hi
        omega
  obtain ⟨B, hB⟩ := ex2 ks
  refine ⟨B, fun k hk => ⟨beq_iff_eq.mp (List.all_eq_true.mp h3 k hk), fun i hi => ⟨?_, hB k hk i hi⟩⟩⟩
  exact of_decide_eq_true (List.all_eq_true.mp (List.all_eq_true.mp h4 k hk) i hi)
def tups (ks : List (List Int)) : List PV := ks.map fun k => .tup (k.map .int)
def sortedV : FB := fun xs S => match xs with
  | [.obj i] => match S[i]? with
    | some (.dic _ kvs) => match keysI (kvs.map (·.1)) with
      | some ks => if okT ks = true then .ok (.obj S.length) (S ++ [.lst (tups (srt ks))]) else .stuck
      | none => .stuck
    | _ => .stuck
  | _ => .stuck
def rSortedV : List V → Hp → VK → Prop := fun xs H Q => (∃ (a : Addr) (kvs : List (Key × V)) (ks : List Str), xs = [.ref a] ∧ Rd H a (.dK kvs) ∧ kvs.map (·.1) = ks.map Sum.inr ∧ ks.length < 64 ∧
    ∀ ys p, ys.Perm ks → sortedS ys = true → H p = none → Q (.ref p) (upd H p (.lst (ys.map V.str)))) ∨ rSortK xs H Q
theorem call_sortedV {X : Cx} (hc : X.calm = true) : CallR X (.builtin "sorted") rSortedV := (call_sortedD hc).or (call_sortK hc)
section
variable {K : PySem.W.Frag} {mg : Str → Option Value}
theorem intsOf_keys : ∀ {xs : List PV} {ks : List Key} {ns : List Int}, keysOf xs = some ks → intsOf xs = some ns → ks = ns.map Sum.inl
  | [], ks, ns, h, h' => by cases h; cases h'; rfl
  | x :: xs, ks, ns, h, h' => by
    cases x with
    | int i =>
      have q : (intsOf xs).map (i :: ·) = some ns := h'
      cases e : intsOf xs with
      | none => rw [e] at q; cases q
      | some ms =>
        rw [e] at q
        cases q
        unfold keysOf at h
        cases e2 : keysOf xs with
        | none => rw [e2] at h; cases h
        | some qs =>
          rw [e2] at h
          cases h
          rw [intsOf_keys e2 e]
          rfl
    | _ => cases h'
theorem KvT.ints {m : Mp} {H : Hp} : ∀ {kvs : List (PV × PV)} {l : List (List Key × V)} {ks : List (List Int)}, KvT K m H kvs l → keysI (kvs.map (·.1)) = some ks → l.map (·.1) = ks.map fun ns => ns.map Sum.inl
  | [], l, ks, h, e => by
    have e' : l = [] := h
    subst e'
    cases e
    rfl
  | p :: ps, l, ks, h, e => by
    obtain ⟨q, r, rfl, h1, h2, h3⟩ := h
    rw [List.map_cons] at e
    unfold keysI at e
    cases e1 : keyI p.1 with
    | none => rw [e1] at e; cases e
    | some k =>
      cases e2 : keysI (ps.map (·.1)) with
      | none => rw [e1, e2] at e; cases e
      | some ks' =>
        rw [e1, e2] at e
        cases e
        rw [List.map_cons, List.map_cons, KvT.ints h3 e2]
        cases ep : p.1 with
        | tup xs =>
          rw [ep] at h1 e1
          rw [intsOf_keys (show keysOf xs = some q.1 from h1) (show intsOf xs = some k from e1)]
        | _ => rw [ep] at h1; cases h1
theorem KvK.noI {m : Mp} {H : Hp} : ∀ {kvs : List (PV × PV)} {l : List (Key × V)} {ks : List (List Int)}, KvK K m H kvs l → keysI (kvs.map (·.1)) = some ks → kvs = [] ∧ l = [] ∧ ks = []
  | [], l, ks, h, e => by
    have e' : l = [] := h
    cases e
    exact ⟨rfl, e', rfl⟩
  | p :: ps, l, ks, h, e => by
    obtain ⟨q, r, rfl, h1, h2, h3⟩ := h
    rw [List.map_cons] at e
    unfold keysI at e
    cases ep : p.1 with
    | tup xs => rw [ep] at h1; cases h1
    | _ => rw [ep] at e; cases e
theorem intsR {m : Mp} {H : Hp} : ∀ ns : List Int, Rps K m H (ns.map .int) (ns.map V.int)
  | [] => rfl
  | n :: ns => ⟨_, _, rfl, rfl, intsR ns⟩
theorem srt_rps {m : Mp} {H : Hp} : ∀ {L : List (List Int × Addr)}, (∀ q ∈ L, H q.2 = some (.tup (q.1.map V.int))) → Rps K m H (tups (L.map (·.1))) (L.map fun q => V.ref q.2)
  | [], _ => rfl
  | q :: L, h => by
    refine ⟨_, _, rfl, ⟨q.2, q.1.map V.int, rfl, h q (List.mem_cons_self ..), intsR q.1⟩, srt_rps fun r hr => h r (List.mem_cons_of_mem _ hr)⟩
theorem tups_bnd (n : Nat) : ∀ ks : List (List Int), bnds n (tups ks) = true
  | [] => rfl
  | k :: ks => by
    refine Bool.and_eq_true_iff.mpr ⟨?_, tups_bnd n ks⟩
    show bnds n (k.map .int) = true
    induction k with
    | nil => rfl
    | cons a k ih => exact Bool.and_eq_true_iff.mpr ⟨rfl, ih⟩
theorem opC_sorted : OpC K mg sortedV rSortedV := by
  intro W σ m S H xs vs Q rel ra f
  unfold sortedV at f
  split at f
  · rename_i i
    obtain ⟨v, rfl, b, ev⟩ := one_of ra
    have ev' : v = .ref (m i) := ev
    subst ev'
    split at f
    · rename_i lk kvs e
      split at f
      · rename_i ks ek
        split at f
        · rename_i hok
          obtain ⟨h64, hd, B, hB⟩ := okT_bd hok
          have go : ∀ l, Rd H (m i) (.dT l) → KvT K m H kvs l → rSortedV [.ref (m i)] H Q := fun l h1 h2 => .inr ⟨_, l, ks, _, B, rfl, h1, h2.ints ek, h64, hd, hB, fun p L hp pm pw hL => by
            have e1 : L.map (·.1) = srt ks := srt_eq pm (List.pairwise_map.mpr (List.Pairwise.imp_of_mem (fun {a b} ha hb hle => by
              have ma := pm.mem_iff.mp (List.mem_map.mpr ⟨a, ha, rfl⟩)
              have mb := pm.mem_iff.mp (List.mem_map.mpr ⟨b, hb, rfl⟩)
              exact code_lexLe a.1 b.1 ((hB _ ma).1.trans (hB _ mb).1.symm) (hB _ ma).2 (hB _ mb).2 hle) pw))
            exact f.lst rel (tups_bnd _ _) (by rw [← e1]; exact srt_rps hL) hp⟩
          have go0 : ∀ l, Rd H (m i) (.dK l) → KvK K m H kvs l → rSortedV [.ref (m i)] H Q := fun l h1 h2 => by
            obtain ⟨z1, z2, z3⟩ := KvK.noI h2 ek
            subst z2 z3
            refine .inl ⟨_, [], [], rfl, h1, rfl, by decide, fun ys p pm _ hp => ?_⟩
            have ey : ys = [] := pm.eq_nil
            subst ey
            have e0 : srt [] = [] := (srt_perm []).eq_nil
            rw [e0] at f
            exact f.lst rel rfl rfl hp
          cases lk with
          | false =>
            rcases rel.ob i _ e with ⟨l, h1, h2⟩ | ⟨l, h1, h2⟩
            · exact go0 l (.inl h1) h2
            · exact go l (.inl h1) h2
          | true =>
            rcases rel.ob i _ e with ⟨o, l, h1, h2⟩ | ⟨o, l, h1, h2⟩
            · exact go0 l (.inr ⟨o, h1⟩) h2
            · exact go l (.inr ⟨o, h1⟩) h2
        · exact f.elim
      · exact f.elim
    · exact f.elim
  · exact f.elim
end
end TL

set_option Elab.async false
set_option linter.all false
set_option maxRecDepth 100000
set_option maxHeartbeats 1000000
/-! TN1: a def that is never entered, is of truths. -/
namespace TL
open PySem PySem.Spec PyProof.Rows L2
/-- the fuel's end -/
theorem defOk_stuck {P : Program} {w : World} {K : PySem.W.Frag} {mg : Str → Option Value} {base : Heap} {k : Nat} {x qual : Str} {params : Arguments} {body : List Stmt} {scope : Scope} {fd : FuncData} {N ps : List Str}
    (F : FunD K x qual params body scope [] [] (He.ga K x) fd) (S : FnScope N ps scope)
    (hb : ∀ us : List Value, us.length = ps.length → ∀ (kV doc pm : Value) (an : Option Addr) (cdv ct : Value), bindArgs (PySem.W.fnOf x qual params body scope .none kV doc pm an cdv ct) ⟨us, []⟩ = pure (ps.zip us))
    (hm : mg x = some (.ref (He.ga K x))) : DefOk P w K mg base (k + 1) x ps (fun _ _ => .stuck) :=
  ⟨fd, F.ok S (fun vs H Q E h => by
    obtain ⟨m, S, xs, _, _, l, _⟩ := h
    exact l) (fun cdv A outer s H vs Q E hr hsp => by
    obtain ⟨m, S, xs, rel, rx, l, fin⟩ := hsp
    exact fin.elim), F.bindsN fun kV doc pm an cdv ct us hl => hb us hl kV doc pm an cdv ct, hm, F.kp⟩
/-- is True, is False -/
def isBG (g : Bool → Bool) : F2 := fun x y S => match x, y with
  | .bl a, .bl b => .ok (.bl (g (decide (a = b)))) S
  | _, _ => .stuck
abbrev isBV : F2 := isBG fun b => b
abbrev isnBV : F2 := isBG fun b => !b
theorem op2_isBG {K : PySem.W.Frag} {mg : Str → Option Value} (g : Bool → Bool) : Op2 K mg (isBG g) (fun x y H Q => ∃ a b : Bool, x = .bl a ∧ y = .bl b ∧ Q (.bl (g (decide (a = b)))) H) := by
  intro W σ m S H x y v u Q rel rx ry f
  unfold isBG at f
  cases x with
  | bl a =>
    cases y with
    | bl b => exact ⟨a, b, rx.2, ry.2, f.here rel ⟨rfl, rfl⟩⟩
    | _ => exact f.elim
  | _ => exact f.elim
end TL

set_option Elab.async false
set_option linter.all false
set_option maxRecDepth 100000
set_option maxHeartbeats 1000000
/-! TZ3: zip over three lists. -/
namespace TL
open PySem PySem.Spec PyProof.Rows L2
open PySem.Sem (wp)
abbrev IsTri (h : Heap) (T : Addr) (a b c : Value) : Prop := h.get? T = some { cls := .type "tuple", data := .seq #[a, b, c] }
theorem typeCall_zip_3 (a b c : Value) : checkTypeCall "zip" ⟨[a, b, c], []⟩ = pure () := by kernel_rfl
theorem newCall_zip_3 (a b c : Value) : checkBuiltinCall "zip.__new__" ⟨[.type "zip", a, b, c], []⟩ = pure () := by kernel_rfl
theorem args_object_init_4 (a b c d : Value) : argsOk "object.__init__" ⟨[a, b, c, d], []⟩ := by
  unfold argsOk; rw [signature?_of (id := "object.__init__") (n := ['_', '_', 't', 'i', 'n', 'i', '_', '_']) (o := ['t', 'c', 'e', 'j', 'b', 'o']) (by kernel_rfl) F.owner_object]; kernel_rfl
section
variable {prog : Program} {w : World} {A : Around} {E : Value → Shared → Prop} {s : Shared}
theorem wpAny_updateSeq_tri {T : Addr} {a b c x : Value} {k : Nat} {Q : Unit → Shared → Prop} (hT : IsTri s.heap T a b c)
    (h : ∀ h', h'.get? T = some { cls := .type "tuple", data := .seq ((#[a, b, c] : Array Value).setIfInBounds k x) } → Heap.SameBut T s.heap h' → Q () { s with heap := h' }) :
    wpAny (model prog w) A (updateSeq T (·.setIfInBounds k x)) Q E s := by
  refine wpAny_updateSeq hT rfl (h _ ?_ (Heap.SameBut.update ..))
  rw [Heap.get?_update_self _ hT rfl]
  simp [Obj.mapSeq]
/-- what a zip's iterator over three lists keeps; the six lie from I on -/
structure Zip3 (h : Heap) (I a b c : Nat) (k : Nat) : Prop where
  z : IsZip h (I + 5) (I + 3) (I + 4) .none
  p : IsTri h (I + 3) (.ref I) (.ref (I + 1)) (.ref (I + 2))
  r : ∃ x y u, IsTri h (I + 4) x y u
  i : h.IsListIter I a k
  j : h.IsListIter (I + 1) b k
  l : h.IsListIter (I + 2) c k
structure Lt3 (I a b c : Nat) : Prop where
  a : a < I
  b : b < I
  c : c < I
variable {I a b c : Nat} {k : Nat} {xs ys zs : Array Value}
theorem zip3_item {x y u : Value} {Q : Value → Shared → Prop} (D : Lt3 I a b c) (st : Zip3 s.heap I a b c k) (ha : s.heap.IsList a xs) (hb : s.heap.IsList b ys) (hc : s.heap.IsList c zs) (hx : xs[k]? = some x) (hy : ys[k]? = some y) (hu : zs[k]? = some u)
    (hQ : ∀ h', IsZip h' (I + 5) (I + 3) (I + 4) (rawInt s.heap.objs.size) → IsTri h' (I + 4) x y u → h'.IsListIter I a (k + 1) → h'.IsListIter (I + 1) b (k + 1) → h'.IsListIter (I + 2) c (k + 1) → IsTri h' s.heap.objs.size x y u → h'.objs.size = s.heap.objs.size + 1 →
      (∀ t o, t ≠ I + 5 → t ≠ I + 4 → t ≠ I → t ≠ I + 1 → t ≠ I + 2 → s.heap.get? t = some o → h'.get? t = some o) → Q (.ref s.heap.objs.size) { s with heap := h' }) :
    wpAny (model prog w) A (Builtin.«zip.__next__» ⟨[.ref (I + 5)], []⟩) (fun fin s' => ∃ v, fin = .done (.ret v) ∧ Q v s') E s := by
  obtain ⟨z0, p0, ⟨x0, y0, u0, r0⟩, i0, j0, l0⟩ := st
  obtain ⟨da, db, dc⟩ := D
  show wpAny _ _ (field (.ref (I + 5)) 2 >>= _) _ _ _
  refine wpAny_bind (wpAny_field z0 rfl (x := .bool false) rfl ?_)
  show wpAny _ _ (field (.ref (I + 5)) 3 >>= _) _ _ _
  refine wpAny_bind (wpAny_field z0 rfl (x := .ref (I + 3)) rfl (wpAny_bind (wpAny_seqItems p0 rfl ?_)))
  show wpAny _ _ (Builtin.SmallTypes.ownedTupleIsFree (.ref (I + 5)) >>= _) _ _ _
  unfold Builtin.SmallTypes.ownedTupleIsFree
  refine wpAny_bind (wpAny_bind (wpAny_field z0 rfl (x := .none) rfl (wpAny_pure ?_)))
  simp only [if_true]
  refine wpAny_bind (wpAny_rule (wpAny_bind (wpAny_field z0 rfl (x := .ref (I + 4)) rfl (wpAny_bind (wpAny_setField_rec z0 (by simp) fun ha1 z1' sb1 => ?_)))))
  have z1 : IsZip ha1 (I + 5) (I + 3) (I + 4) .ellipsis := z1'
  refine wpAny_bind ?_
  simp only [List.zipIdx_cons, List.zipIdx_nil, List.forIn_cons, List.forIn_nil]
  refine wpAny_bind (wpAny_bind (wpAny_onRaise ?_))
  show wpAny _ _ (Builtin.SmallTypes.nextOf (.ref I) >>= _) _ _ _
  refine wpAny_bind (wpAny_nextOf_list_item (i0.extBut sb1.extBut (PySem.W.neN (by omega))) (ha.extBut sb1.extBut (PySem.W.neN (by omega))) hx fun ha2 i2 sb2 => wpAny_pure ?_)
  have r2 : IsTri ha2 (I + 4) x0 y0 u0 := sb2.extBut _ _ (PySem.W.neN (by omega)) (sb1.extBut _ _ (PySem.W.neN (by omega)) r0)
  refine wpAny_bind (wpAny_seqItems r2 rfl (wpAny_bind (wpAny_updateSeq_tri r2 fun ha3 r3' sb3 => wpAny_bind (wpAny_letGo (wpAny_pure ?_)))))
  have r3 : IsTri ha3 (I + 4) x y0 u0 := r3'
  refine wpAny_bind (wpAny_bind (wpAny_onRaise ?_))
  show wpAny _ _ (Builtin.SmallTypes.nextOf (.ref (I + 1)) >>= _) _ _ _
  have j3 : ha3.IsListIter (I + 1) b k := ((j0.extBut sb1.extBut (PySem.W.neN (by omega))).extBut sb2.extBut (PySem.W.neN (by omega))).extBut sb3.extBut (PySem.W.neN (by omega))
  have b3 : ha3.IsList b ys := ((hb.extBut sb1.extBut (PySem.W.neN (by omega))).extBut sb2.extBut (PySem.W.neN (by omega))).extBut sb3.extBut (PySem.W.neN (by omega))
  refine wpAny_bind (wpAny_nextOf_list_item j3 b3 hy fun ha4 j4 sb4 => wpAny_pure ?_)
  have r4 : IsTri ha4 (I + 4) x y0 u0 := sb4.extBut _ _ (PySem.W.neN (by omega)) r3
  refine wpAny_bind (wpAny_seqItems r4 rfl (wpAny_bind (wpAny_updateSeq_tri r4 fun ha5 r5' sb5 => wpAny_bind (wpAny_letGo (wpAny_pure ?_)))))
  have r5 : IsTri ha5 (I + 4) x y u0 := r5'
  refine wpAny_bind (wpAny_bind (wpAny_onRaise ?_))
  show wpAny _ _ (Builtin.SmallTypes.nextOf (.ref (I + 2)) >>= _) _ _ _
  have l5 : ha5.IsListIter (I + 2) c k := ((((l0.extBut sb1.extBut (PySem.W.neN (by omega))).extBut sb2.extBut (PySem.W.neN (by omega))).extBut sb3.extBut (PySem.W.neN (by omega))).extBut sb4.extBut (PySem.W.neN (by omega))).extBut sb5.extBut (PySem.W.neN (by omega))
  have c5 : ha5.IsList c zs := ((((hc.extBut sb1.extBut (PySem.W.neN (by omega))).extBut sb2.extBut (PySem.W.neN (by omega))).extBut sb3.extBut (PySem.W.neN (by omega))).extBut sb4.extBut (PySem.W.neN (by omega))).extBut sb5.extBut (PySem.W.neN (by omega))
  refine wpAny_bind (wpAny_nextOf_list_item l5 c5 hu fun ha6 l6 sb6 => wpAny_pure ?_)
  have r6 : IsTri ha6 (I + 4) x y u0 := sb6.extBut _ _ (PySem.W.neN (by omega)) r5
  refine wpAny_bind (wpAny_seqItems r6 rfl (wpAny_bind (wpAny_updateSeq_tri r6 fun ha7 r7' sb7 => wpAny_bind (wpAny_letGo (wpAny_pure (wpAny_pure ?_))))))
  have r7 : IsTri ha7 (I + 4) x y u := r7'
  refine wpAny_bind (wpAny_seqItems r7 rfl (wpAny_bind (wpAny_newTuple ?_)))
  have size7 : ha7.objs.size = s.heap.objs.size := sb7.1.trans (sb6.1.trans (sb5.1.trans (sb4.1.trans (sb3.1.trans (sb2.1.trans sb1.1)))))
  have z7 : IsZip ha7 (I + 5) (I + 3) (I + 4) .ellipsis := sb7.extBut _ _ (PySem.W.neN (by omega)) (sb6.extBut _ _ (PySem.W.neN (by omega)) (sb5.extBut _ _ (PySem.W.neN (by omega)) (sb4.extBut _ _ (PySem.W.neN (by omega)) (sb3.extBut _ _ (PySem.W.neN (by omega)) (sb2.extBut _ _ (PySem.W.neN (by omega)) z1)))))
  have keep7 : ∀ t o, t ≠ I + 5 → t ≠ I + 4 → t ≠ I → t ≠ I + 1 → t ≠ I + 2 → s.heap.get? t = some o → ha7.get? t = some o := fun t o n1 n2 n3 n4 n5 q =>
    sb7.extBut _ _ n2 (sb6.extBut _ _ n5 (sb5.extBut _ _ n2 (sb4.extBut _ _ n4 (sb3.extBut _ _ n2 (sb2.extBut _ _ n3 (sb1.extBut _ _ n1 q))))))
  have i7 : ha7.IsListIter I a (k + 1) := ((((i2.extBut sb3.extBut (PySem.W.neN (by omega))).extBut sb4.extBut (PySem.W.neN (by omega))).extBut sb5.extBut (PySem.W.neN (by omega))).extBut sb6.extBut (PySem.W.neN (by omega))).extBut sb7.extBut (PySem.W.neN (by omega))
  have j7 : ha7.IsListIter (I + 1) b (k + 1) := ((j4.extBut sb5.extBut (PySem.W.neN (by omega))).extBut sb6.extBut (PySem.W.neN (by omega))).extBut sb7.extBut (PySem.W.neN (by omega))
  have l7 : ha7.IsListIter (I + 2) c (k + 1) := l6.extBut sb7.extBut (PySem.W.neN (by omega))
  have zlt : I + 5 < ha7.objs.size := Heap.lt_size z7
  show wpAny _ _ (Builtin.SmallTypes.ownedTupleHandOut (.ref (I + 5)) (.ref ha7.objs.size) >>= _) _ _ _
  unfold Builtin.SmallTypes.ownedTupleHandOut
  have z8 : IsZip (ha7.push { cls := .type "tuple", data := .seq #[x, y, u] }) (I + 5) (I + 3) (I + 4) .ellipsis := Heap.get?_push_of_some _ z7
  refine wpAny_bind (wpAny_bind (wpAny_setField_rec z8 (by simp) fun ha9 z9' sb9 => ?_))
  have z9 : IsZip ha9 (I + 5) (I + 3) (I + 4) (rawInt ha7.objs.size) := z9'
  refine wpAny_setField_rec z9 (by simp) fun ha10 z10' sb10 => ?_
  have z10 : IsZip ha10 (I + 5) (I + 3) (I + 4) (rawInt ha7.objs.size) := z10'
  have last : ∀ t o, t ≠ I + 5 → ha7.get? t = some o → ha10.get? t = some o := fun t o n q => sb10.extBut _ _ n (sb9.extBut _ _ n (Heap.get?_push_of_some _ q))
  have t10 : IsTri ha10 ha7.objs.size x y u := sb10.extBut _ _ (Nat.ne_of_gt zlt) (sb9.extBut _ _ (Nat.ne_of_gt zlt) (Heap.get?_push_size _ rfl))
  have size10 : ha10.objs.size = ha7.objs.size + 1 := by rw [sb10.1, sb9.1, Heap.size_push]
  rw [size7] at z10 t10 size10
  refine wpAny_pure ⟨_, rfl, ?_⟩
  show Q (.ref ha7.objs.size) _
  rw [size7]
  exact hQ ha10 z10 (last _ _ (PySem.W.neN (by omega)) r7) (i7.at fun o q => last _ o (PySem.W.neN (by omega)) q) (j7.at fun o q => last _ o (PySem.W.neN (by omega)) q) (l7.at fun o q => last _ o (PySem.W.neN (by omega)) q) t10 size10 fun t o n1 n2 n3 n4 n5 q => last t o n1 (keep7 t o n1 n2 n3 n4 n5 q)
theorem zip3_stop {Q : PySem.Fin → Shared → Prop} (hh : A.handled = none) (D : Lt3 I a b c) (st : Zip3 s.heap I a b c k) (ha : s.heap.IsList a xs) (hb : s.heap.IsList b ys) (hc : s.heap.IsList c zs) (hend : xs[k]? = none ∨ ys[k]? = none ∨ zs[k]? = none)
    (hE : ∀ h' x, (∀ t o, t ≠ I + 5 → t ≠ I + 4 → t ≠ I → t ≠ I + 1 → t ≠ I + 2 → s.heap.get? t = some o → h'.get? t = some o) → (∃ o, h'.get? x = some o ∧ o.cls = .type "StopIteration") → E (.ref x) { s with heap := h' }) :
    wpAny (model prog w) A (Builtin.«zip.__next__» ⟨[.ref (I + 5)], []⟩) Q E s := by
  obtain ⟨z0, p0, ⟨x0, y0, u0, r0⟩, i0, j0, l0⟩ := st
  obtain ⟨da, db, dc⟩ := D
  show wpAny _ _ (field (.ref (I + 5)) 2 >>= _) _ _ _
  refine wpAny_bind (wpAny_field z0 rfl (x := .bool false) rfl ?_)
  show wpAny _ _ (field (.ref (I + 5)) 3 >>= _) _ _ _
  refine wpAny_bind (wpAny_field z0 rfl (x := .ref (I + 3)) rfl (wpAny_bind (wpAny_seqItems p0 rfl ?_)))
  show wpAny _ _ (Builtin.SmallTypes.ownedTupleIsFree (.ref (I + 5)) >>= _) _ _ _
  unfold Builtin.SmallTypes.ownedTupleIsFree
  refine wpAny_bind (wpAny_bind (wpAny_field z0 rfl (x := .none) rfl (wpAny_pure ?_)))
  simp only [if_true]
  refine wpAny_bind (wpAny_rule (wpAny_bind (wpAny_field z0 rfl (x := .ref (I + 4)) rfl (wpAny_bind (wpAny_setField_rec z0 (by simp) fun ha1 z1' sb1 => ?_)))))
  have z1 : IsZip ha1 (I + 5) (I + 3) (I + 4) .ellipsis := z1'
  refine wpAny_bind ?_
  simp only [List.zipIdx_cons, List.zipIdx_nil, List.forIn_cons, List.forIn_nil]
  refine wpAny_bind (wpAny_bind (wpAny_onRaise ?_))
  show wpAny _ _ (Builtin.SmallTypes.nextOf (.ref I) >>= _) _ _ _
  cases hx : xs[k]? with
  | none =>
    refine wpAny_bind (wpAny_nextOf_list_end hh (i0.extBut sb1.extBut (PySem.W.neN (by omega))) (ha.extBut sb1.extBut (PySem.W.neN (by omega))) hx fun ha2 x sb2 hs => ?_)
    obtain ⟨ox, hox, hcx⟩ := hs
    have z2 : IsZip ha2 (I + 5) (I + 3) (I + 4) .ellipsis := sb2 _ _ (PySem.W.neN (by omega)) z1
    have nz : x ≠ I + 5 := fun q => by
      rw [q, z2] at hox
      cases hox
      simp at hcx
    exact wpAny_setField_rec z2 (by simp) fun ha3 _ sb3 => hE ha3 x (fun t o n1 _ n3 _ _ q => sb3.extBut _ _ n1 (sb2 _ _ n3 (sb1.extBut _ _ n1 q))) ⟨ox, sb3.extBut _ _ nz hox, hcx⟩
  | some x =>
    refine wpAny_bind (wpAny_nextOf_list_item (i0.extBut sb1.extBut (PySem.W.neN (by omega))) (ha.extBut sb1.extBut (PySem.W.neN (by omega))) hx fun ha2 i2 sb2 => wpAny_pure ?_)
    have r2 : IsTri ha2 (I + 4) x0 y0 u0 := sb2.extBut _ _ (PySem.W.neN (by omega)) (sb1.extBut _ _ (PySem.W.neN (by omega)) r0)
    refine wpAny_bind (wpAny_seqItems r2 rfl (wpAny_bind (wpAny_updateSeq_tri r2 fun ha3 r3' sb3 => wpAny_bind (wpAny_letGo (wpAny_pure ?_)))))
    have r3 : IsTri ha3 (I + 4) x y0 u0 := r3'
    refine wpAny_bind (wpAny_bind (wpAny_onRaise ?_))
    show wpAny _ _ (Builtin.SmallTypes.nextOf (.ref (I + 1)) >>= _) _ _ _
    have j3 : ha3.IsListIter (I + 1) b k := ((j0.extBut sb1.extBut (PySem.W.neN (by omega))).extBut sb2.extBut (PySem.W.neN (by omega))).extBut sb3.extBut (PySem.W.neN (by omega))
    have b3 : ha3.IsList b ys := ((hb.extBut sb1.extBut (PySem.W.neN (by omega))).extBut sb2.extBut (PySem.W.neN (by omega))).extBut sb3.extBut (PySem.W.neN (by omega))
    have z3 : IsZip ha3 (I + 5) (I + 3) (I + 4) .ellipsis := sb3.extBut _ _ (PySem.W.neN (by omega)) (sb2.extBut _ _ (PySem.W.neN (by omega)) z1)
    cases hy : ys[k]? with
    | none =>
      refine wpAny_bind (wpAny_nextOf_list_end hh j3 b3 hy fun ha4 e sb4 hs => ?_)
      obtain ⟨ox, hox, hcx⟩ := hs
      have z4 : IsZip ha4 (I + 5) (I + 3) (I + 4) .ellipsis := sb4 _ _ (PySem.W.neN (by omega)) z3
      have nz : e ≠ I + 5 := fun q => by
        rw [q, z4] at hox
        cases hox
        simp at hcx
      exact wpAny_setField_rec z4 (by simp) fun ha5 _ sb5 => hE ha5 e (fun t o n1 n2 n3 n4 _ q => sb5.extBut _ _ n1 (sb4 _ _ n4 (sb3.extBut _ _ n2 (sb2.extBut _ _ n3 (sb1.extBut _ _ n1 q))))) ⟨ox, sb5.extBut _ _ nz hox, hcx⟩
    | some y =>
      have hu : zs[k]? = none := (hend.resolve_left (by rw [hx]; exact fun q => nomatch q)).resolve_left (by rw [hy]; exact fun q => nomatch q)
      refine wpAny_bind (wpAny_nextOf_list_item j3 b3 hy fun ha4 j4 sb4 => wpAny_pure ?_)
      have r4 : IsTri ha4 (I + 4) x y0 u0 := sb4.extBut _ _ (PySem.W.neN (by omega)) r3
      refine wpAny_bind (wpAny_seqItems r4 rfl (wpAny_bind (wpAny_updateSeq_tri r4 fun ha5 r5' sb5 => wpAny_bind (wpAny_letGo (wpAny_pure ?_)))))
      refine wpAny_bind (wpAny_bind (wpAny_onRaise ?_))
      show wpAny _ _ (Builtin.SmallTypes.nextOf (.ref (I + 2)) >>= _) _ _ _
      have l5 : ha5.IsListIter (I + 2) c k := ((((l0.extBut sb1.extBut (PySem.W.neN (by omega))).extBut sb2.extBut (PySem.W.neN (by omega))).extBut sb3.extBut (PySem.W.neN (by omega))).extBut sb4.extBut (PySem.W.neN (by omega))).extBut sb5.extBut (PySem.W.neN (by omega))
      have c5 : ha5.IsList c zs := ((((hc.extBut sb1.extBut (PySem.W.neN (by omega))).extBut sb2.extBut (PySem.W.neN (by omega))).extBut sb3.extBut (PySem.W.neN (by omega))).extBut sb4.extBut (PySem.W.neN (by omega))).extBut sb5.extBut (PySem.W.neN (by omega))
      have z5 : IsZip ha5 (I + 5) (I + 3) (I + 4) .ellipsis := sb5.extBut _ _ (PySem.W.neN (by omega)) (sb4.extBut _ _ (PySem.W.neN (by omega)) z3)
      refine wpAny_bind (wpAny_nextOf_list_end hh l5 c5 hu fun ha6 e sb6 hs => ?_)
      obtain ⟨ox, hox, hcx⟩ := hs
      have z6 : IsZip ha6 (I + 5) (I + 3) (I + 4) .ellipsis := sb6 _ _ (PySem.W.neN (by omega)) z5
      have nz : e ≠ I + 5 := fun q => by
        rw [q, z6] at hox
        cases hox
        simp at hcx
      exact wpAny_setField_rec z6 (by simp) fun ha7 _ sb7 => hE ha7 e (fun t o n1 n2 n3 n4 n5 q => sb7.extBut _ _ n1 (sb6 _ _ n5 (sb5.extBut _ _ n2 (sb4.extBut _ _ n4 (sb3.extBut _ _ n2 (sb2.extBut _ _ n3 (sb1.extBut _ _ n1 q))))))) ⟨ox, sb7.extBut _ _ nz hox, hcx⟩
theorem next3_item {x y u : Value} {Q : Option Value → Shared → Prop} (D : Lt3 I a b c) (st : Zip3 s.heap I a b c k) (ha : s.heap.IsList a xs) (hb : s.heap.IsList b ys) (hc : s.heap.IsList c zs) (hx : xs[k]? = some x) (hy : ys[k]? = some y) (hu : zs[k]? = some u)
    (hQ : ∀ h', IsZip h' (I + 5) (I + 3) (I + 4) (rawInt s.heap.objs.size) → IsTri h' (I + 4) x y u → h'.IsListIter I a (k + 1) → h'.IsListIter (I + 1) b (k + 1) → h'.IsListIter (I + 2) c (k + 1) → IsTri h' s.heap.objs.size x y u → h'.objs.size = s.heap.objs.size + 1 →
      (∀ t o, t ≠ I + 5 → t ≠ I + 4 → t ≠ I → t ≠ I + 1 → t ≠ I + 2 → s.heap.get? t = some o → h'.get? t = some o) → Q (some (.ref s.heap.objs.size)) { s with heap := h' }) :
    wpAny (model prog w) A (pyNext (.ref (I + 5))) Q E s := by
  have ty : s.TypeIs (.ref (I + 5)) "zip" := ⟨_, st.z, rfl⟩
  unfold pyNext
  exact wpAny_bind (wpAny_attempt (wpAny_callSpecial?_slot (name := Str.ofString "__next__") ty F.slot_zip_next
    (wpAny_call_entry F.slot_zip_next ty F.entry_zip_next
      (zip3_item D st ha hb hc hx hy hu fun h' q1 q2 q3 q4 q5 q6 q7 q8 => wpAny_pure (hQ h' q1 q2 q3 q4 q5 q6 q7 q8)) (F.args_zip_next_1 _))))
theorem next3_stop {Q : Option Value → Shared → Prop} (hh : A.handled = none) (D : Lt3 I a b c) (st : Zip3 s.heap I a b c k) (ha : s.heap.IsList a xs) (hb : s.heap.IsList b ys) (hc : s.heap.IsList c zs) (hend : xs[k]? = none ∨ ys[k]? = none ∨ zs[k]? = none)
    (hQ : ∀ h', (∀ t o, t ≠ I + 5 → t ≠ I + 4 → t ≠ I → t ≠ I + 1 → t ≠ I + 2 → s.heap.get? t = some o → h'.get? t = some o) → Q none { s with heap := h' }) : wpAny (model prog w) A (pyNext (.ref (I + 5))) Q E s := by
  have ty : s.TypeIs (.ref (I + 5)) "zip" := ⟨_, st.z, rfl⟩
  unfold pyNext
  refine wpAny_bind (wpAny_attempt (wpAny_callSpecial?_slot (name := Str.ofString "__next__") ty F.slot_zip_next
    (wpAny_call_entry F.slot_zip_next ty F.entry_zip_next (zip3_stop hh D st ha hb hc hend fun h' x keep hs => ?_) (F.args_zip_next_1 _))))
  obtain ⟨o, ho, hc⟩ := hs
  refine wpAny_bind (wpAny_isInstance (T := "StopIteration") (b := true) ⟨o, ho, hc⟩ isSubtype_stop ?_)
  exact wpAny_pure (hQ _ keep)
end
/-- the heap behind zip(a, b, c), object by object -/
abbrev tH1 (h : Heap) (a : Addr) : Heap := h.push { cls := .type "list_iterator", data := .fields #[.ref a, .int 0 0] }
abbrev tH2 (h : Heap) (a b : Addr) : Heap := (tH1 h a).push { cls := .type "list_iterator", data := .fields #[.ref b, .int 0 0] }
abbrev tH3 (h : Heap) (a b c : Addr) : Heap := (tH2 h a b).push { cls := .type "list_iterator", data := .fields #[.ref c, .int 0 0] }
abbrev tH4 (h : Heap) (a b c : Addr) : Heap := (tH3 h a b c).push { cls := .type "tuple", data := .seq #[.ref h.objs.size, .ref (tH1 h a).objs.size, .ref (tH2 h a b).objs.size] }
abbrev tH5 (h : Heap) (a b c : Addr) : Heap := (tH4 h a b c).push { cls := .type "tuple", data := .seq #[.none, .none, .none] }
abbrev tH6 (h : Heap) (a b c : Addr) : Heap := (tH5 h a b c).push { cls := .type "zip", data := .fields #[.none, .bool false, .bool false, .ref (tH3 h a b c).objs.size, .ref (tH4 h a b c).objs.size] }
theorem zip3_meets (a b c : Addr) (xs ys zs : Array Value) :
    Meets (Builtin.«zip.__new__» ⟨[.type "zip", .ref a, .ref b, .ref c], []⟩) (fun _ R s => s.heap.IsList a xs ∧ s.heap.IsList b ys ∧ s.heap.IsList c zs ∧ R (.ok (.ret (.ref (tH5 s.heap a b c).objs.size))) { s with heap := tH6 s.heap a b c }) :=
  .of_wp fun prog w A R s h => by
    obtain ⟨hp, g, dd, tk, os⟩ := s
    obtain ⟨ha, hb, hc, h⟩ := h
    have sz := sub_zip
    have ha' : (Shared.heap ⟨hp, g, dd, tk, os⟩).IsList a xs := ha
    have hb' : (Shared.heap ⟨hp.push { cls := .type "list_iterator", data := .fields #[.ref a, .int 0 0] }, g, dd, tk, os⟩).IsList b ys := Heap.IsList.push hb _
    have hc' : (Shared.heap ⟨(hp.push { cls := .type "list_iterator", data := .fields #[.ref a, .int 0 0] }).push { cls := .type "list_iterator", data := .fields #[.ref b, .int 0 0] }, g, dd, tk, os⟩).IsList c zs := Heap.IsList.push (Heap.IsList.push hc _) _
    wp_walk using wpAny_pyIter_list ha', wpAny_pyIter_list hb', wpAny_pyIter_list hc'
    exact ⟨_, rfl, h⟩
end TL

set_option Elab.async false
set_option linter.all false
set_option maxRecDepth 100000
set_option maxHeartbeats 1000000
/-! TZ4: zip over three lists, as a walk. -/
namespace TL
open PySem PySem.Spec PyProof.Rows L2
theorem newLIt {h : Heap} {it : Addr} {l : Addr} (e : h.get? it = some { cls := .type "list_iterator", data := .fields #[.ref l, .int 0 0] }) : h.IsListIter it l 0 := ⟨_, e, rfl, rfl⟩
theorem call_zip3 {prog : Program} {w : World} {A : Around} {E : Value → Shared → Prop} {s : Shared} {a b c : Nat} {xs ys zs : Array Value} {Q : Value → Shared → Prop} (ha : s.heap.IsList a xs) (hb : s.heap.IsList b ys) (hc : s.heap.IsList c zs)
    (h : ∀ h', Zip3 h' s.heap.objs.size a b c 0 → (∀ t o, s.heap.get? t = some o → h'.get? t = some o) → Q (.ref (s.heap.objs.size + 5)) { s with heap := h' }) :
    wpAny (model prog w) A (call (.type "zip") [.ref a, .ref b, .ref c]) Q E s := by
  refine callType_new F.called_zip (by decide) (typeCall_zip_3 _ _ _) (newCall_zip_3 _ _ _) (fun obj => args_object_init_4 obj _ _ _) F.entry_zip_new (zip3_meets a b c xs ys zs) ⟨ha, hb, hc, ?_⟩
  have n1 : (tH1 s.heap a).objs.size = s.heap.objs.size + 1 := Heap.size_push ..
  have n2 : (tH2 s.heap a b).objs.size = s.heap.objs.size + 2 := by rw [Heap.size_push, n1]
  have n3 : (tH3 s.heap a b c).objs.size = s.heap.objs.size + 3 := by rw [Heap.size_push, n2]
  have n4 : (tH4 s.heap a b c).objs.size = s.heap.objs.size + 4 := by rw [Heap.size_push, n3]
  have n5 : (tH5 s.heap a b c).objs.size = s.heap.objs.size + 5 := by rw [Heap.size_push, n4]
  have z6 : (tH6 s.heap a b c).get? (tH5 s.heap a b c).objs.size = some _ := Heap.get?_push_size _ rfl
  have z5 : (tH6 s.heap a b c).get? (tH4 s.heap a b c).objs.size = some _ := Heap.get?_push_of_some _ (Heap.get?_push_size _ rfl)
  have z4 : (tH6 s.heap a b c).get? (tH3 s.heap a b c).objs.size = some _ := Heap.get?_push_of_some _ (Heap.get?_push_of_some _ (Heap.get?_push_size _ rfl))
  have z3 : (tH6 s.heap a b c).get? (tH2 s.heap a b).objs.size = some _ := Heap.get?_push_of_some _ (Heap.get?_push_of_some _ (Heap.get?_push_of_some _ (Heap.get?_push_size _ rfl)))
  have z2 : (tH6 s.heap a b c).get? (tH1 s.heap a).objs.size = some _ := Heap.get?_push_of_some _ (Heap.get?_push_of_some _ (Heap.get?_push_of_some _ (Heap.get?_push_of_some _ (Heap.get?_push_size _ rfl))))
  have z1 : (tH6 s.heap a b c).get? s.heap.objs.size = some _ := Heap.get?_push_of_some _ (Heap.get?_push_of_some _ (Heap.get?_push_of_some _ (Heap.get?_push_of_some _ (Heap.get?_push_of_some _ (Heap.get?_push_size _ rfl)))))
  show _ ∧ _
  rw [n3, n4, n5] at z6
  rw [n1, n2, n3] at z4
  rw [n4] at z5
  rw [n2] at z3
  rw [n1] at z2
  rw [n5]
  refine ⟨⟨_, z6, rfl⟩, h _ ⟨z6, z4, ⟨_, _, _, z5⟩, newLIt z1, newLIt z2, newLIt z3⟩ fun t o q => ?_⟩
  exact Heap.get?_push_of_some _ (Heap.get?_push_of_some _ (Heap.get?_push_of_some _ (Heap.get?_push_of_some _ (Heap.get?_push_of_some _ (Heap.get?_push_of_some _ q)))))
/-- the three as they stand at each turn, the items in new triples -/
def Itz3 (K : PySem.W.Frag) (a b c : Addr) : L2.It :=
  ⟨fun i H => ∃ (xs ys zs : List V) (x y z : V), SqL K H a xs ∧ SqL K H b ys ∧ SqL K H c zs ∧ xs[i]? = some x ∧ ys[i]? = some y ∧ zs[i]? = some z,
    fun i H v H' => ∃ T x y z, v = .ref T ∧ H T = none ∧ H' = upd H T (.tup [x, y, z]) ∧ (∀ xs, SqL K H a xs → xs[i]? = some x) ∧ (∀ ys, SqL K H b ys → ys[i]? = some y) ∧ ∀ zs, SqL K H c zs → zs[i]? = some z,
    fun i H => ∃ xs ys zs : List V, SqL K H a xs ∧ SqL K H b ys ∧ SqL K H c zs ∧ (xs.length ≤ i ∨ ys.length ≤ i ∨ zs.length ≤ i)⟩
theorem turn_zip3 {P : Program} {w : World} {K : PySem.W.Frag} {elts : List Expr} {kk : Nat} {tpos : Pos} {I a b c : Nat} (D : Lt3 I a b c) :
    Turn P w K (.Tuple elts kk tpos) (Itz3 K a b c) [I + 5, I + 3, I + 4, I, I + 1, I + 2] (I + 5) (fun k h => Zip3 h I a b c k) where
  mem := List.mem_cons_self ..
  obj := fun k h st t ht => by
    obtain ⟨z0, p0, ⟨x0, y0, u0, r0⟩, i0, j0, l0⟩ := st
    have lo : ∀ {it l : Addr} {n : Nat}, h.IsListIter it l n → ∃ o, h.get? it = some o ∧ ∀ v, o.data ≠ .cell v := fun x => by
      obtain ⟨o, e, _, q⟩ := x
      exact ⟨o, e, fun v z => by rw [q] at z; cases z⟩
    have ht' : t = I + 5 ∨ t = I + 3 ∨ t = I + 4 ∨ t = I ∨ t = I + 1 ∨ t = I + 2 := by simpa using ht
    rcases ht' with q | q | q | q | q | q
    · rw [q]; exact ⟨_, z0, fun v q => nomatch q⟩
    · rw [q]; exact ⟨_, p0, fun v q => nomatch q⟩
    · rw [q]; exact ⟨_, r0, fun v q => nomatch q⟩
    · rw [q]; exact lo i0
    · rw [q]; exact lo j0
    · rw [q]; exact lo l0
  keep := fun k h h' st kp => by
    obtain ⟨z0, p0, ⟨x0, y0, u0, r0⟩, i0, j0, l0⟩ := st
    exact ⟨kp (I + 5) (by simp) _ z0, kp (I + 3) (by simp) _ p0, ⟨x0, y0, u0, kp (I + 4) (by simp) _ r0⟩, i0.at fun o q => kp I (by simp) o q, j0.at fun o q => kp (I + 1) (by simp) o q, l0.at fun o q => kp (I + 2) (by simp) o q⟩
  item := by
    intro X hP hw hK hc k pins s σ H E I0 hf st hg
    subst hP hw hK
    obtain ⟨xs, ys, zs, x, y, z, vx, vy, vz, hx, hy, hz⟩ := hg
    obtain ⟨us, ru, qu, _⟩ := I0.list vx
    obtain ⟨ws, rw', qw, _⟩ := I0.list vy
    obtain ⟨ts, rt, qt, _⟩ := I0.list vz
    obtain ⟨u, hu, r1⟩ := ru.get hx
    obtain ⟨u2, hu2, r2⟩ := rw'.get hy
    obtain ⟨u3, hu3, r3⟩ := rt.get hz
    have lt : ∀ t, t ∈ [I + 5, I + 3, I + 4, I, I + 1, I + 2] → t < s.heap.objs.size := fun t ht => by
      have h5 : I + 5 < s.heap.objs.size := Heap.lt_size st.z
      have ht' : t = I + 5 ∨ t = I + 3 ∨ t = I + 4 ∨ t = I ∨ t = I + 1 ∨ t = I + 2 := by simpa using ht
      rcases ht' with q | q | q | q | q | q <;> omega
    have zlt := lt (I + 5) (by simp)
    refine next3_item D st qu.isList qw.isList qt.isList (x := u) (y := u2) (u := u3) (by simpa using hu) (by simpa using hu2) (by simpa using hu3) fun h' z1 rr i1 j1 l1 new _ keep => ?_
    refine ⟨_, rfl, wpAny_letOwnedTupleGo_zip (s := { s with heap := h' }) z1 fun h2 z2 sb => ?_⟩
    have new2 : h2.get? s.heap.objs.size = some { cls := .type "tuple", data := .seq #[u, u2, u3] } := (sb.2 _ (Nat.ne_of_gt zlt)).trans new
    have ok : ObjOk X.prog X.w (upd H s.heap.objs.size (.tup [x, y, z])) h2 s.heap.objs.size (.tup [x, y, z]) :=
      ⟨by show 3 ≤ sizeLine; decide, [u, u2, u3], .cons r1 (.cons r2 (.cons r3 .nil)), ⟨_, new2, rfl, _, rfl⟩⟩
    have I1 : Inv X pins σ (upd H s.heap.objs.size (.tup [x, y, z])) { s with heap := h2 } :=
      I0.turnedNew (t' := s.toks) (ch := [I + 5, I + 3, I + 4, I, I + 1, I + 2]) (fun t o no q => by
        have no' : t ≠ I + 5 ∧ t ≠ I + 3 ∧ t ≠ I + 4 ∧ t ≠ I ∧ t ≠ I + 1 ∧ t ≠ I + 2 := by simpa using no
        exact (sb.2 t no'.1).trans (keep t o no'.1 no'.2.2.1 no'.2.2.2.1 no'.2.2.2.2.1 no'.2.2.2.2.2 q)) hf (Nat.le_refl _) ok
    refine ⟨.ref s.heap.objs.size, _, I1, rfl, ⟨_, x, y, z, rfl, I0.hok.fresh (Nat.le_refl _), rfl, fun l hl => by rw [I0.list_inj hl vx]; exact hx, fun l hl => by rw [I0.list_inj hl vy]; exact hy, fun l hl => by rw [I0.list_inj hl vz]; exact hz⟩, ⟨z2, ?_, ⟨u, u2, u3, ?_⟩, ?_, ?_, ?_⟩, fun t ht => ?_⟩
    · exact (sb.2 _ (PySem.W.neN (by omega))).trans (keep _ _ (PySem.W.neN (by omega)) (PySem.W.neN (by omega)) (PySem.W.neN (by omega)) (PySem.W.neN (by omega)) (PySem.W.neN (by omega)) st.p)
    · exact (sb.2 _ (PySem.W.neN (by omega))).trans rr
    · exact i1.at fun o q => (sb.2 _ (PySem.W.neN (by omega))).trans q
    · exact j1.at fun o q => (sb.2 _ (PySem.W.neN (by omega))).trans q
    · exact l1.at fun o q => (sb.2 _ (PySem.W.neN (by omega))).trans q
    · rw [upd_ne (Nat.ne_of_lt (lt t ht))]
      exact (hf t ht).1
  done := by
    intro X hP hw hK hc k pins s σ H E I0 hf st hg
    subst hP hw hK
    obtain ⟨xs, ys, zs, vx, vy, vz, hend⟩ := hg
    obtain ⟨us, ru, qu, _⟩ := I0.list vx
    obtain ⟨ws, rw', qw, _⟩ := I0.list vy
    obtain ⟨ts, rt, qt, _⟩ := I0.list vz
    have n1 := ru.length
    have n2 := rw'.length
    have n3 := rt.length
    have he : us.toArray[k]? = none ∨ ws.toArray[k]? = none ∨ ts.toArray[k]? = none := by
      rcases hend with q | q | q
      · exact .inl (by simp; omega)
      · exact .inr (.inl (by simp; omega))
      · exact .inr (.inr (by simp; omega))
    exact next3_stop (I0.ok.hd hc) D st qu.isList qw.isList qt.isList he fun h' keep => ⟨rfl, I0.turnedL (t' := s.toks) (ch := [I + 5, I + 3, I + 4, I, I + 1, I + 2]) (fun t o no q => by
      have no' : t ≠ I + 5 ∧ t ≠ I + 3 ∧ t ≠ I + 4 ∧ t ≠ I ∧ t ≠ I + 1 ∧ t ≠ I + 2 := by simpa using no
      exact keep t o no'.1 no'.2.2.1 no'.2.2.2.1 no'.2.2.2.2.1 no'.2.2.2.2.2 q) hf⟩
  self := fun A i s Q E st h => wpAny_pyIter_zip st.z h
def tZip3 (K : PySem.W.Frag) (ta : TA) : TI := fun σ H R => ta σ H fun vs H1 => ∃ (a b c : Addr) (xs ys zs : List V), vs = [.ref a, .ref b, .ref c] ∧ SqL K H1 a xs ∧ SqL K H1 b ys ∧ SqL K H1 c zs ∧ R (Itz3 K a b c) H1
theorem pi_zip3 {X : Cx} {e1 e2 e3 : Expr} {ta : TA} {p pos tpos : Pos} {elts : List Expr} {kk : Nat} (hg : Gl X "zip") (hm : X.mg "zip" = none) (ha : PA X [e1, e2, e3] ta)
    (hs : starEach [e1, e2, e3] X.env = (false, eval e1 X.env) :: starEach [e2, e3] X.env := by rfl) (hpl : (backTo pos (starEach [e2, e3] X.env)).any (·.1) = false := by rfl) :
    PI X (.Tuple elts kk tpos) (.Call (.Name "zip" p) [e1, e2, e3] [] pos) (tZip3 X.K ta) := by
  refine ⟨fun pins s σ H R I h => ?_⟩
  refine Call_ (ld_blt I hg hm PyProof.Rows.boot_zip (PyProof.Rows.callWith_type1 (thn (ha.run pos pins s σ H _ I h) fun us s1 ⟨vs, H1, I1, r1, q1⟩ => ?_) hs hpl))
  obtain ⟨a, b, c, xs, ys, zs, ex, vx, vy, vz, q⟩ := q1
  subst ex
  cases r1 with
  | cons ra rr =>
    cases rr with
    | cons rb rr =>
      cases rr with
      | cons rc rr =>
        cases rr
        cases ra
        cases rb
        cases rc
        obtain ⟨ws, _, qa, _⟩ := I1.list vx
        obtain ⟨ws2, _, qb, _⟩ := I1.list vy
        obtain ⟨ws3, _, qc, _⟩ := I1.list vz
        have lt : ∀ {t : Addr} {v : Array Value}, s1.heap.IsList t v → t < s1.heap.objs.size := fun x => by
          obtain ⟨o, e, _⟩ := x
          exact Heap.lt_size e
        refine call_zip3 qa.isList qb.isList qc.isList fun h' st keep => wpAny_pyIter_zip st.z ?_
        refine ⟨s1.heap.objs.size + 5, [s1.heap.objs.size + 5, s1.heap.objs.size + 3, s1.heap.objs.size + 4, s1.heap.objs.size, s1.heap.objs.size + 1, s1.heap.objs.size + 2], _, _, H1, rfl, I1.kept (t' := s1.toks) keep, turn_zip3 ⟨lt qa.isList, lt qb.isList, lt qc.isList⟩, st, fun t ht => ?_, q⟩
        have hle : s1.heap.objs.size ≤ t := by
          have ht' : t = s1.heap.objs.size + 5 ∨ t = s1.heap.objs.size + 3 ∨ t = s1.heap.objs.size + 4 ∨ t = s1.heap.objs.size ∨ t = s1.heap.objs.size + 1 ∨ t = s1.heap.objs.size + 2 := by simpa using ht
          rcases ht' with q | q | q | q | q | q <;> rw [q] <;> first | exact Nat.le_add_right _ _ | exact Nat.le_refl _
        exact I1.fpOk hle (I1.hok.fresh hle)
/-! ### in the store: three lists of the store -/
def zip3P (xs ys zs : List PV) : List PV := ((xs.zip ys).zip zs).map fun p => .tup [p.1.1, p.1.2, p.2]
theorem zip3P_len (xs ys zs : List PV) : (zip3P xs ys zs).length = min (min xs.length ys.length) zs.length := by unfold zip3P; simp
theorem zip3P_get {xs ys zs : List PV} {i : Nat} {x y z : PV} (h1 : xs[i]? = some x) (h2 : ys[i]? = some y) (h3 : zs[i]? = some z) : (zip3P xs ys zs)[i]? = some (.tup [x, y, z]) := by
  unfold zip3P
  rw [List.getElem?_map, (List.getElem?_zip_eq_some (z := ((x, y), z))).mpr ⟨(List.getElem?_zip_eq_some (z := (x, y))).mpr ⟨h1, h2⟩, h3⟩]
  rfl
def iZip3 (ca cb cc : CE PV) : CE (List PV × Chk) := fun ρ S => (ca ρ S).bind fun x S1 => (cb ρ S1).bind fun y S2 => (cc ρ S2).bind fun z S3 => match x, y, z with
  | .obj i, .obj j, .obj k => match S3[i]?, S3[j]?, S3[k]? with
    | some (.lst xs), some (.lst ys), some (.lst zs) => .ok (zip3P xs ys zs, [(i, .lst xs), (j, .lst ys), (k, .lst zs)]) S3
    | _, _, _ => .stuck
  | _, _, _ => .stuck
section
variable {X : Cx} {W : WX} {p pos tpos : Pos} {a b c : Expr} {ca cb cc : CE PV} {elts : List Expr} {kk : Nat}
theorem di_zip3 (hm : X.mg "zip" = none) (ha : DE X W a ca) (hb : DE X W b cb) (hc : DE X W c cc) (hg : Gl X "zip" := by rfl) (hs : starEach [a, b, c] X.env = (false, eval a X.env) :: starEach [b, c] X.env := by rfl) (hs2 : starEach [b, c] X.env = (false, eval b X.env) :: starEach [c] X.env := by rfl) (hs3 : starEach [c] X.env = (false, eval c X.env) :: starEach [] X.env := by rfl)
    (hpl : (backTo pos (starEach [b, c] X.env)).any (·.1) = false := by rfl) : DI X W (.Tuple elts kk tpos) (.Call (.Name "zip" p) [a, b, c] [] pos) (iZip3 ca cb cc) := by
  refine pi_imp (pi_zip3 hg hm (pa_cons ha (pa_cons hb (pa_cons hc pa_nil hs3) hs2) hs) hs hpl) fun σ H R h => ?_
  obtain ⟨m, S, ρ, at_, fin⟩ := h
  refine ⟨m, S, ρ, at_, (Fin.bind at_ fin).mono fun v H1 h1 => ?_⟩
  obtain ⟨m1, S1, x, at1, r1, e1, l1, f1⟩ := h1
  refine ⟨m1, S1, ρ, at1, (Fin.bind at1 f1).mono fun u H2 h2 => ?_⟩
  obtain ⟨m2, S2, y, at2, r2, e2, l2, f2⟩ := h2
  refine ⟨m2, S2, ρ, at2, (Fin.bind at2 f2).mono fun t H3 h3 => ?_⟩
  obtain ⟨m3, S3, z, at3, r3, e3, l3, f3⟩ := h3
  have rx := stbV e3 l3 (stbV e2 l2 r1)
  have ry := stbV e3 l3 r2
  dsimp only at f3
  cases x with
  | obj i =>
    cases y with
    | obj j =>
      cases z with
      | obj k =>
        have ex : v = .ref (m3 i) := rx.2
        have ey : u = .ref (m3 j) := ry.2
        have ez : t = .ref (m3 k) := r3.2
        subst ex ey ez
        simp only at f3
        split at f3
        · rename_i xs ys zs ei ej ek
          have hi := (List.getElem?_eq_some_iff.mp ei).1
          have hj := (List.getElem?_eq_some_iff.mp ej).1
          have hk := (List.getElem?_eq_some_iff.mp ek).1
          obtain ⟨bx, us, u1, u2⟩ := at3.rel.lst ei
          obtain ⟨by_, ws, w1, w2⟩ := at3.rel.lst ej
          obtain ⟨bz, ts, t1, t2⟩ := at3.rel.lst ek
          refine ⟨_, _, _, us, ws, ts, rfl, SqL.of u1, SqL.of w1, SqL.of t1, f3.here at3.rel ?_⟩
          have at' : ∀ (m' : Mp) (S' : Store) (H' : Hp), Ext X.K S3.length m3 H3 m' H' → S3.length ≤ S'.length → Rel X.K X.mg m' S' H' → chk [(i, PO.lst xs), (j, .lst ys), (k, .lst zs)] S' →
              ∃ us ws ts : List V, (SqL X.K H' (m3 i) us ∧ Rps X.K m' H' xs us ∧ bnds S'.length xs = true) ∧ (SqL X.K H' (m3 j) ws ∧ Rps X.K m' H' ys ws ∧ bnds S'.length ys = true) ∧ (SqL X.K H' (m3 k) ts ∧ Rps X.K m' H' zs ts ∧ bnds S'.length zs = true) := by
            intro m' S' H' ex l r ck
            obtain ⟨b1, us, h1, h2⟩ := r.lst (ck _ (List.mem_cons_self ..))
            obtain ⟨b2, ws, h3, h4⟩ := r.lst (ck _ (List.mem_cons_of_mem _ (List.mem_cons_self ..)))
            obtain ⟨b3, ts, h5, h6⟩ := r.lst (ck _ (List.mem_cons_of_mem _ (List.mem_cons_of_mem _ (List.mem_cons_self ..))))
            rw [ex.mi i hi] at h1
            rw [ex.mi j hj] at h3
            rw [ex.mi k hk] at h5
            exact ⟨us, ws, ts, ⟨SqL.of h1, h2, b1⟩, ⟨SqL.of h3, h4, b2⟩, ⟨SqL.of h5, h6, b3⟩⟩
          refine ⟨fun m' S' H' ex l r ck => ?_, fun q m' S' H' ex l r ck hq => ?_, fun q m' S' H' w' H'' ex l r ck hq yl => ?_⟩
          · obtain ⟨us, ws, ts, ⟨a1, a2, _⟩, ⟨b1, b2, _⟩, ⟨c1, c2, _⟩⟩ := at' m' S' H' ex l r ck
            refine ⟨us, ws, ts, a1, b1, c1, ?_⟩
            have := a2.length
            have := b2.length
            have := c2.length
            rw [zip3P_len]
            omega
          · obtain ⟨us, ws, ts, ⟨a1, a2, _⟩, ⟨b1, b2, _⟩, ⟨c1, c2, _⟩⟩ := at' m' S' H' ex l r ck
            have n1 := a2.length
            have n2 := b2.length
            have n3 := c2.length
            have hq' : q < (zip3P xs ys zs).length := hq
            rw [zip3P_len] at hq'
            exact ⟨us, ws, ts, us[q]'(by omega), ws[q]'(by omega), ts[q]'(by omega), a1, b1, c1, by simp, by simp, by simp⟩
          · obtain ⟨us, ws, ts, ⟨a1, a2, a3⟩, ⟨b1, b2, b3⟩, ⟨c1, c2, c3⟩⟩ := at' m' S' H' ex l r ck
            obtain ⟨T, x', y', z', rfl, hT, rfl, f1, f2, f3⟩ := yl
            obtain ⟨x, ex1, rx1⟩ := a2.get' (f1 _ a1)
            obtain ⟨y, ey1, ry1⟩ := b2.get' (f2 _ b1)
            obtain ⟨z, ez1, rz1⟩ := c2.get' (f3 _ c1)
            have e0 : Ext X.K S'.length m' H' m' (upd H' T (.tup [x', y', z'])) := ext_new hT fun _ _ => rfl
            have bx := bnds_get a3 ex1
            have by_ := bnds_get b3 ey1
            have bz := bnds_get c3 ez1
            have bb : bnds S'.length [x, y, z] = true := by simp [bnds, bx, by_, bz]
            exact ⟨.tup [x, y, z], zip3P_get ex1 ey1 ez1, e0, r.newT hT, ⟨bb, T, [x', y', z'], rfl, upd_same, x', [y', z'], rfl, rx1.ext e0 _ _ bx, y', [z'], rfl, ry1.ext e0 _ _ by_, z', [], rfl, rz1.ext e0 _ _ bz, rfl⟩, fun D hD => upd_ne fun z => hD (by rw [z]; exact hT)⟩
        · exact f3.elim
      | _ => exact f3.elim
    | _ => exact f3.elim
  | _ => exact f3.elim
end
end TL

set_option Elab.async false
set_option linter.all false
set_option maxRecDepth 100000
set_option maxHeartbeats 1000000
/-! TN2: == and != of lists that hold lists and dicts. -/
namespace PySem.SeqAt
open AutoSeq1 (wpAny_loadPart')
open MeetsSeq MeetsSeq2 MeetsSeq3 SeqRoads2
section
variable {prog : Program} {w : World}
theorem tn_ne_loopIn (l b : Addr) (items items2 : Array Value) (n n2 : Nat) (dd dd2 : Option Addr) (sl sl2 : Array (Option Value)) (hsz : items.size = items2.size) (e : Nat → Bool) (k : Nat) :
    ∀ i : Nat, items.size - i = k → MeetsIn prog w (Builtin.«list.__eq__.loop» ⟨[.ref l, .ref b, rawInt i, rawInt 3], []⟩)
      (fun A R s => s.heap.get? l = some { cls := .type "list", dict := dd, data := .seq items n, slots := sl } ∧ s.heap.get? b = some { cls := .type "list", dict := dd2, data := .seq items2 n2, slots := sl2 } ∧
        (∀ j (h1 : j < items.size) (h2 : j < items2.size), EqP prog w A.in1 s items[j] items2[j] (e j)) ∧
        R (.ok (.ret (.bool (!((List.range items.size).drop i).all e)))) s) := by
  induction k with
  | zero =>
    intro i hk A R s h
    obtain ⟨hp, g, d, tk, os⟩ := s; obtain ⟨hl, hb, he, h⟩ := h
    wp_walk using wpAny_loadPart' hl, wpAny_loadPart' hb
    have hi1 : items[((i : Nat) : Int).toNat]? = none := by simp; omega
    have hi2 : items2[((i : Nat) : Int).toNat]? = none := by simp; omega
    have hd : (List.range items.size).drop i = [] := by simp; omega
    rw [hd] at h
    rw [hi1, hi2]
    wp_walk using wpAny_loadPart' hl, wpAny_loadPart' hb
    show R (.ok (.ret (.bool (items.size != items2.size)))) _
    rw [hsz]
    simpa using h
  | succ k ih =>
    intro i hk A R s h
    obtain ⟨hp, g, d, tk, os⟩ := s; obtain ⟨hl, hb, he, h⟩ := h
    wp_walk using wpAny_loadPart' hl, wpAny_loadPart' hb
    have hlt : i < items.size := by omega
    have hlt2 : i < items2.size := by omega
    have hi1 : items[((i : Nat) : Int).toNat]? = some items[i] := by simp [hlt]
    have hi2 : items2[((i : Nat) : Int).toNat]? = some items2[i] := by simp [hlt2]
    have hd : (List.range items.size).drop i = i :: (List.range items.size).drop (i + 1) := by simp [List.drop_eq_getElem_cons, hlt]
    have hc : ((i : Int) + 1) = ((i + 1 : Nat) : Int) := by push_cast; rfl
    rw [hd, List.all_cons] at h
    rw [hi1, hi2]
    refine wpAny_bind (he i hlt hlt2 _ _ ?_)
    cases hb' : e i with
    | true =>
      rw [hb'] at h
      wp_walk
      rw [hc]
      exact ⟨plainId_quiet plain_eq_loop _, codeAny_builtin entry_eq_loop (by
        rw [Around.under_plainId plain_eq_loop _]
        exact ih (i + 1) (by omega) A R _ ⟨hl, hb, he, by simpa using h⟩)⟩
    | false =>
      rw [hb'] at h
      wp_walk using wpAny_loadPart' hl, wpAny_loadPart' hb
      rw [hi1, hi2]
      wp_walk
      simpa using h
theorem tn_list_neIn (l b : Addr) (items items2 : Array Value) (n n2 : Nat) (dd dd2 : Option Addr) (sl sl2 : Array (Option Value)) (hsz : items.size = items2.size) (e : Nat → Bool) :
    MeetsIn prog w (Builtin.«list.__ne__» ⟨[.ref l, .ref b], []⟩)
      (fun A R s => s.heap.get? l = some { cls := .type "list", dict := dd, data := .seq items n, slots := sl } ∧ s.heap.get? b = some { cls := .type "list", dict := dd2, data := .seq items2 n2, slots := sl2 } ∧
        (∀ j (h1 : j < items.size) (h2 : j < items2.size), EqP prog w A.in1 s items[j] items2[j] (e j)) ∧
        R (.ok (.ret (.bool (!(List.range items.size).all e)))) s) := by
  intro A R s h
  obtain ⟨hp, g, d, tk, os⟩ := s; obtain ⟨hl, hb, he, h⟩ := h
  have f3 := AutoSeq1.sub_list_list
  have hne : ¬ (items.size != items2.size) = true := by simp [hsz]
  wp_walk using wpAny_loadPart' hl, wpAny_loadPart' hb
  exact ⟨plainId_quiet plain_eq_loop _, codeAny_builtin entry_eq_loop (by
    rw [Around.under_plainId plain_eq_loop _]
    exact tn_ne_loopIn l b items items2 n n2 dd dd2 sl sl2 hsz e _ 0 rfl A R _ ⟨hl, hb, he, by simpa using h⟩)⟩
theorem rcP_ne_lists {A : Around} {s : Shared} {l b : Addr} {items items2 : Array Value} {e : Nat → Bool} (hl : s.heap.IsList l items) (hb : s.heap.IsList b items2) (hsz : items.size = items2.size) (hu : A.units < cLine)
    (he : ∀ j (h1 : j < items.size) (h2 : j < items2.size), EqP prog w A.in1 s items[j] items2[j] (e j)) (E Q : Value → Shared → Prop) (h : Q (.bool (!(List.range items.size).all e)) s) : wpAny (model prog w) A (richCompare .NotEq (.ref l) (.ref b)) Q E s := by
  obtain ⟨⟨cls, dd, data, sl⟩, ho, hc, n, hd⟩ := id hl
  obtain ⟨⟨cls2, dd2, data2, sl2⟩, ho2, hc2, n2, hd2⟩ := id hb
  simp only at hc hd hc2 hd2
  subst hc hd hc2 hd2
  have ta : s.TypeIs (.ref l) "list" := ⟨_, ho, rfl⟩
  have tb : s.TypeIs (.ref b) "list" := ⟨_, ho2, rfl⟩
  exact wpAny_richCompare_same_room (op := .NotEq) ta tb F.slot_list_ne (call_meetsIn F.slot_list_ne ta F.entry_list_ne (F.args_list_ne_2 _ _) (tn_list_neIn l b items items2 n n2 dd dd2 sl sl2 hsz e)
    ⟨ho, ho2, he, show Value.bool (!(List.range items.size).all e) ≠ Value.notImplemented ∧ Q (.bool (!(List.range items.size).all e)) s from ⟨(fun x => nomatch x), h⟩⟩) hu
end
end PySem.SeqAt
namespace TL
open PySem PySem.Spec PyProof.Rows L2
/-- equal, of nesting below n: as data, or two lists or dicts of equal items -/
def EqW (K : PySem.W.Frag) (H : Hp) : Nat → V → V → Prop
  | 0 => fun _ _ => False
  | n + 1 => fun x y => (∃ d e, Dp K H x d ∧ Dp K H y e ∧ SeqAt.shaped d = true ∧ SeqAt.shaped e = true ∧ PyData.eqv d e = true) ∨ EqR K H (EqW K H n) x y
section
variable {X : Cx} {pins : List (Addr × Obj)} {σ : L2.St} {H : Hp} {s : Shared}
theorem eqW_run (I : Inv X pins σ H s) : ∀ (n : Nat) (A : Around), A.units + n + 66 < cLine → ∀ (x y : V) (v u : Value), EqW X.K H n x y → RelV x v → RelV y u → SeqAt.EqP X.prog X.w A s v u true
  | 0, _, _, _, _, _, _, h, _, _ => (show False from h).elim
  | n + 1, A, hu, x, y, v, u, h, rx, ry => by
    rcases h with ⟨d, e, hd, he, sd, se, q⟩ | h
    · obtain ⟨as, r1⟩ := Dp.reads I d x v hd rx
      obtain ⟨bs, r2⟩ := Dp.reads I e y u he ry
      have := SeqAt.eqAt_reads d e A s v u as bs r1 r2 (SeqAt.canLay_of_shaped sd) (SeqAt.canLay_of_shaped se) (SeqAt.room_of_shaped sd (by omega))
      rw [q] at this
      exact this.eqP
    · have step := eqR_run I (A := A) (by omega) (eqW_run I n A.in1 (by show A.units + 1 + n + 66 < cLine; omega)) h rx ry
      obtain ⟨a, b, rfl, rfl⟩ : ∃ a b, x = .ref a ∧ y = .ref b := by
        rcases h with ⟨a, b, _, _, e1, e2, _⟩ | ⟨a, b, _, _, e1, e2, _⟩
        · exact ⟨a, b, e1, e2⟩
        · exact ⟨a, b, e1, e2⟩
      cases (show v = Value.ref a from rx)
      cases (show u = Value.ref b from ry)
      by_cases e : a = b
      · subst e
        exact (SeqAt.EqAt.same _).eqP
      · exact SeqAt.eqP_refs e step
/-- two lists of equal items -/
def EqL (K : PySem.W.Frag) (H : Hp) (E : V → V → Prop) (x y : V) : Prop := ∃ a b xs ys, x = .ref a ∧ y = .ref b ∧ SqL K H a xs ∧ SqL K H b ys ∧ Paired E xs ys
theorem neL_run (I : Inv X pins σ H s) {A : Around} {F : V → V → Prop} (hu : A.units < cLine) (ih : ∀ x y v u, F x y → RelV x v → RelV y u → SeqAt.EqP X.prog X.w A.in1 s v u true) {x y : V} {v u : Value} (h : EqL X.K H F x y) (rx : RelV x v) (ry : RelV y u)
    (E Q : Value → Shared → Prop) (q : Q (.bool false) s) : wpAny (model X.prog X.w) A (richCompare .NotEq v u) Q E s := by
  obtain ⟨a, b, xs, ys, rfl, rfl, ha, hb, hp⟩ := h
  cases (show v = Value.ref a from rx)
  cases (show u = Value.ref b from ry)
  obtain ⟨us, r1, p1, _⟩ := I.list ha
  obtain ⟨ws, r2, p2, _⟩ := I.list hb
  have hsz : us.toArray.size = ws.toArray.size := by
    rw [List.size_toArray, List.size_toArray, ← r1.length, ← r2.length]
    exact Paired.length hp
  refine SeqAt.rcP_ne_lists (e := fun _ => true) p1.isList p2.isList hsz hu (fun j h1 h2 => ?_) E Q ?_
  · have k := items_run ih hp r1 r2 j (by simpa using h1) (by simpa using h2)
    simpa using k
  · rw [show ((List.range us.toArray.size).all fun _ => true) = true from List.all_eq_true.mpr fun _ _ => rfl]
    exact q
end
section
variable {X : Cx}
def rEqW (K : PySem.W.Frag) : R2 := fun x y H Q => EqL K H (EqW K H 4) x y ∧ Q (.bl true) H
def rNeW (K : PySem.W.Frag) : R2 := fun x y H Q => EqL K H (EqW K H 4) x y ∧ Q (.bl false) H
theorem op_eqW (hu : X.A.units + 80 < cLine) : OpR X (compareOp .Eq) (rEqW X.K) := by
  intro pins s σ H x y v u Q I rx ry h
  obtain ⟨h, q⟩ := h
  exact eqR_run I (A := X.A) (by omega) (eqW_run I 4 X.A.in1 (by show X.A.units + 1 + 4 + 66 < cLine; omega)) (.inl h) rx ry _ _ ⟨.bl true, H, I, rfl, q⟩
theorem op_neW (hu : X.A.units + 80 < cLine) : OpR X (compareOp .NotEq) (rNeW X.K) := by
  intro pins s σ H x y v u Q I rx ry h
  obtain ⟨h, q⟩ := h
  exact neL_run I (A := X.A) (by omega) (eqW_run I 4 X.A.in1 (by show X.A.units + 1 + 4 + 66 < cLine; omega)) h rx ry _ _ ⟨.bl false, H, I, rfl, q⟩
end
end TL

set_option Elab.async false
set_option linter.all false
set_option maxRecDepth 100000
set_option maxHeartbeats 1000000
/-! TN3: deep == in the store; constants of the module; dict(d). -/
namespace TL
open PySem PySem.Spec PyProof.Rows L2
def all2 (f : PV → PV → Bool) : List PV → List PV → Bool
  | [], [] => true
  | x :: xs, y :: ys => f x y && all2 f xs ys
  | _, _ => false
def datB (S : Store) (x y : PV) : Bool := match toD S 66 x, toD S 66 y with
  | some d, some e => SeqAt.shaped d && (SeqAt.shaped e && PyData.eqv d e)
  | _, _ => false
def dicB (f : PV → PV → Bool) (ks ls : List (PV × PV)) : Bool := !ks.isEmpty && (decide (ks.length = ls.length) && ks.all fun p => (keyOf p.1).isSome && match dget ls p.1 with
  | some u => f p.2 u
  | none => false)
/-- equal, at most n deep -/
def deepB (S : Store) : Nat → PV → PV → Bool
  | 0 => fun _ _ => false
  | n + 1 => fun x y => datB S x y || match x, y with
    | .obj i, .obj j => match S[i]?, S[j]? with
      | some (.lst xs), some (.lst ys) => all2 (deepB S n) xs ys
      | some (.dic false ks), some (.dic false ls) => dicB (deepB S n) ks ls
      | _, _ => false
    | _, _ => false
section
variable {K : PySem.W.Frag} {mg : Str → Option Value} {m : Mp} {S : Store} {H : Hp}
theorem all2_pair {F : V → V → Prop} {f : PV → PV → Bool} (ih : ∀ x y v u, f x y = true → Rp K m H x v → Rp K m H y u → F v u) : ∀ {xs ys : List PV} {vs us : List V}, all2 f xs ys = true → Rps K m H xs vs → Rps K m H ys us → Paired F vs us
  | [], [], vs, us, _, h1, h2 => by
    have e1 : vs = [] := h1
    have e2 : us = [] := h2
    subst e1 e2
    exact .nil
  | x :: xs, y :: ys, vs, us, h, h1, h2 => by
    obtain ⟨v, r, rfl, a1, a2⟩ := h1
    obtain ⟨u, q, rfl, b1, b2⟩ := h2
    have h' := Bool.and_eq_true_iff.mp h
    exact .cons (ih _ _ _ _ h'.1 a1 b1) (all2_pair ih h'.2 a2 b2)
  | [], _ :: _, _, _, h, _, _ => nomatch h
  | _ :: _, [], _, _, h, _, _ => nomatch h
theorem KvK.mem : ∀ {kvs : List (PV × PV)} {l : List (Key × V)} {p : Key × V}, KvK K m H kvs l → p ∈ l → ∃ q ∈ kvs, keyOf q.1 = some p.1 ∧ Rp K m H q.2 p.2
  | [], l, p, h, hp => by
    have e : l = [] := h
    rw [e] at hp
    cases hp
  | q :: kvs, l, p, h, hp => by
    obtain ⟨r, l', rfl, h1, h2, h3⟩ := h
    rcases List.mem_cons.mp hp with z | z
    · rw [z]; exact ⟨q, List.mem_cons_self .., h1, h2⟩
    · obtain ⟨q', a, b⟩ := KvK.mem h3 z
      exact ⟨q', List.mem_cons_of_mem _ a, b⟩
theorem KvK.len : ∀ {kvs : List (PV × PV)} {l : List (Key × V)}, KvK K m H kvs l → l.length = kvs.length
  | [], l, h => by
    have e : l = [] := h
    rw [e]; rfl
  | q :: kvs, l, h => by
    obtain ⟨r, l', rfl, h1, h2, h3⟩ := h
    rw [List.length_cons, List.length_cons, KvK.len h3]
theorem Rel.dicK (r : Rel K mg m S H) {i : Nat} {ks : List (PV × PV)} (e : S[i]? = some (.dic false ks)) {p : PV × PV} (hp : p ∈ ks) (hk : (keyOf p.1).isSome = true) : ∃ l, H (m i) = some (.dK l) ∧ KvK K m H ks l := by
  rcases r.ob i _ e with ⟨l, h1, h2⟩ | ⟨l, h1, h2⟩
  · exact ⟨l, h1, h2⟩
  · exfalso
    have : ∀ {kvs : List (PV × PV)} {l : List (List Key × V)}, KvT K m H kvs l → p ∈ kvs → False := by
      intro kvs
      induction kvs with
      | nil => intro l _ hp; cases hp
      | cons q kvs ih =>
        intro l h hp
        obtain ⟨r, l', rfl, h1, h2, h3⟩ := h
        rcases List.mem_cons.mp hp with z | z
        · rw [← z] at h1
          have := keyOf_tkey hk
          rw [h1] at this
          cases this
        · exact ih h3 z
    exact this h2 hp
theorem deep_ok (r : Rel K mg m S H) : ∀ (n : Nat) (x y : PV) (v u : V), deepB S n x y = true → Rp K m H x v → Rp K m H y u → EqW K H n v u
  | 0, _, _, _, _, h, _, _ => nomatch h
  | n + 1, x, y, v, u, h, rx, ry => by
    have h' := Bool.or_eq_true_iff.mp h
    rcases h' with h' | h'
    · refine .inl ?_
      unfold datB at h'
      cases e1 : toD S 66 x with
      | none => rw [e1] at h'; cases h'
      | some d =>
        cases e2 : toD S 66 y with
        | none => rw [e1, e2] at h'; cases h'
        | some e =>
          rw [e1, e2] at h'
          simp only [Bool.and_eq_true] at h'
          exact ⟨d, e, dp_of r 66 x v d rx e1, dp_of r 66 y u e ry e2, h'.1, h'.2.1, h'.2.2⟩
    · refine .inr ?_
      cases x with
      | obj i =>
        cases y with
        | obj j =>
          have ev : v = .ref (m i) := rx
          have eu : u = .ref (m j) := ry
          subst ev eu
          simp only at h'
          cases ei : S[i]? with
          | none => rw [ei] at h'; cases h'
          | some o =>
            cases ej : S[j]? with
            | none =>
              rw [ei, ej] at h'
              cases o with
              | lst _ => cases h'
              | dic lk _ => cases lk <;> cases h'
              | ins _ _ => cases h'
            | some p =>
              rw [ei, ej] at h'
              cases o with
              | lst xs =>
                cases p with
                | lst ys =>
                  obtain ⟨_, vs, a1, a2⟩ := r.lst ei
                  obtain ⟨_, us, b1, b2⟩ := r.lst ej
                  exact .inl ⟨_, _, vs, us, rfl, rfl, SqL.of a1, SqL.of b1, all2_pair (fun x y v u h1 h2 h3 => deep_ok r n x y v u h1 h2 h3) h' a2 b2⟩
                | _ => cases h'
              | dic lk ks =>
                cases lk with
                | true => cases p <;> cases h'
                | false =>
                  cases p with
                  | dic lk2 ls =>
                    cases lk2 with
                    | true => cases h'
                    | false =>
                      have h'' : dicB (deepB S n) ks ls = true := h'
                      unfold dicB at h''
                      rw [Bool.and_eq_true, Bool.and_eq_true, List.all_eq_true] at h''
                      obtain ⟨d1, d2, d3⟩ := h''
                      have d2' := of_decide_eq_true d2
                      obtain ⟨p0, hp0⟩ : ∃ p0, p0 ∈ ks := by
                        cases ks with
                        | nil => cases d1
                        | cons a l => exact ⟨a, List.mem_cons_self ..⟩
                      obtain ⟨k0, _⟩ := Bool.and_eq_true_iff.mp (d3 p0 hp0)
                      obtain ⟨l, a1, a2⟩ := r.dicK ei hp0 k0
                      obtain ⟨q0, hq0, kq⟩ : ∃ q0 ∈ ls, (keyOf q0.1).isSome = true := by
                        have h3 := (Bool.and_eq_true_iff.mp (d3 p0 hp0)).2
                        cases e : dget ls p0.1 with
                        | none => rw [e] at h3; cases h3
                        | some w =>
                          unfold dget at e
                          cases e2 : ls.find? (fun kv => decide (kv.1 = p0.1)) with
                          | none => rw [e2] at e; cases e
                          | some q =>
                            have e3 : q.1 = p0.1 := of_decide_eq_true (List.find?_some (p := fun kv : PV × PV => decide (kv.1 = p0.1)) e2)
                            exact ⟨q, List.mem_of_find?_eq_some e2, by rw [e3]; exact k0⟩
                      obtain ⟨l2, b1, b2⟩ := r.dicK ej hq0 kq
                      refine .inr ⟨_, _, l, l2, rfl, rfl, a1, b1, by rw [a2.len, b2.len]; exact d2', fun p hp => ?_⟩
                      obtain ⟨q, hq, e1, e2⟩ := a2.mem hp
                      have h3 := (Bool.and_eq_true_iff.mp (d3 q hq)).2
                      cases e : dget ls q.1 with
                      | none => rw [e] at h3; cases h3
                      | some w =>
                        rw [e] at h3
                        obtain ⟨z, hz, rz⟩ := (b2.get e1).1 w e
                        exact ⟨z, hz, deep_ok r n _ _ _ _ h3 e2 rz⟩
                  | _ => cases h'
              | ins _ _ => cases p <;> cases h'
        | _ => cases h'
      | _ => cases h'
end
/-- x == y, two lists that are equal, deep -/
def eqW (g : Bool → Bool) : F2 := fun x y S => match x, y with
  | .obj i, .obj j => match S[i]?, S[j]? with
    | some (.lst xs), some (.lst ys) => if all2 (deepB S 4) xs ys = true then .ok (.bl (g true)) S else .stuck
    | _, _ => .stuck
  | _, _ => .stuck
abbrev eqWV : F2 := eqW fun b => b
abbrev neWV : F2 := eqW fun b => !b
theorem op2_eqW {K : PySem.W.Frag} {mg : Str → Option Value} (g : Bool → Bool) : Op2 K mg (eqW g) (fun x y H Q => EqL K H (EqW K H 4) x y ∧ Q (.bl (g true)) H) := by
  intro W σ m S H x y v u Q rel rx ry f
  unfold eqW at f
  split at f
  · rename_i i j
    have ev : v = .ref (m i) := rx.2
    have eu : u = .ref (m j) := ry.2
    subst ev eu
    split at f
    · rename_i xs ys ei ej
      split at f
      · rename_i h
        obtain ⟨_, vs, a1, a2⟩ := rel.lst ei
        obtain ⟨_, us, b1, b2⟩ := rel.lst ej
        exact ⟨⟨_, _, vs, us, rfl, rfl, SqL.of a1, SqL.of b1, all2_pair (fun x y v u h1 h2 h3 => deep_ok rel 4 x y v u h1 h2 h3) h a2 b2⟩, f.here rel ⟨rfl, rfl⟩⟩
      · exact f.elim
    · exact f.elim
  · exact f.elim
/-! ### constants of the module -/
def cvB (K : PySem.W.Frag) : Nat → PV → Value → Bool
  | _, .int i, .int j _ => decide (i = j)
  | _, .str x, .str y _ => decide (x = y)
  | _, .non, .none => true
  | n + 1, .kup xs, .ref a => match K.lookup a with
    | some o => (decide (o.cls = .type "tuple") && o.dict.isNone) && match o.data with
      | .seq its _ => decide (its.size ≤ sizeLine) && (decide (xs.length = its.toList.length) && (xs.zip its.toList).all fun p => cvB K n p.1 p.2)
      | _ => false
    | none => false
  | _, _, _ => false
structure CstR (K : PySem.W.Frag) (x : PV) (v : Value) : Prop where
  ex : ∃ w : V, RelV w v ∧ (∀ m H, Rp K m H x w) ∧ ∀ n, bnd n x = true
theorem cv_list {K : PySem.W.Frag} {f : PV → Value → Bool} (ih : ∀ x v, f x v = true → CstR K x v) : ∀ (xs : List PV) (its : List Value), xs.length = its.length → (xs.zip its).all (fun p => f p.1 p.2) = true → ∃ ws : List V, Vals ws its ∧ (∀ m H, Rps K m H xs ws) ∧ ∀ n, bnds n xs = true
  | [], [], _, _ => ⟨[], .nil, fun _ _ => rfl, fun _ => rfl⟩
  | x :: xs, v :: its, hl, h => by
    rw [List.zip_cons_cons, List.all_cons] at h
    obtain ⟨h1, h2⟩ := Bool.and_eq_true_iff.mp h
    obtain ⟨w, r1, r2, r3⟩ := (ih x v h1).ex
    obtain ⟨ws, q1, q2, q3⟩ := cv_list ih xs its (by simpa using hl) h2
    exact ⟨w :: ws, .cons r1 q1, fun m H => ⟨w, ws, rfl, r2 m H, q2 m H⟩, fun n => Bool.and_eq_true_iff.mpr ⟨r3 n, q3 n⟩⟩
  | [], _ :: _, hl, _ => by simp at hl
  | _ :: _, [], hl, _ => by simp at hl
theorem cv_ok {K : PySem.W.Frag} : ∀ (n : Nat) (x : PV) (v : Value), cvB K n x v = true → CstR K x v := by
  intro n
  induction n with
  | zero =>
    intro x v h
    unfold cvB at h
    split at h
    · exact ⟨V.int _, ⟨_, rfl⟩, fun _ _ => congrArg V.int (of_decide_eq_true h).symm, fun _ => rfl⟩
    · exact ⟨V.str _, ⟨_, rfl⟩, fun _ _ => congrArg V.str (of_decide_eq_true h).symm, fun _ => rfl⟩
    · exact ⟨.non, rfl, fun _ _ => rfl, fun _ => rfl⟩
    · contradiction
    · cases h
  | succ n ih =>
    intro x v h
    unfold cvB at h
    split at h
    · exact ⟨V.int _, ⟨_, rfl⟩, fun _ _ => congrArg V.int (of_decide_eq_true h).symm, fun _ => rfl⟩
    · exact ⟨V.str _, ⟨_, rfl⟩, fun _ _ => congrArg V.str (of_decide_eq_true h).symm, fun _ => rfl⟩
    · exact ⟨.non, rfl, fun _ _ => rfl, fun _ => rfl⟩
    · rename_i k xs a e
      cases e
      split at h
      · rename_i o eo
        obtain ⟨h1, h2⟩ := Bool.and_eq_true_iff.mp h
        split at h2
        · rename_i its c ed
          simp only [Bool.and_eq_true] at h2
          obtain ⟨z, l, q⟩ := h2
          obtain ⟨h1, h1d⟩ := Bool.and_eq_true_iff.mp h1
          obtain ⟨ws, w1, w2, w3⟩ := cv_list ih xs its.toList (of_decide_eq_true l) q
          exact ⟨.ref a, rfl, fun m H => ⟨a, ws, rfl, .inr ⟨o, its, c, eo, of_decide_eq_true h1, Option.isNone_iff_eq_none.mp h1d, ed, of_decide_eq_true z, w1⟩, w2 m H⟩, w3⟩
        · cases h2
      · cases h
    · cases h
def conB (K : PySem.W.Frag) (x : Str) (c : PV) : Bool := match PySem.W.nsIn K mainGlobals x with
  | some (some v) => cvB K 4 c v
  | _ => false
structure CstF (K : PySem.W.Frag) (mg : Str → Option Value) (x : Str) (c : PV) : Prop where
  ex : ∃ v, mg x = some v ∧ CstR K c v
theorem con_ok {K : PySem.W.Frag} {h : Heap} {mg : Str → Option Value} (X : K.In h) (G : h.Ns mainGlobals mg) {x : Str} {c : PV} (e : conB K x c = true) : CstF K mg x c := by
  unfold conB at e
  split at e
  · rename_i v ev
    exact ⟨v, PySem.W.mg_of X G ev, cv_ok 4 c v e⟩
  · cases e
theorem de_con {X : Cx} {W : WX} {x : Str} {c : PV} {pos : Pos} (C : CstF X.K X.mg x c) (hg : Gl X x := by rfl) (hd : (x == ("__debug__" : Str)) = false := by decide) : DE X W (.Name x pos) (eK c) := by
  obtain ⟨v, hm, w, r1, r2, r3⟩ := C
  exact de_k (pe_glob hg hm r1 hd) r3 r2
/-! ### dict(d) -/
section
variable {K : PySem.W.Frag} {mg : Str → Option Value}
def rDictV (K : PySem.W.Frag) : List V → Hp → VK → Prop := fun xs H Q => ∃ (a : Addr) (kvs : List (Key × V)), xs = [.ref a] ∧ Rd H a (.dK kvs) ∧ ∀ p, H p = none → Q (.ref p) (upd H p (.dK kvs))
def dictV' : FB := fun xs S => match xs with
  | [.obj i] => match S[i]? with
    | some (.dic _ (p :: kvs)) => if (keyOf p.1).isSome = true then .ok (.obj S.length) (S ++ [.dic false (p :: kvs)]) else .stuck
    | _ => .stuck
  | _ => .stuck
theorem opC_dict : OpC K mg dictV' (rDictV K) := by
  intro W σ m S H xs vs Q rel ra f
  unfold dictV' at f
  split at f
  · rename_i i
    obtain ⟨v, rfl, b, ev⟩ := one_of ra
    have ev' : v = .ref (m i) := ev
    subst ev'
    split at f
    · rename_i lk p kvs e
      split at f
      · rename_i hk
        have wf := rel.wf i _ e
        have noT : ∀ l, KvT K m H (p :: kvs) l → False := fun l h => by
          obtain ⟨r, l', rfl, h1, _⟩ := h
          have := keyOf_tkey hk
          rw [h1] at this
          cases this
        cases lk with
        | false =>
          rcases rel.ob i _ e with ⟨l, h1, h2⟩ | ⟨l, h1, h2⟩
          · exact ⟨_, l, rfl, .inl h1, fun q hq => f.dicK rel wf h2 hq⟩
          · exact (noT l h2).elim
        | true =>
          rcases rel.ob i _ e with ⟨o, l, h1, h2⟩ | ⟨o, l, h1, h2⟩
          · exact ⟨_, l, rfl, .inr ⟨o, h1⟩, fun q hq => f.dicK rel wf h2 hq⟩
          · exact (noT l h2).elim
      · exact f.elim
    · exact f.elim
  · exact f.elim
end
end TL

set_option Elab.async false
set_option linter.all false
set_option maxRecDepth 100000
set_option maxHeartbeats 1000000
/-! TN4: o[k] += e; range with a step; reversed in a for; written dicts. -/
namespace TL
open PySem PySem.Spec PyProof.Rows L2
/-! ### o[k] += e -/
section
variable {X : Cx}
theorem get_or {r r' : V → V → Hp → VK → Prop} (h : PGet X r) (h' : PGet X r') : PGet X (fun x y H Q => r x y H Q ∨ r' x y H Q) := by
  intro pins s σ H x y v u Q I rx ry q
  rcases q with q | q
  · exact h pins s σ H x y v u Q I rx ry q
  · exact h' pins s σ H x y v u Q I rx ry q
theorem get_cv {r : R2} (h : PGet X r) : PGet X (cv2 r) := by
  intro pins s σ H x y v u Q I rx ry q
  obtain ⟨H', c, q⟩ := q
  exact h pins s σ H' x y v u Q (Inv.cv I c) rx ry q
theorem get_list : PGet X (rIxL X.K) := by
  intro pins s σ H x y v u Q I rx ry h
  obtain ⟨p, xs, i, z, rfl, rfl, hq, he, q⟩ := h
  cases rx
  obtain ⟨t, rfl⟩ := ry
  obtain ⟨its, r, pl, hz⟩ := I.list hq
  obtain ⟨j, h1, h2, h3, h4, h5⟩ := atI_get he
  obtain ⟨w, ew, rw'⟩ := r.get h2
  have hl := r.length
  have hn := line63
  have fin : EP X pins σ Q w s := ⟨z, H, I, rw', q⟩
  by_cases h0 : 0 ≤ i
  · have hj : i.toNat = j := by
      rw [seqIndex_of h0 h5] at h1
      exact Option.some.inj h1
    exact wpAny_getItem_list pl.isList h0 (by omega) (by rw [hj]; simpa using ew) fin
  · have hj : (i + (its.toArray.size : Int)).toNat = j := by
      rw [seqIndex_neg (by omega) h4] at h1
      rw [List.size_toArray, ← hl]
      exact Option.some.inj h1
    exact wpAny_getItem_list_neg pl.isList (by omega) (by rw [List.size_toArray] <;> omega) (by omega) (by rw [hj]; simpa using ew) fin
theorem get_tup : PGet X (rIxT X.K) := by
  intro pins s σ H x y v u Q I rx ry h
  obtain ⟨p, xs, i, z, rfl, rfl, hq, he, q⟩ := h
  cases rx
  obtain ⟨t, rfl⟩ := ry
  obtain ⟨its, r, pl, hz⟩ := I.tuple hq
  obtain ⟨j, h1, h2, h3, h4, h5⟩ := atI_get he
  obtain ⟨w, ew, rw'⟩ := r.get h2
  have hl := r.length
  have hn := line63
  have fin : EP X pins σ Q w s := ⟨z, H, I, rw', q⟩
  exact PyProof.Rows.getItem_tuple (j := j) pl (by omega) (by omega) (by rw [List.size_toArray, ← hl]; exact h1) (by simpa using ew) fin
theorem get_str : PGet X rIxS := by
  intro pins s σ H x y v u Q I rx ry h
  obtain ⟨z, i, c, rfl, rfl, hz, he, q⟩ := h
  obtain ⟨t, rfl⟩ := rx
  obtain ⟨t', rfl⟩ := ry
  obtain ⟨j, h1, h2, h3, h4, h5⟩ := atI_get he
  have hl : z.cps.toList.length = z.length := by simp [Str.length]
  rw [hl] at h1 h4 h5
  have hn := line63
  exact PyProof.Rows.getItem_str (c := c) (by
    have e1 : decide (i < -(2 ^ 63 : Int)) = false := decide_eq_false (by omega)
    have e2 : decide (i ≥ 2 ^ 63) = false := decide_eq_false (by omega)
    rw [e1, e2, Bool.or_false]) (by rw [h1]; simpa using h2) ⟨.str ⟨#[c]⟩, H, I.tok _, ⟨_, rfl⟩, q⟩
theorem get_dic (hu : X.A.units + 1 < cLine) : PGet X rGetD := by
  intro pins s σ H x y v u Q I rx ry h
  obtain ⟨a, z, rfl, g, q⟩ := h
  obtain rfl : v = Value.ref a := rx
  exact d_getItem hu I g ry fun w' s' I' r => ⟨z, H, I', r, q⟩
theorem get_V (hu : X.A.units + 1 < cLine) : PGet X (rGetV X.K) := get_cv (get_or (get_or get_list (get_or get_tup get_str)) (get_dic hu))
def sAugIx (co ci : CE PV) (f : F2) (c : CE PV) : CS := fun ρ S => sb (co ρ S) ρ fun o S1 => sb (ci ρ S1) ρ fun k S2 => sb (getV o k S2) ρ fun x S3 => sb (c ρ S3) ρ fun y S4 => sb (f x y S4) ρ fun z S5 => match setV o k z S5 with
  | some S6 => .next ρ S6
  | none => .stuck
theorem ds_augIx {W : WX} {pos tpos : Pos} {o i e : Expr} {co ci c : CE PV} {op : Operator} {tip : TIp} {f : F2} (hu : X.A.units + 1 < cLine) (hp : PIp X op tip) (o2 : Op2 X.K X.mg f tip) (ho : DE X W o co) (hi : DE X W i ci) (he : DE X W e c)
    (ha : ∀ ov iv new, augStore i ov iv new = (do holding [new, ov, iv] (setItem ov iv new); release [new, ov, iv] []; pure .next) := by intros; rfl) : DS X W (.AugAssign (.Subscript o i tpos) op e pos) (sAugIx co ci f c) :=
  ps_imp (ps_augS ho hi (get_V hu) he hp (set_V hu) ha) fun D σ H h => by
    obtain ⟨m, S, ρ, at_, fin⟩ := h
    refine ⟨m, S, ρ, at_, (FinS.bind at_ fin).mono fun ov H1 h1 => ?_⟩
    obtain ⟨m1, S1, xo, at1, r1, e1, l1, f1⟩ := h1
    refine ⟨m1, S1, ρ, at1, (FinS.bind at1 f1).mono fun iv H2 h2 => ?_⟩
    obtain ⟨m2, S2, xi, at2, r2, e2, l2, f2⟩ := h2
    have ro2 := stbV e2 l2 r1
    refine op2_get W σ m2 S2 H2 xo xi ov iv _ at2.rel ro2 r2 ((FinS.bind at2 f2).mono fun old H3 h3 => ?_)
    obtain ⟨m3, S3, xx, at3, r3, e3, l3, f3⟩ := h3
    have ro3 := stbV e3 l3 ro2
    have ri3 := stbV e3 l3 r2
    refine ⟨m3, S3, ρ, at3, (FinS.bind at3 f3).mono fun y H4 h4 => ?_⟩
    obtain ⟨m4, S4, xy, at4, r4, e4, l4, f4⟩ := h4
    have ro4 := stbV e4 l4 ro3
    have ri4 := stbV e4 l4 ri3
    refine o2 W σ m4 S4 H4 xx xy old y _ at4.rel (stbV e4 l4 r3) r4 ((FinS.bind at4 f4).mono fun z H5 h5 => ?_)
    obtain ⟨m5, S5, xz, at5, r5, e5, l5, f5⟩ := h5
    dsimp only at f5
    cases q : setV xo xi xz S5 with
    | none => rw [q] at f5; exact f5.elim
    | some S6 =>
      rw [q] at f5
      exact set_ok at5.rel (stbV e5 l5 ro4) (stbV e5 l5 ri4) r5 q fun H' ex el r' => f5 m5 H' σ ex (by omega) ⟨r', at5.env.ext ex (by omega)⟩
end
/-! ### range(a, b, c), reversed(xs) in a for -/
section
variable {X : Cx} {W : WX} {pos p : Pos} {tg a b c : Expr} {ca cb cc : CE PV}
def rngC (i c : Int) (n : Nat) : List PV := (List.range n).map fun (t : Nat) => PV.int (i + (t : Int) * c)
theorem itR_rngC {K : PySem.W.Frag} {mg : Str → Option Value} {m : Mp} {S : Store} {H : Hp} {lo c : Int} {n : Nat} : ItR K mg (Itc lo c n) (rngC lo c n) [] S.length m H := by
  unfold rngC
  refine ⟨fun m' S' H' e l r _ => by show n ≤ _; simp, fun i m' S' H' e l r _ hi => by show i < n; simpa using hi, fun i m' S' H' v H'' e l r _ hi y => ?_⟩
  obtain ⟨rfl, ev⟩ := y
  subst ev
  have hi' : i < n := by simpa using hi
  refine ⟨.int (lo + i * c), ?_, Ext.refl, r, ⟨rfl, rfl⟩, fun _ _ => rfl⟩
  rw [List.getElem?_map, List.getElem?_range hi']
  rfl
instance (i j c : Int) (n : Nat) : Decidable (RgC i j c n) := by unfold RgC; infer_instance
def iRange3 (ca cb cc : CE PV) : CE (List PV × Chk) := fun ρ S => (ca ρ S).bind fun x S1 => (cb ρ S1).bind fun y S2 => (cc ρ S2).bind fun z S3 => match x, y, z with
  | .int i, .int j, .int k => if RgC i j k (Builtin.Range.rangeSize i j k).toNat then .ok (rngC i k (Builtin.Range.rangeSize i j k).toNat, []) S3 else .stuck
  | _, _, _ => .stuck
theorem di_range3 (hm : X.mg "range" = none) (ha : DE X W a ca) (hb : DE X W b cb) (hc : DE X W c cc) (hg : Gl X "range" := by rfl)
    (hs : starEach [a, b, c] X.env = (false, eval a X.env) :: starEach [b, c] X.env := by rfl) (hpl : (backTo pos (starEach [b, c] X.env)).any (·.1) = false := by rfl)
    (hs4 : starEach [b, c] X.env = (false, eval b X.env) :: starEach [c] X.env := by rfl) (hs5 : starEach [c] X.env = (false, eval c X.env) :: starEach [] X.env := by rfl) : DI X W tg (.Call (.Name "range" p) [a, b, c] [] pos) (iRange3 ca cb cc) := by
  refine pi_imp (pi_range3 hg hm (pa_cons ha (pa_cons hb (pa_cons hc pa_nil hs5) hs4) hs) hs hpl) fun σ H R h => ?_
  obtain ⟨m, S, ρ, at_, fin⟩ := h
  refine ⟨m, S, ρ, at_, (Fin.bind at_ fin).mono fun v H1 h1 => ?_⟩
  obtain ⟨m1, S1, x, at1, r1, e1, l1, f1⟩ := h1
  refine ⟨m1, S1, ρ, at1, (Fin.bind at1 f1).mono fun u H2 h2 => ?_⟩
  obtain ⟨m2, S2, y, at2, r2, e2, l2, f2⟩ := h2
  refine ⟨m2, S2, ρ, at2, (Fin.bind at2 f2).mono fun w H3 h3 => ?_⟩
  obtain ⟨m3, S3, z, at3, r3, e3, l3, f3⟩ := h3
  cases x with
  | int i =>
    cases y with
    | int j =>
      cases z with
      | int k =>
        have ev : v = .int i := r1.2
        have eu : u = .int j := r2.2
        have ew : w = .int k := r3.2
        subst ev eu ew
        simp only at f3
        by_cases q : RgC i j k (Builtin.Range.rangeSize i j k).toNat
        · rw [if_pos q] at f3
          exact ⟨i, j, k, _, rfl, q, f3.here at3.rel itR_rngC⟩
        · rw [if_neg q] at f3
          exact f3.elim
      | _ => exact f3.elim
    | _ => exact f3.elim
  | _ => exact f3.elim
def iRev (c : CE PV) : CE (List PV × Chk) := fun ρ S => (c ρ S).bind fun x S1 => match seqC x S1 with
  | some (.l, xs, ck) => .ok (xs.reverse, ck) S1
  | _ => .stuck
theorem di_rev (hm : X.mg "reversed" = none) (ha : DE X W a ca) (hg : Gl X "reversed" := by rfl) (hs : starEach [a] X.env = [(false, eval a X.env)] := by rfl) (hs2 : starEach [a] X.env = (false, eval a X.env) :: starEach [] X.env := by rfl) :
    DI X W tg (.Call (.Name "reversed" p) [a] [] pos) (iRev ca) := by
  refine pi_imp (pi_reversed hg hm (pa_cons ha pa_nil hs2) hs) fun σ H R h => ?_
  obtain ⟨m, S, ρ, at_, fin⟩ := h
  refine ⟨m, S, ρ, at_, (Fin.bind at_ fin).mono fun v H1 h1 => ?_⟩
  obtain ⟨m1, S1, x, at1, r1, e1, l1, f1⟩ := h1
  dsimp only at f1
  cases hx : seqC x S1 with
  | none => rw [hx] at f1; exact f1.elim
  | some t1 =>
    obtain ⟨d, xs, ck⟩ := t1
    rw [hx] at f1
    cases d with
    | t => exact f1.elim
    | l =>
      obtain ⟨q, rfl, hq⟩ := seqC_ok at1.rel r1 hx
      have c0 : chk ck S1 := by
        unfold seqC at hx
        cases x with
        | rol z => cases hx; exact chk_nil _
        | obj i =>
          simp only at hx
          split at hx
          · rename_i e
            cases hx
            exact chk_one e
          · cases hx
        | _ => cases hx
      obtain ⟨vs, v1, rr, _⟩ := hq m1 S1 H1 Ext.refl (Nat.le_refl _) at1.rel c0
      have hlen : vs.length = xs.length := rr.length
      refine ⟨q, vs, rfl, v1, f1.here at1.rel ⟨fun m' S' H' ex l r c => ?_, fun i m' S' H' ex l r c hi => ?_, fun i m' S' H' w H'' ex l r c hi yl => ?_⟩⟩
      · show vs.length ≤ xs.reverse.length
        rw [List.length_reverse, hlen]; exact Nat.le_refl _
      · obtain ⟨us, u1, r1, _⟩ := hq m' S' H' ex l r c
        have hi' : i < xs.length := by simpa using hi
        have hu := r1.length
        exact ⟨by rw [hlen]; exact hi', us, us[vs.length - 1 - i]'(by omega), u1, by simp⟩
      · obtain ⟨us, u1, r1, b1⟩ := hq m' S' H' ex l r c
        obtain ⟨rfl, f1'⟩ := yl
        have hi' : i < xs.length := by simpa using hi
        obtain ⟨z, ez, rz⟩ := r1.get' (f1' _ u1)
        rw [hlen] at ez
        exact ⟨z, by rw [List.getElem?_reverse hi']; exact ez, Ext.refl, r, ⟨bnds_get b1 ez, rz⟩, fun _ _ => rfl⟩
end
end TL
namespace TL
open PySem PySem.Spec PyProof.Rows L2
/-! ### what a test has made is dropped -/
open Classical in
noncomputable def gcT (S : Store) : Res Bool → Res Bool
  | .ok b S' => if S <+: S' then .ok b S else .ok b S'
  | .exc c none S' => if S <+: S' then .exc c none S else .exc c none S'
  | .exc c p S' => .exc c p S'
  | .stuck => .stuck
theorem Fin.gcT {K : PySem.W.Frag} {mg : Str → Option Value} {W : WX} {σ : L2.St} {m : Mp} {S : Store} {H : Hp} {Q : Bool → Hp → Prop} {r : Res Bool} (rel : Rel K mg m S H) (f : Fin K mg W σ m S H RB Q (gcT S r)) : Fin K mg W σ m S H RB Q r := by
  cases r with
  | stuck => exact f
  | ok b S' =>
    unfold TL.gcT at f
    dsimp only at f
    by_cases h : S <+: S'
    · rw [if_pos h] at f
      exact fun m' H' v e l r' rr => f m' H' v e (Nat.le_refl _) (rel.shrink r' h) rr
    · rw [if_neg h] at f
      exact f
  | exc c p S' =>
    cases p with
    | some p => exact f
    | none =>
      unfold TL.gcT at f
      dsimp only at f
      by_cases h : S <+: S'
      · rw [if_pos h] at f
        exact fun m' H' d e l r' xr => f m' H' d e (Nat.le_refl _) (rel.shrink r' h) xr
      · rw [if_neg h] at f
        exact f
noncomputable def tGc (c : CE Bool) : CE Bool := fun ρ S => gcT S (c ρ S)
theorem dt_gc {X : Cx} {W : WX} {a : Expr} {ca : CE Bool} (h : DT X W a ca) : DT X W a (tGc ca) := pt_imp h fun σ H Q h => by
  obtain ⟨m, S, ρ, at_, fin⟩ := h
  exact ⟨m, S, ρ, at_, Fin.gcT at_.rel fin⟩
@[simp] theorem tGc_ap (c : CE Bool) (ρ : Sl) (S : Store) : tGc c ρ S = gcT S (c ρ S) := rfl
@[simp] theorem gcT_self (S : Store) (b : Bool) : gcT S (.ok b S) = .ok b S := by
  unfold gcT
  simp
@[simp] theorem gcT_app (S J : Store) (b : Bool) : gcT S (.ok b (S ++ J)) = .ok b S := by
  unfold gcT
  simp
end TL

set_option Elab.async false
set_option linter.all false
set_option maxRecDepth 100000
set_option maxHeartbeats 1000000
/-! TN5: max(xs, default=d) of a list of whole numbers. -/
namespace PySem
theorem tn_max_dflt (a d : Value) : argsOk "max" ⟨[a], [(Str.ofString "default", d)]⟩ := by unfold argsOk; kernel_rfl
section
variable {prog : Program} {w : World} {A : Around} {R : Result → Shared → Prop} {I : Addr} {fp wr : List Addr} {n : Nat} {P : Nat → Value → Prop} {St : Nat → Heap → Prop}
/-- the best of the first j, as the loop keeps it -/
def TnOld (bt : Nat → Nat → Bool) (P : Nat → Value → Prop) : Nat → Array Value → Prop
  | 0, old => old = #[]
  | j + 1, old => ∃ vb, old = #[vb, vb] ∧ P (argBest bt j) vb
theorem tn_max_loop (W : Walks prog w A.in1 I fp wr n P St) (bt : Nat → Nat → Bool) (cmp : CmpOf prog w A.in1 .Gt P bt) (S : Addr) (hf : S ∉ fp) (nm : Str) (d : Value) :
    ∀ (k j : Nat) (s : Shared) (old : Array Value) (c : Nat), n - j = k → j ≤ n → St j s.heap → TnOld bt P j old →
    s.heap.get? S = some { cls := .type "list", dict := none, data := .seq old c, slots := #[] } →
    (∀ v h' tk, (n = 0 ∧ v = d ∨ 0 < n ∧ P (argBest bt (n - 1)) v) → (∀ b o, b ∉ wr → b ≠ S → s.heap.get? b = some o → h'.get? b = some o) → R (.ok (.ret v)) { s with heap := h', toks := tk }) →
    codeAny (model prog w) A (.builtin "max.loop" ⟨[.ref I, .none, .ref S], [(nm, d)]⟩) R s := by
  have hw : S ∉ wr := fun h => hf (W.sub _ h)
  have nam : (toString "max" ++ toString ".loop" : String) = "max.loop" := by decide
  intro k
  induction k with
  | zero =>
    intro j s old c hk hj st ho hS hR
    obtain rfl : j = n := by omega
    refine codeAny_builtin F.entry_max_loop ?_
    rw [Around.under_plainId F.plain_max_loop _]
    show wpAny _ A.in1 (seqItems? (.ref S) >>= _) _ _ s
    refine wpAny_bind (wpAny_seqItems hS rfl ?_)
    show wpAny _ A.in1 (tryCatch (pyNext (.ref I)) _ >>= _) _ _ s
    refine wpAny_bind (wpAny_tryCatch (W.done s _ _ st fun h' tk hk' => ?_))
    cases j with
    | zero =>
      obtain rfl : old = #[] := ho
      show wpAny _ A.in1 (rule _ >>= _) _ _ _
      exact wpAny_bind (wpAny_rule (wpAny_pure (hR d _ tk (.inl ⟨rfl, rfl⟩) fun b o h1 _ e => hk' b o h1 e)))
    | succ j =>
      obtain ⟨vb, rfl, hP⟩ := ho
      have S1 := hk' S _ hw hS
      show wpAny _ A.in1 (updateSeq S (fun _ => #[]) >>= _) _ _ _
      refine wpAny_bind (wpAny_updateSeq S1 rfl (wpAny_bind (wpAny_letGo (wpAny_pure ?_))))
      exact hR vb _ tk (.inr ⟨Nat.succ_pos _, hP⟩) fun b o h1 h2 e => (Heap.get?_update_other _ _ (Ne.symm h2)).trans (hk' b o h1 e)
  | succ k ih =>
    intro j s old c hk hj st ho hS hR
    have lt : j < n := by omega
    refine codeAny_builtin F.entry_max_loop ?_
    rw [Around.under_plainId F.plain_max_loop _]
    show wpAny _ A.in1 (seqItems? (.ref S) >>= _) _ _ s
    refine wpAny_bind (wpAny_seqItems hS rfl ?_)
    show wpAny _ A.in1 (tryCatch (pyNext (.ref I)) _ >>= _) _ _ s
    refine wpAny_bind (wpAny_tryCatch (W.item j s _ _ lt st fun v h' tk hv st' hk' => ?_))
    have S1 := hk' S _ hw hS
    have go : ∀ (h2 : Heap) (old2 : Array Value) (c2 : Nat), St (j + 1) h2 → TnOld bt P (j + 1) old2 → h2.get? S = some { cls := .type "list", dict := none, data := .seq old2 c2, slots := #[] } →
        (∀ b o, b ∉ wr → b ≠ S → s.heap.get? b = some o → h2.get? b = some o) → codeAny (model prog w) A (.builtin "max.loop" ⟨[.ref I, .none, .ref S], [(nm, d)]⟩) R { s with heap := h2, toks := tk } :=
      fun h2 old2 c2 q1 q2 q3 q4 => ih (j + 1) { s with heap := h2, toks := tk } old2 c2 (by omega) (by omega) q1 q2 q3 fun v h3 tk3 p1 p2 => hR v h3 tk3 p1 fun b o z1 z2 z3 => p2 b o z1 z2 (q4 b o z1 z2 z3)
    cases j with
    | zero =>
      obtain rfl : old = #[] := ho
      show wpAny _ A.in1 (updateSeq S (fun _ => #[v, v]) >>= _) _ _ _
      refine wpAny_bind (wpAny_updateSeq S1 rfl ?_)
      rw [nam]
      refine wpAny_pure ⟨plainId_quiet F.plain_max_loop _, go _ #[v, v] _ (W.frame _ _ _ st' fun b hb o e => ?_) ⟨v, rfl, hv⟩ (Heap.get?_update_self _ S1 rfl) fun b o z1 z2 z3 => ?_⟩
      · exact (Heap.get?_update_other _ _ (fun h : S = b => hf (by rw [h]; exact hb))).trans e
      · exact (Heap.get?_update_other _ _ (Ne.symm z2)).trans (hk' b o z1 z3)
    | succ j =>
      obtain ⟨vb, rfl, hP⟩ := ho
      show wpAny _ A.in1 (tryCatch (holding [v, v] (richCompare .Gt v vb >>= _)) _ >>= _) _ _ _
      refine wpAny_bind (wpAny_tryCatch (wpAny_holding (wpAny_bind (cmp (j + 1) (argBest bt j) v vb _ _ _ hv hP ?_))))
      refine wpAny_bind (wpAny_holding (wpAny_truthy_bool (wpAny_bind (wpAny_letGo (wpAny_pure ?_)))))
      cases hb : bt (j + 1) (argBest bt j) with
      | true =>
        simp only [if_true]
        refine wpAny_bind (wpAny_updateSeq S1 rfl (wpAny_bind (wpAny_letGo ?_)))
        rw [nam]
        refine wpAny_pure ⟨plainId_quiet F.plain_max_loop _, go _ #[v, v] _ (W.frame _ _ _ st' fun b hb o e => ?_) ⟨v, rfl, by simp only [argBest, hb, if_true]; exact hv⟩ (Heap.get?_update_self _ S1 rfl) fun b o z1 z2 z3 => ?_⟩
        · exact (Heap.get?_update_other _ _ (fun h : S = b => hf (by rw [h]; exact hb))).trans e
        · exact (Heap.get?_update_other _ _ (Ne.symm z2)).trans (hk' b o z1 z3)
      | false =>
        simp only [Bool.false_eq_true, if_false]
        refine wpAny_bind (wpAny_letGo ?_)
        rw [nam]
        exact wpAny_pure ⟨plainId_quiet F.plain_max_loop _, go _ #[vb, vb] c st' ⟨vb, rfl, by simp only [argBest, hb, Bool.false_eq_true, if_false]; exact hP⟩ S1 fun b o z1 _ z3 => hk' b o z1 z3⟩
end
section
variable {prog : Program} {w : World} {A : Around} {E : Value → Shared → Prop} {s : Shared}
theorem tn_max_call {x d : Value} {Q : Value → Shared → Prop}
    (h : wpAny (model prog w) A.in1 (pyIter x) (fun it s₂ => ∃ I fp wr n P St bt, it = .ref I ∧ Walks prog w A.in1 I fp wr n P St ∧ St 0 s₂.heap ∧ (∀ b ∈ fp, b < s₂.heap.objs.size) ∧ CmpOf prog w A.in1 .Gt P bt ∧
      ∀ v h' tk, (n = 0 ∧ v = d ∨ 0 < n ∧ P (argBest bt (n - 1)) v) → (∀ b o, b ∉ wr → s₂.heap.get? b = some o → h'.get? b = some o) → Q v { s₂ with heap := h', toks := tk }) E s) :
    wpAny (model prog w) A (call (.builtin "max") [x] [(Str.ofString "default", d)]) Q E s := by
  have nam : (toString "max" ++ toString ".loop" : String) = "max.loop" := by decide
  refine PyProof.Rows.kmk_tree F.kind_max F.plain_max F.entry_max (tn_max_dflt _ _) ?_
  show wpAny _ A.in1 (Builtin.Builtins.bindParams "max" ["key", "default"] 0 ⟨[], [(Str.ofString "default", d)]⟩ >>= _) _ _ s
  refine wpAny_bind (wpAny_of_eq (show Builtin.Builtins.bindParams "max" ["key", "default"] 0 ⟨[], [(Str.ofString "default", d)]⟩ = pure [none, some d] from rfl) ?_)
  refine wpAny_bind (wpAny_pure ?_)
  refine wpAny_bind (wpAny_mono h (fun it s₂ h₂ => ?_) fun _ _ e => e)
  obtain ⟨I, fp, wr, n, P, St, bt, rfl, W, st, hfp, cmp, hQ⟩ := h₂
  refine wpAny_bind (wpAny_newObj_type ?_)
  have hf : s₂.heap.objs.size ∉ fp := fun hm => Nat.lt_irrefl _ (hfp _ hm)
  rw [nam]
  refine wpAny_pure ⟨plainId_quiet F.plain_max_loop _, tn_max_loop W bt cmp s₂.heap.objs.size hf _ d n 0 _ #[] 0 (by omega) (by omega) (W.frame _ _ _ st fun b _ o e => Heap.get?_push_of_some _ e) rfl (Heap.get?_push_size _ rfl) fun v h' tk hP hk => ?_⟩
  exact hQ v h' tk hP fun b o hb e => hk b o hb (Nat.ne_of_lt (Heap.lt_size e)) (Heap.get?_push_of_some _ e)
theorem tn_max_ints {l : Addr} {xs : Array (Int × Tok)} {d : Value} {Q : Value → Shared → Prop} (hh : A.handled = none) (hl : s.heap.IsList l (intItems xs))
    (h : ∀ v h' tk, (xs.size = 0 ∧ v = d ∨ 0 < xs.size ∧ (intItems xs)[argBest (fun i j => decide (numAt xs i > numAt xs j)) (xs.size - 1)]? = some v) → (∀ b o, s.heap.get? b = some o → h'.get? b = some o) → Q v { s with heap := h', toks := tk }) :
    wpAny (model prog w) A (call (.builtin "max") [.ref l] [(Str.ofString "default", d)]) Q E s := by
  refine tn_max_call (iter_intList hl fun s₂ e st hfp hne => ?_)
  subst e
  refine ⟨_, _, _, _, _, _, _, rfl, Walks.list (A := A.in1) hh _ l hne (intItems xs), st, hfp, CmpOf.ints_gt (numAt xs) (fun _ _ => intItems_at), fun v h' tk hP hk => ?_⟩
  exact h v h' tk (by simpa [intItems] using hP) (old_kept hk)
end
end PySem
namespace TL
open PySem PySem.Spec PyProof.Rows L2
theorem hu80 {k : Nat} {A : Around} (r : Room k A) : A.units + 80 < cLine := by have := r.un; omega
def rMaxD (K : PySem.W.Frag) (d : V) : List V → Hp → VK → Prop := fun vs H Q => ∃ (a : Addr) (ns : List Int), vs = [V.ref a] ∧ SqL K H a (ns.map V.int) ∧
  (ns = [] → Q d H) ∧ ∀ m, m ∈ ns → (∀ y, y ∈ ns → y ≤ m) → Q (.int m) H
theorem max_dflt {X : Cx} (hc : X.calm = true) {pins : List (Addr × Obj)} {s : Shared} {σ : L2.St} {H : Hp} {vs : List V} {us : List Value} {d : V} {u : Value} {Q : VK} (I : Inv X pins σ H s) (r : Vals vs us) (rd : RelV d u) (h : rMaxD X.K d vs H Q) :
    wpAny (model X.prog X.w) X.A (call (.builtin "max") us [(Str.ofString "default", u)]) (EP X pins σ Q) X.xe s := by
  obtain ⟨a, ns, rfl, hs, q0, q⟩ := h
  obtain ⟨its, rv, hl, _⟩ := I.list hs
  rw [Vals.ref1 r]
  have hi := rv.ints
  obtain ⟨xs, e⟩ := hi.allInts.items
  have hn : numsOf (intItems xs).toList = ns := by rw [← e]; exact hi.numsOf
  rw [nums_intItems] at hn
  subst hn
  have hl2 := hl.isList
  rw [e] at hl2
  refine tn_max_ints (I.ok.hd hc) hl2 fun v h' tk hv hk => ?_
  rcases hv with ⟨z, rfl⟩ | ⟨z, hv⟩
  · exact ⟨d, H, I.kept hk, rd, q0 (List.eq_nil_of_length_eq_zero (by rw [List.length_map, Array.length_toList]; exact z))⟩
  · obtain ⟨t, rfl⟩ := intItems_at hv
    obtain ⟨h1, h2⟩ := argBest_gt (numAt xs) (xs.size - 1)
    refine ⟨.int _, H, I.kept hk, ⟨_, rfl⟩, q _ ?_ fun a ha => ?_⟩
    · rw [numAt_eq]; exact PySem.getD_mem (by rw [List.length_map, Array.length_toList]; omega)
    · obtain ⟨j, hj, rfl⟩ := mem_getD ha
      rw [List.length_map, Array.length_toList] at hj
      rw [← numAt_eq]; exact h2 j (by omega)
/-- max(a, default=b) -/
def eMaxD (ca cb : CE PV) : CE PV := fun ρ S => (ca ρ S).bind fun x S1 => (cb ρ S1).bind fun y S2 => match (lstOf x S2).bind intsOf with
  | some [] => .ok y S2
  | some (n :: ns) => .ok (.int (maxI (n :: ns))) S2
  | none => .stuck
theorem de_maxD {X : Cx} {W : WX} {p pos kp : Pos} {a b : Expr} {ca cb : CE PV} (hc : X.calm = true) (hm : X.mg "max" = none) (ha : DE X W a ca) (hb : DE X W b cb) (hg : Gl X "max" := by rfl)
    (he : backTo pos (starEach [a] X.env) = (false, eval a X.env) :: backTo pos (starEach [] X.env) := by rfl) (he2 : starEach [a] X.env = (false, eval a X.env) :: starEach [] X.env := by rfl) (hpl : (backTo pos (starEach [a] X.env)).any (·.1) = false := by rfl)
    (hall : (backToKw pos (keywordEach [⟨some "default", b, kp⟩] X.env)).all (·.1.isSome) = true := by rfl) (hkw : (backToKw pos (keywordEach [⟨some "default", b, kp⟩] X.env)).any (·.1.isNone) = false := by rfl) :
    DE X W (.Call (.Name "max" p) [a] [⟨some "default", b, kp⟩] pos) (eMaxD ca cb) := by
  refine ⟨fun pins s σ H Q I h => ?_⟩
  refine wpAny_Call_Name_kw (ld_blt I hg hm (u := .builtin "max") (by decide +kernel) ?_ (by decide) (by decide))
  obtain ⟨m, S, ρ, at_, fin⟩ := h
  refine PyProof.Rows.callWith_kw ?_ he hpl hall hkw
  refine thn ((pa_cons ha pa_nil he2).run pos pins s σ H (fun vs H1 => ∃ v, vs = [v] ∧ rdE X.K X.mg W cb σ H1 fun y H2 => rMaxD X.K y [v] H2 Q) I ⟨m, S, ρ, at_, (Fin.bind at_ fin).mono fun v H1 h1 => ⟨v, rfl, ?_⟩⟩) fun us s1 ⟨vs, H1, I1, r1, v, ev, q1⟩ => ?_
  · obtain ⟨m1, S1, x, at1, r1, e1, l1, f1⟩ := h1
    refine ⟨m1, S1, ρ, at1, (Fin.bind at1 f1).mono fun u H2 h2 => ?_⟩
    obtain ⟨m2, S2, y, at2, r2, e2, l2, f2⟩ := h2
    have rx := stbV e2 l2 r1
    cases e : lstOf x S2 with
    | none => simp only [e, Option.bind_none] at f2; exact f2.elim
    | some ys =>
      obtain ⟨b, p, us, rfl, h1, h3⟩ := lst_ok at2.rel rx e
      cases e4 : intsOf ys with
      | none => simp only [e, Option.bind_some, e4] at f2; exact f2.elim
      | some ns =>
        simp only [e, Option.bind_some, e4] at f2
        have e3 := intsOf_eq e4
        subst e3
        have e5 := ints_rps h3
        subst e5
        cases ns with
        | nil => exact ⟨p, [], rfl, h1, fun _ => f2.here at2.rel r2, fun k hk => nomatch hk⟩
        | cons n ns =>
          refine ⟨p, n :: ns, rfl, h1, fun z => (nomatch z), fun k hk hq => ?_⟩
          rw [← maxI_spec hk hq]
          exact f2.here at2.rel ⟨rfl, rfl⟩
  · subst ev
    refine thn ((pk_cons hb pk_nil).run pos pins s1 σ H1 (fun ws H2 => ∃ w, ws = [w] ∧ rMaxD X.K w [v] H2 Q) I1 ?_) fun ks s2 ⟨ws, H2, I2, r2, w, ew, q2⟩ => ?_
    · obtain ⟨m1, S1, ρ1, at1, f1⟩ := q1
      exact ⟨m1, S1, ρ1, at1, f1.mono fun w H2 q => ⟨w, rfl, q⟩⟩
    · subst ew
      cases r2 with
      | cons rw0 rr =>
        cases rr
        exact max_dflt hc I2 r1 rw0 q2
end TL

set_option Elab.async false
set_option linter.all false
set_option maxRecDepth 100000
set_option maxHeartbeats 1000000
/-! TN6: len of a dict too. -/
namespace TL
open PySem PySem.Spec PyProof.Rows L2
def lenA : FB := fun xs S => match xs with
  | [.obj i] => match S[i]? with
    | some (.dic false (p :: kvs)) => if (keyOf p.1).isSome = true then .ok (.int ((kvs.length + 1 : Nat) : Int)) S else .stuck
    | _ => lenV [.obj i] S
  | _ => lenV xs S
def rLenA (K : PySem.W.Frag) : List V → Hp → VK → Prop := fun xs H Q => (∃ x n, xs = [x] ∧ LenV K x H n ∧ Q (.int n) H) ∨ ∃ a kvs, xs = [V.ref a] ∧ H a = some (.dK kvs) ∧ Q (.int kvs.length) H
theorem call_lenA {X : Cx} : CallR X (.builtin "len") (rLenA X.K) := call_len.or call_lenD
theorem opC_lenA {K : PySem.W.Frag} {mg : Str → Option Value} : OpC K mg lenA (rLenA K) := by
  intro W σ m S H xs vs Q rel ra f
  unfold lenA at f
  split at f
  · rename_i i
    split at f
    · rename_i p kvs e
      split at f
      · rename_i hk
        obtain ⟨v, rfl, b, ev⟩ := one_of ra
        have ev' : v = .ref (m i) := ev
        subst ev'
        obtain ⟨l, h1, h2⟩ := rel.dicK e (List.mem_cons_self ..) hk
        refine .inr ⟨_, l, rfl, h1, ?_⟩
        have hl := h2.len
        rw [hl]
        exact f.here rel ⟨rfl, rfl⟩
      · exact f.elim
    · exact .inl (opC_len W σ m S H _ vs Q rel ra f)
  · exact .inl (opC_len W σ m S H _ vs Q rel ra f)
end TL

set_option Elab.async false
set_option linter.all false
set_option maxRecDepth 100000
set_option maxHeartbeats 1000000
/-! TN7: a dict that is walked is locked meanwhile: d.items(), d.values(). -/
namespace TL
open PySem PySem.Spec PyProof.Rows L2
/-! ### locked -/
section
variable {K : PySem.W.Frag} {mg : Str → Option Value} {m : Mp} {S : Store} {H : Hp}
/-- a place is written that may have been locked: the content fits -/
theorem Rel.put {m' : Mp} {S' : Store} {H' : Hp} (r : Rel K mg m' S' H') {k : Nat} {u : HO} {o : PO} (hk : k < S'.length) (he : Ext0 K S'.length m' H' m' (upd H' (m' k) u)) (hb : bndO S'.length o = true) (ho : ObR K mg m' (upd H' (m' k) u) (m' k) o) : Rel K mg m' (S'.set k o) (upd H' (m' k) u) := by
  refine ⟨fun i j hi hj e => ?_, fun i p e => ?_, fun i p e => ?_⟩
  · rw [List.length_set] at hi hj
    exact r.inj i j hi hj e
  · by_cases h : k = i
    · subst h
      rw [List.getElem?_set_self hk] at e
      cases e
      exact ho
    · rw [List.getElem?_set_ne h] at e
      have hi := (List.getElem?_eq_some_iff.mp e).1
      exact ObR.ext0 he (upd_ne fun z => h (r.inj k i hk hi z.symm)) p (r.wf i p e) (r.ob i p e)
  · rw [List.length_set]
    by_cases h : k = i
    · subst h
      rw [List.getElem?_set_self hk] at e
      cases e
      exact hb
    · rw [List.getElem?_set_ne h] at e
      exact r.wf i p e
end
/-- what a dict's place holds, as the store tells it -/
def DC (K : PySem.W.Frag) (m : Mp) (H : Hp) (kvs : List (PV × PV)) (u : HO) : Prop := (∃ l, u = .dK l ∧ KvK K m H kvs l) ∨ ∃ l, u = .dT l ∧ KvT K m H kvs l
section
variable {K : PySem.W.Frag} {mg : Str → Option Value} {m m' : Mp} {n : Nat} {H H' : Hp} {kvs : List (PV × PV)} {u : HO} {a : Addr}
theorem DC.ext0 (d : DC K m H kvs u) (e : Ext0 K n m H m' H') (b : bnds n (kvs.map (·.2)) = true) : DC K m' H' kvs u := by
  rcases d with ⟨l, q, h⟩ | ⟨l, q, h⟩
  · exact .inl ⟨l, q, KvK.ext0 e kvs l b h⟩
  · exact .inr ⟨l, q, KvT.ext0 e kvs l b h⟩
theorem DC.f (d : DC K m H kvs u) (e : H a = some u) : ObR K mg m H a (.dic false kvs) := by
  rcases d with ⟨l, rfl, h⟩ | ⟨l, rfl, h⟩
  · exact .inl ⟨l, e, h⟩
  · exact .inr ⟨l, e, h⟩
theorem DC.t (d : DC K m H kvs u) {od : Obj} (e : H a = some (.frz od u)) : ObR K mg m H a (.dic true kvs) := by
  rcases d with ⟨l, rfl, h⟩ | ⟨l, rfl, h⟩
  · exact .inl ⟨od, l, e, h⟩
  · exact .inr ⟨od, l, e, h⟩
theorem DC.of (h : ObR K mg m H a (.dic false kvs)) : ∃ u, H a = some u ∧ DC K m H kvs u := by
  rcases h with ⟨l, e, h⟩ | ⟨l, e, h⟩
  · exact ⟨_, e, .inl ⟨l, rfl, h⟩⟩
  · exact ⟨_, e, .inr ⟨l, rfl, h⟩⟩
theorem DC.mut (d : DC K m H kvs u) : Mut (some u) := by
  rcases d with ⟨l, rfl, h⟩ | ⟨l, rfl, h⟩ <;> trivial
theorem DC.no (d : DC K m H kvs u) : (∀ xs, u ≠ .tup xs) ∧ (∀ fs, u ≠ .xd fs) ∧ (∀ ob v, u ≠ .frz ob v) ∧ ∀ xs, u ≠ .lst xs := by
  rcases d with ⟨l, rfl, h⟩ | ⟨l, rfl, h⟩
  · exact ⟨(fun _ z => by cases z), (fun _ z => by cases z), (fun _ _ z => by cases z), fun _ z => by cases z⟩
  · exact ⟨(fun _ z => by cases z), (fun _ z => by cases z), (fun _ _ z => by cases z), fun _ z => by cases z⟩
end
/-- the dict in a slot is locked while c runs -/
def eLock (i : Nat) (c : CE PV) : CE PV := fun ρ S => match ρ[i]? with
  | some (some (.obj k)) => match S[k]? with
    | some (.dic false kvs) => match c ρ (S.set k (.dic true kvs)) with
      | .ok x S' => .ok x (S'.set k (.dic false kvs))
      | _ => .stuck
    | _ => .stuck
  | _ => .stuck
theorem de_lock {X : Cx} {W : WX} {a : Expr} {ca : CE PV} (i : Nat) (h : DE X W a ca) : DE X W a (eLock i ca) := by
  refine pe_imp (pe_lock h) fun σ H Q hy => ?_
  obtain ⟨m, S, ρ, at_, fin⟩ := hy
  unfold eLock at fin
  split at fin
  · rename_i k er
    split at fin
    · rename_i kvs es
      have hk := (List.getElem?_eq_some_iff.mp es).1
      have b : bnds S.length (kvs.map (·.2)) = true := at_.rel.wf k _ es
      obtain ⟨u, hu, dc⟩ := DC.of (at_.rel.ob k _ es)
      obtain ⟨n1, n2, n3, n4⟩ := dc.no
      refine ⟨m k, u, hu, dc.mut, fun od => ?_⟩
      have wr : Wr H (m k) := (at_.rel.ob k _ es).wr fun _ z => by cases z
      have ex1 : Ext X.K S.length m H m (upd H (m k) (.frz od u)) := ext_upd wr fun _ _ => rfl
      have dc1 := dc.ext0 ex1.e0 b
      refine ⟨m, S.set k (.dic true kvs), ρ, ⟨at_.rel.put hk (Ext.e0 (ext_upd wr fun _ _ => rfl)) b (dc1.t upd_same), by rw [List.length_set]; exact at_.env.ext ex1 (Nat.le_refl _)⟩, ?_⟩
      cases hc : ca ρ (S.set k (.dic true kvs)) with
      | stuck => rw [hc] at fin; exact fin.elim
      | exc c p S' => rw [hc] at fin; exact fin.elim
      | ok x S' =>
        rw [hc] at fin
        simp only at fin
        intro m' H' v e l r rr
        rw [List.length_set] at e l
        have hl := e.lk (m k) od u upd_same
        refine ⟨hl, ?_⟩
        have mk : m' k = m k := e.mi k hk
        have e2 : Ext0 X.K S'.length m' H' m' (upd H' (m k) u) := by
          refine ⟨fun _ _ => rfl, fun c xs q => ?_, fun c xs q => ?_, fun c xs q => ?_, fun c xs q => ?_⟩
          · have hc : c ≠ m k := fun z => by rw [z, hl] at q; cases q
            rw [upd_ne hc]; exact q
          · have hc : c ≠ m k := fun z => by rw [z, hl] at q; cases q
            rw [upd_ne hc]; exact q
          · rcases q with ⟨o, q⟩ | q
            · have hc : c ≠ m k := fun z => by
                rw [z, hl] at q
                have q' := Option.some.inj q
                injection q' with _ q'
                exact n4 _ q'
              exact .inl ⟨o, by rw [upd_ne hc]; exact q⟩
            · exact .inr q
          · rcases q with ⟨o, q, d⟩ | q
            · have hc : c ≠ m k := fun z => by
                rw [z, hl] at q
                have q' := Option.some.inj q
                injection q' with _ q'
                exact n1 _ q'
              exact .inl ⟨o, by rw [upd_ne hc]; exact q, d⟩
            · exact .inr q
        have ex2 : Ext X.K S.length m H m' (upd H' (m k) u) := by
          refine ⟨e.mi, fun c xs q => ?_, fun c xs q => ?_, fun c xs q => ?_, fun c o v q => ?_⟩
          · have hc : c ≠ m k := fun z => by rw [z, hu] at q; exact n1 _ (Option.some.inj q)
            rw [upd_ne hc]; exact e.tu c xs (by rw [upd_ne hc]; exact q)
          · have hc : c ≠ m k := fun z => by rw [z, hu] at q; exact n2 _ (Option.some.inj q)
            rw [upd_ne hc]; exact e.xd c xs (by rw [upd_ne hc]; exact q)
          · rcases q with ⟨o, q⟩ | q
            · have hc : c ≠ m k := fun z => by rw [z, hu] at q; exact n3 _ _ (Option.some.inj q)
              exact .inl ⟨o, by rw [upd_ne hc]; exact e.lk c o _ (by rw [upd_ne hc]; exact q)⟩
            · exact .inr q
          · have hc : c ≠ m k := fun z => by rw [z, hu] at q; exact n3 _ _ (Option.some.inj q)
            rw [upd_ne hc]; exact e.lk c o v (by rw [upd_ne hc]; exact q)
        have hk' : k < S'.length := Nat.lt_of_lt_of_le hk l
        have rel2 : Rel X.K X.mg m' (S'.set k (.dic false kvs)) (upd H' (m' k) u) := r.put hk' (by rw [mk]; exact e2) (bnds_mono l _ b) (by rw [mk]; exact (dc.ext0 ex2.e0 b).f upd_same)
        rw [mk] at rel2
        exact fin m' _ v ex2 (by rw [List.length_set]; exact l) rel2 (by rw [List.length_set]; exact ⟨rr.1, Rp.ext0 e2 _ _ rr.1 rr.2⟩)
    · exact fin.elim
  · exact fin.elim
/-! ### d.items(), d.values() -/
section
variable {X : Cx} {pins : List (Addr × Obj)} {σ : L2.St} {H : Hp} {s : Shared} {d : Addr} {o : Obj}
theorem frzT2 {kvs : List (List Key × V)} (I : Inv X pins σ H s) (h : H d = some (.frz o (.dT kvs))) :
    (d == sysModules) = false ∧ s.heap.get? d = some o ∧ o.ExactDict ∧ ∃ (es : Array DictEntry) (ep : Nat), o.data = .dict es ep ∧ es.size = kvs.length ∧
      ∀ (i : Nat) (k : List Key) (v : V), kvs[i]? = some (k, v) → ∃ (en : DictEntry) (q : Addr), es[i]? = some en ∧ en.key = .ref q ∧ H q = some (.tup (k.map kV)) ∧ RelV v en.val := by
  obtain ⟨hd, z, hs, xs, pr, o', es, ep, ho, hx, hdt, he, _⟩ := I.hok d _ h
  rw [hd] at ho
  cases ho
  refine ⟨hs, hd, hx, es, ep, hdt, ?_, fun i k v e => ?_⟩
  · have l1 : es.size = xs.length := size_of_entries he
    have l2 : kvs.length = xs.length := Paired.length pr
    omega
  · obtain ⟨b, hb, e1, e2, e3⟩ := paired_get pr e
    have q := entry_at he i
    rw [hb] at q
    exact ⟨_, b.2.1, q, rfl, e2, e3⟩
end
def ItiT (d : Addr) (o : Obj) (kvs : List (List Key × V)) : It :=
  ⟨fun i H => H d = some (.frz o (.dT kvs)) ∧ i < kvs.length, fun i H x H' => ∃ T k v q, kvs[i]? = some (k, v) ∧ x = .ref T ∧ H T = none ∧ H q = some (.tup (k.map kV)) ∧ H' = upd H T (.tup [.ref q, v]), fun i H => H d = some (.frz o (.dT kvs)) ∧ kvs.length ≤ i⟩
theorem turn_itemsT {P : Program} {w : World} {K : PySem.W.Frag} {d : Addr} {o : Obj} {es : Array DictEntry} {ep : Nat} {kvs : List (List Key × V)} {elts : List Expr} {kk : Nat} {tpos : Pos} (it : Addr) (hod : o.data = .dict es ep) :
    Turn P w K (.Tuple elts kk tpos) (ItiT d o kvs) [it] it (fun i h => ∃ ok ov, IsItemIter h it d i kvs.length ep ok ov) where
  mem := by simp
  obj := fun i h st b hb => by
    have e : b = it := by simpa using hb
    subst e
    obtain ⟨ok, ov, e⟩ := st
    exact ⟨_, e, fun v z => nomatch z⟩
  keep := fun i h h' st k => let ⟨ok, ov, e⟩ := st; ⟨ok, ov, k it (by simp) _ e⟩
  item := by
    intro X hP hw hK hc i pins s σ H E I hf st hg
    subst hP hw hK
    obtain ⟨hd, hi⟩ := hg
    obtain ⟨hs, hgd, hx, es', ep', hdt, hsz, ent⟩ := frzT2 I hd
    obtain ⟨rfl, rfl⟩ := dict_ep hod hdt
    obtain ⟨⟨k, v⟩, hkv⟩ : ∃ p, kvs[i]? = some p := ⟨kvs[i], List.getElem?_eq_getElem hi⟩
    obtain ⟨en, q, hen, hkey, hq, rv⟩ := ent i k v hkv
    obtain ⟨hlt', een⟩ := Array.getElem?_eq_some_iff.mp hen
    obtain ⟨ok, ov, he⟩ := st
    rw [← hsz] at he
    have hlt : it < s.heap.objs.size := Heap.lt_size he
    refine wpAny_pyNext_items_item_raw he ⟨o, hgd, hx, hod⟩ hlt' fun h' ho hT hz hk => ?_
    rw [een] at ho hT
    refine ⟨_, rfl, wpAny_letOwnedTupleGo_items (s := { s with heap := h' }) ho fun h'' he' sb => ?_⟩
    have hT2 : h''.get? s.heap.objs.size = some { cls := .type "tuple", data := .seq #[en.key, en.val] } := (sb.2 _ (Nat.ne_of_gt hlt)).trans hT
    have new : ObjOk X.prog X.w (upd H s.heap.objs.size (.tup [.ref q, v])) h'' s.heap.objs.size (.tup [.ref q, v]) :=
      ⟨by show 2 ≤ sizeLine; decide, [en.key, en.val], .cons (show en.key = Value.ref q from hkey) (.cons rv .nil), ⟨_, hT2, rfl, _, rfl⟩⟩
    have I1 : Inv X pins σ (upd H s.heap.objs.size (.tup [.ref q, v])) { s with heap := h'' } :=
      I.turnedNew (t' := s.toks) (ch := [it]) (fun b ob hb e => (sb.2 b (by simpa using hb)).trans (hk b ob (by simpa using hb) e)) hf (Nat.le_refl _) new
    refine ⟨.ref s.heap.objs.size, _, I1, rfl, ⟨_, k, v, q, hkv, rfl, I.hok.fresh (Nat.le_refl _), hq, rfl⟩, ⟨en.key, en.val, ?_⟩, fun b hb => ?_⟩
    · rw [← hsz]; exact he'
    · have e : b = it := by simpa using hb
      rw [e, upd_ne (Nat.ne_of_lt hlt)]
      exact (hf it (by simp)).1
  done := by
    intro X hP hw hK hc i pins s σ H E I hf st hg
    subst hP hw hK
    obtain ⟨hd, hi⟩ := hg
    obtain ⟨hs, hgd, hx, es', ep', hdt, hsz, ent⟩ := frzT2 I hd
    obtain ⟨rfl, rfl⟩ := dict_ep hod hdt
    obtain ⟨ok, ov, he⟩ := st
    rw [← hsz] at he
    exact wpAny_pyNext_items_end_raw (I.ok.hd hc) he ⟨o, hgd, hx, hod⟩ (by omega) fun h' eb => ⟨rfl, I.turned (t' := s.toks) (fun b ob hb e => eb b ob hb e) (hf it (by simp)).1 (hf it (by simp)).2.1 (hf it (by simp)).2.2.2.1 (hf it (by simp)).2.2.2.2.1 (hf it (by simp)).2.2.2.2.2⟩
  self := fun A i s Q E st h => let ⟨_, _, e⟩ := st; PySem.W.kcp_self e h
def iItems2 (td : TE) : TI := fun σ H R => td σ H fun x H1 => ∃ d o, x = .ref d ∧ ((∃ kvs, H1 d = some (.frz o (.dK kvs)) ∧ R (Iti d o kvs) H1) ∨ ∃ kvs, H1 d = some (.frz o (.dT kvs)) ∧ R (ItiT d o kvs) H1)
theorem pi_items2 {X : Cx} {e : Expr} {td : TE} {apos cpos tpos : Pos} {elts : List Expr} {kk : Nat} (he : PE X e td) (hbase : attributeBase e "items" X.env (eval e X.env) = eval e X.env := by rfl) (hline : (apos.endLine == cpos.line) = true := by rfl) :
    PI X (.Tuple elts kk tpos) (.Call (.Attribute e "items" apos) [] [] cpos) (iItems2 td) := by
  refine ⟨fun pins s σ H R I h => ?_⟩
  refine wpAny_Call_method (T := "dict") (id := "dict.items") hbase rfl hline F.plainAttrs_dict F.slot_dict_items F.type_dict_items (thn (he.run pins s σ H _ I h) fun u s1 ⟨x, H1, I1, rx, d, o, ex, q⟩ => ?_)
  subst ex
  obtain rfl : u = Value.ref d := rx
  have raw : (d == sysModules) = false ∧ ∃ es ep, s1.heap.DictRaw d es ep ∧ ∃ n, es.size = n ∧ wpAny (model X.prog X.w) X.A (pyIter (.ref s1.heap.objs.size)) (PIE X pins σ (.Tuple elts kk tpos) R) X.xe { s1 with heap := s1.heap.push { cls := .type "dict_items", data := .fields #[.ref d] } } := by
    have I2 : Inv X pins σ H1 { s1 with heap := s1.heap.push { cls := .type "dict_items", data := .fields #[.ref d] } } := I1.kept (t' := s1.toks) fun b ob q => Heap.get?_push_of_some _ q
    rcases q with ⟨kvs, hd, q⟩ | ⟨kvs, hd, q⟩
    · obtain ⟨hs, hgd, hx, es, ep, vs, hdt, hsz, kv, hm⟩ := I1.frzK hd
      refine ⟨hs, es, ep, ⟨o, hgd, hx, hdt⟩, _, rfl, ?_⟩
      refine wpAny_pyIter_items_raw (d := d) (es := es) (ep := ep) ⟨_, Heap.get?_push_size _ rfl, rfl, rfl⟩ ⟨o, Heap.get?_push_of_some _ hgd, hx, hdt⟩ (pi_one (tk := s1.toks) I2 _ (turn_items _ hdt) ⟨.none, .none, ?_⟩ q)
      rw [← hsz]
      exact Heap.get?_push_size _ rfl
    · obtain ⟨hs, hgd, hx, es, ep, hdt, hsz, ent⟩ := frzT2 I1 hd
      refine ⟨hs, es, ep, ⟨o, hgd, hx, hdt⟩, _, rfl, ?_⟩
      refine wpAny_pyIter_items_raw (d := d) (es := es) (ep := ep) ⟨_, Heap.get?_push_size _ rfl, rfl, rfl⟩ ⟨o, Heap.get?_push_of_some _ hgd, hx, hdt⟩ (pi_one (tk := s1.toks) I2 _ (turn_itemsT _ hdt) ⟨.none, .none, ?_⟩ q)
      rw [← hsz]
      exact Heap.get?_push_size _ rfl
  obtain ⟨hs, es, ep, hm, n, _, fin⟩ := raw
  refine ⟨hm.typeIs, fun b eb => ?_, ?_⟩
  · cases eb
    obtain ⟨ob, ho, hx, _⟩ := hm
    exact ⟨ob, ho, hx.2.1⟩
  · show wpAny _ _ (callWith cpos (.builtin "dict.items") [.ref d] [] []) _ X.xe s1
    exact method_meetsIn F.slot_dict_items F.entry_dict_items rfl (PySem.evalArgs_none ⟨rfl, hm.typeIs, F.args_dict_items_1 _, _, meets_dict_items_raw d hs, ⟨es, ep, hm⟩, fin⟩)
def itemsD (x : PV) (S : Store) : Res (List PV × Chk) := match x with
  | .obj i => match S[i]? with
    | some (.dic true kvs) => .ok (kvs.map fun p => .tup [p.1, p.2], [(i, .dic true kvs)]) S
    | _ => .stuck
  | _ => .stuck
def iItemsP (c : CE PV) : CE (List PV × Chk) := fun ρ S => (c ρ S).bind itemsD
section
variable {K : PySem.W.Frag} {m : Mp} {H : Hp}
theorem keyOf_rp {x : PV} {k : Key} (h : keyOf x = some k) : Rp K m H x (kV k) ∧ ∀ n, bnd n x = true := by
  cases x with
  | int i => cases h; exact ⟨rfl, fun _ => rfl⟩
  | str z => cases h; exact ⟨rfl, fun _ => rfl⟩
  | _ => cases h
theorem KvK.at_ : ∀ {kvs : List (PV × PV)} {l : List (Key × V)} {i : Nat} {k : Key} {v : V}, KvK K m H kvs l → l[i]? = some (k, v) → ∃ p, kvs[i]? = some p ∧ keyOf p.1 = some k ∧ Rp K m H p.2 v
  | [], l, i, k, v, h, e => by
    have h' : l = [] := h
    subst h'
    cases e
  | p :: ps, l, i, k, v, h, e => by
    obtain ⟨q, r, rfl, h1, h2, h3⟩ := h
    cases i with
    | zero => cases e; exact ⟨p, rfl, h1, h2⟩
    | succ i => exact KvK.at_ (kvs := ps) (l := r) (i := i) h3 (by simpa using e)
theorem KvT.at_ : ∀ {kvs : List (PV × PV)} {l : List (List Key × V)} {i : Nat} {k : List Key} {v : V}, KvT K m H kvs l → l[i]? = some (k, v) → ∃ p, kvs[i]? = some p ∧ tkeyOf p.1 = some k ∧ Rp K m H p.2 v
  | [], l, i, k, v, h, e => by
    have h' : l = [] := h
    subst h'
    cases e
  | p :: ps, l, i, k, v, h, e => by
    obtain ⟨q, r, rfl, h1, h2, h3⟩ := h
    cases i with
    | zero => cases e; exact ⟨p, rfl, h1, h2⟩
    | succ i => exact KvT.at_ (kvs := ps) (l := r) (i := i) h3 (by simpa using e)
theorem KvK.len2 : ∀ {kvs : List (PV × PV)} {l : List (Key × V)}, KvK K m H kvs l → l.length = kvs.length
  | [], l, h => by
    have h' : l = [] := h
    subst h'
    rfl
  | p :: ps, l, h => by
    obtain ⟨q, r, rfl, h1, h2, h3⟩ := h
    rw [List.length_cons, List.length_cons, KvK.len2 h3]
theorem KvT.len2 : ∀ {kvs : List (PV × PV)} {l : List (List Key × V)}, KvT K m H kvs l → l.length = kvs.length
  | [], l, h => by
    have h' : l = [] := h
    subst h'
    rfl
  | p :: ps, l, h => by
    obtain ⟨q, r, rfl, h1, h2, h3⟩ := h
    rw [List.length_cons, List.length_cons, KvT.len2 h3]
end
section
variable {X : Cx} {W : WX}
theorem itR_items {K : PySem.W.Frag} {mg : Str → Option Value} {m : Mp} {S : Store} {H : Hp} {i : Nat} {kvs : List (PV × PV)} {l : List (Key × V)} {o : Obj} (hi : i < S.length) (h0 : H (m i) = some (.frz o (.dK l))) (hkv : KvK K m H kvs l) (b : bnds S.length (kvs.map (·.2)) = true) :
    ItR K mg (Iti (m i) o l) (kvs.map fun p => .tup [p.1, p.2]) [(i, .dic true kvs)] S.length m H := by
  have hl := hkv.len2
  refine ⟨fun m' S' H' e l' r c => ⟨e.lk _ _ _ h0, by rw [List.length_map, hl]; exact Nat.le_refl _⟩, fun j m' S' H' e l' r c hj => ⟨e.lk _ _ _ h0, by rw [hl]; simpa using hj⟩, fun j m' S' H' v H'' e l' r c hj y => ?_⟩
  obtain ⟨T, k, w, e1, rfl, hT, rfl⟩ := y
  obtain ⟨p, hp, hk, hw⟩ := (KvK.ext e kvs l b hkv).at_ e1
  have e0 : Ext K S'.length m' H' m' (upd H' T (.tup [kV k, w])) := ext_new hT fun _ _ => rfl
  have bp : bnd S'.length p.2 = true := bnd_mono l' _ (bnds_all.mp b _ (List.mem_map_of_mem (List.mem_of_getElem? hp)))
  obtain ⟨k1, k2⟩ := keyOf_rp (K := K) (m := m') (H := upd H' T (.tup [kV k, w])) hk
  refine ⟨.tup [p.1, p.2], by rw [List.getElem?_map, hp]; rfl, e0, r.newT hT, ⟨?_, ?_⟩, fun D hD => upd_ne fun z => hD (by rw [z]; exact hT)⟩
  · show (bnd S'.length p.1 && (bnd S'.length p.2 && true)) = true
    rw [k2, bp]
    rfl
  · exact ⟨T, [kV k, w], rfl, upd_same, ⟨_, _, rfl, k1, _, _, rfl, hw.ext e0 _ _ bp, rfl⟩⟩
theorem itR_itemsT {K : PySem.W.Frag} {mg : Str → Option Value} {m : Mp} {S : Store} {H : Hp} {i : Nat} {kvs : List (PV × PV)} {l : List (List Key × V)} {o : Obj} (hi : i < S.length) (h0 : H (m i) = some (.frz o (.dT l))) (hkv : KvT K m H kvs l) (b : bnds S.length (kvs.map (·.2)) = true) :
    ItR K mg (ItiT (m i) o l) (kvs.map fun p => .tup [p.1, p.2]) [(i, .dic true kvs)] S.length m H := by
  have hl := hkv.len2
  refine ⟨fun m' S' H' e l' r c => ⟨e.lk _ _ _ h0, by rw [List.length_map, hl]; exact Nat.le_refl _⟩, fun j m' S' H' e l' r c hj => ⟨e.lk _ _ _ h0, by rw [hl]; simpa using hj⟩, fun j m' S' H' v H'' e l' r c hj y => ?_⟩
  obtain ⟨T, k, w, q, e1, rfl, hT, hq, rfl⟩ := y
  obtain ⟨p, hp, hk, hw⟩ := (KvT.ext e kvs l b hkv).at_ e1
  have e0 : Ext K S'.length m' H' m' (upd H' T (.tup [.ref q, w])) := ext_new hT fun _ _ => rfl
  have bp : bnd S'.length p.2 = true := bnd_mono l' _ (bnds_all.mp b _ (List.mem_map_of_mem (List.mem_of_getElem? hp)))
  cases ep : p.1 with
  | tup xs =>
    rw [ep] at hk
    obtain ⟨r1, r2⟩ := keysOf_rps (K := K) (m := m') (H := upd H' T (.tup [.ref q, w])) (show keysOf xs = some k from hk)
    refine ⟨.tup [p.1, p.2], by rw [List.getElem?_map, hp]; rfl, e0, r.newT hT, ⟨?_, ?_⟩, fun D hD => upd_ne fun z => hD (by rw [z]; exact hT)⟩
    · show (bnd S'.length p.1 && (bnd S'.length p.2 && true)) = true
      rw [ep, bp]
      show (bnds S'.length xs && _) = true
      rw [r2]
      rfl
    · refine ⟨T, [.ref q, w], rfl, upd_same, ⟨_, _, rfl, ?_, _, _, rfl, hw.ext e0 _ _ bp, rfl⟩⟩
      rw [ep]
      exact ⟨q, _, rfl, by rw [upd_ne fun z => by rw [z, hT] at hq; cases hq]; exact hq, r1⟩
  | _ => rw [ep] at hk; cases hk
theorem di_items {elts : List Expr} {kk : Nat} {tpos apos cpos : Pos} {a : Expr} {ca : CE PV} (ha : DE X W a ca) (hbase : attributeBase a "items" X.env (eval a X.env) = eval a X.env := by rfl) (hline : (apos.endLine == cpos.line) = true := by rfl) :
    DI X W (.Tuple elts kk tpos) (.Call (.Attribute a "items" apos) [] [] cpos) (iItemsP ca) := by
  refine pi_imp (pi_items2 ha hbase hline) fun σ H R h => ?_
  obtain ⟨m, S, ρ, at_, fin⟩ := h
  refine ⟨m, S, ρ, at_, (Fin.bind at_ fin).mono fun v H1 h1 => ?_⟩
  obtain ⟨m1, S1, x, at1, r1, e1, l1, f1⟩ := h1
  unfold itemsD at f1
  split at f1
  · rename_i i
    split at f1
    · rename_i kvs es
      have ev : v = .ref (m1 i) := r1.2
      subst ev
      have hi := (List.getElem?_eq_some_iff.mp es).1
      rcases at1.rel.ob i _ es with ⟨o, l, h1, h2⟩ | ⟨o, l, h1, h2⟩
      · exact ⟨m1 i, o, rfl, .inl ⟨l, h1, f1.here at1.rel (itR_items hi h1 h2 (at1.rel.wf i _ es))⟩⟩
      · exact ⟨m1 i, o, rfl, .inr ⟨l, h1, f1.here at1.rel (itR_itemsT hi h1 h2 (at1.rel.wf i _ es))⟩⟩
    · exact f1.elim
  · exact f1.elim
def valuesD (x : PV) (S : Store) : Res (List PV × Chk) := match x with
  | .obj i => match S[i]? with
    | some (.dic true kvs) => if kvs ≠ [] ∧ (kvs.all fun p => (keyOf p.1).isSome) = true then .ok (kvs.map (·.2), [(i, .dic true kvs)]) S else .stuck
    | _ => .stuck
  | _ => .stuck
def iValuesP (c : CE PV) : CE (List PV × Chk) := fun ρ S => (c ρ S).bind valuesD
theorem itR_vals {K : PySem.W.Frag} {mg : Str → Option Value} {m : Mp} {S : Store} {H : Hp} {i : Nat} {kvs : List (PV × PV)} {l : List (Key × V)} {o : Obj} (h0 : H (m i) = some (.frz o (.dK l))) (hkv : KvK K m H kvs l) (b : bnds S.length (kvs.map (·.2)) = true) :
    ItR K mg (Itd (m i) o l) (kvs.map (·.2)) [(i, .dic true kvs)] S.length m H := by
  have hl := hkv.len2
  refine ⟨fun m' S' H' e l' r c => ⟨e.lk _ _ _ h0, by rw [List.length_map, hl]; exact Nat.le_refl _⟩, fun j m' S' H' e l' r c hj => ⟨e.lk _ _ _ h0, by rw [hl]; simpa using hj⟩, fun j m' S' H' v H'' e l' r c hj y => ?_⟩
  obtain ⟨rfl, k, e1⟩ := y
  obtain ⟨p, hp, hk, hw⟩ := (KvK.ext e kvs l b hkv).at_ e1
  have bp : bnd S'.length p.2 = true := bnd_mono l' _ (bnds_all.mp b _ (List.mem_map_of_mem (List.mem_of_getElem? hp)))
  exact ⟨p.2, by rw [List.getElem?_map, hp]; rfl, Ext.refl, r, ⟨bp, hw⟩, fun _ _ => rfl⟩
theorem di_values {tg : Expr} {apos cpos : Pos} {a : Expr} {ca : CE PV} (ha : DE X W a ca) (hbase : attributeBase a "values" X.env (eval a X.env) = eval a X.env := by rfl) (hline : (apos.endLine == cpos.line) = true := by rfl) :
    DI X W tg (.Call (.Attribute a "values" apos) [] [] cpos) (iValuesP ca) := by
  refine pi_imp (pi_values ha hbase hline) fun σ H R h => ?_
  obtain ⟨m, S, ρ, at_, fin⟩ := h
  refine ⟨m, S, ρ, at_, (Fin.bind at_ fin).mono fun v H1 h1 => ?_⟩
  obtain ⟨m1, S1, x, at1, r1, e1, l1, f1⟩ := h1
  unfold valuesD at f1
  split at f1
  · rename_i i
    split at f1
    · rename_i kvs es
      split at f1
      · rename_i hc
        have ev : v = .ref (m1 i) := r1.2
        subst ev
        rcases at1.rel.ob i _ es with ⟨o, l, h1, h2⟩ | ⟨o, l, h1, h2⟩
        · exact ⟨m1 i, o, l, rfl, h1, f1.here at1.rel (itR_vals h1 h2 (at1.rel.wf i _ es))⟩
        · exact absurd (KvT.nok h2 hc.2) hc.1
      · exact f1.elim
    · exact f1.elim
  · exact f1.elim
end
@[simp] theorem iItemsP_ap (c : CE PV) (ρ : Sl) (S : Store) : iItemsP c ρ S = (c ρ S).bind itemsD := rfl
@[simp] theorem iValuesP_ap (c : CE PV) (ρ : Sl) (S : Store) : iValuesP c ρ S = (c ρ S).bind valuesD := rfl
/-- the locked walk -/
theorem eLock_of {i k : Nat} {c : CE PV} {ρ : Sl} {S S' : Store} {kvs : List (PV × PV)} {x : PV} (h1 : ρ[i]? = some (some (.obj k))) (h2 : S[k]? = some (.dic false kvs)) (h3 : c ρ (S.set k (.dic true kvs)) = .ok x S') : eLock i c ρ S = .ok x (S'.set k (.dic false kvs)) := by
  unfold eLock
  simp only [h1, h2, h3]
theorem itemsD_of {i : Nat} {kvs : List (PV × PV)} {S : Store} (h : S[i]? = some (.dic true kvs)) : itemsD (.obj i) S = .ok (kvs.map fun p => .tup [p.1, p.2], [(i, .dic true kvs)]) S := by
  unfold itemsD
  simp only [h]
theorem valuesD_of {i : Nat} {kvs : List (PV × PV)} {S : Store} (h : S[i]? = some (.dic true kvs)) (h0 : kvs ≠ []) (hk : (kvs.all fun p => (keyOf p.1).isSome) = true) : valuesD (.obj i) S = .ok (kvs.map (·.2), [(i, .dic true kvs)]) S := by
  unfold valuesD
  simp only [h]
  rw [if_pos ⟨h0, hk⟩]
end TL

set_option Elab.async false
set_option linter.all false
set_option maxRecDepth 100000
set_option maxHeartbeats 1000000
/-! TN8: set(xs), xs a list or a tuple of keys of one kind. -/
namespace PySem
/-- what is met, each once -/
def tnMet {K : Type} [DecidableEq K] (val : Nat → K) : Nat → List K
  | 0 => []
  | i + 1 => if val i ∈ tnMet val i then tnMet val i else tnMet val i ++ [val i]
theorem tnMet_len {K : Type} [DecidableEq K] (val : Nat → K) : ∀ i, (tnMet val i).length ≤ i
  | 0 => Nat.le_refl _
  | i + 1 => by
    have ih := tnMet_len val i
    unfold tnMet
    split
    · omega
    · rw [List.length_append, List.length_singleton]; omega
theorem tnMet_mem {K : Type} [DecidableEq K] (val : Nat → K) (i : Nat) (k : K) : decide (k ∈ tnMet val (i + 1)) = (decide (k ∈ tnMet val i) || decide (k = val i)) := by
  show decide (k ∈ if val i ∈ tnMet val i then tnMet val i else tnMet val i ++ [val i]) = _
  by_cases h : val i ∈ tnMet val i
  · rw [if_pos h]
    by_cases e : k = val i
    · subst e; simp [h]
    · simp [e]
  · rw [if_neg h]
    simp [List.mem_append]
theorem tnMet_len2 {K : Type} [DecidableEq K] (val : Nat → K) (i : Nat) : (tnMet val (i + 1)).length = if decide (val i ∈ tnMet val i) = true then (tnMet val i).length else (tnMet val i).length + 1 := by
  show (if val i ∈ tnMet val i then tnMet val i else tnMet val i ++ [val i]).length = _
  by_cases h : val i ∈ tnMet val i
  · rw [if_pos h, if_pos (decide_eq_true h)]
  · rw [if_neg h, if_neg (by simpa using h)]
    simp
section
open PyProof.Rows
variable {prog : Program} {w : World} {A : Around} {R : Result → Shared → Prop} {I : Addr} {fp wr : List Addr} {G : Array GenState → Array GenState → Prop} {n : Nat} {P : Nat → Value → Prop} {St : Nat → Shared → Prop}
theorem tn_setOf_congr {K : Type} [DecidableEq K] {knd : KeyKind prog w K} {h : Heap} {a : Addr} {S S' : K → Bool} {n n' : Nat} (hS : h.SetOf knd a S n) (e : ∀ k, S k = S' k) (en : n = n') : h.SetOf knd a S' n' := by
  have : S = S' := funext e
  subst this; subst en; exact hS
theorem tn_set_loop {K : Type} [DecidableEq K] (knd : KeyKind prog w K) (W : WalksS prog w A.in1 I fp wr G n P St) (S : Addr) (hSf : S ∉ fp)
    (val : Nat → K) (hval : ∀ i v, P i v → knd.is (val i) v = true ∧ v.scannable = true) (hb : n + 1 < scanBound) :
    ∀ (k i : Nat) (s : Shared), n - i = k → i ≤ n → St i s →
      s.heap.SetOf knd S (fun k' => decide (k' ∈ tnMet val i)) (tnMet val i).length →
      (∀ s', Moved (S :: wr) G s s' → s'.heap.SetOf knd S (fun k' => decide (k' ∈ tnMet val n)) (tnMet val n).length → R (.ok (.ret .none)) s') →
      codeAny (model prog w) A (.builtin "set.update.loop" ⟨[.ref S, .ref I], []⟩) R s := by
  have hSw : S ∉ wr := fun h => hSf (W.sub _ h)
  have hsub : ∀ b ∈ wr, b ∈ S :: wr := fun b hb => List.mem_cons_of_mem _ hb
  intro k
  induction k with
  | zero =>
    intro i s hk hi hst hS hR
    have hin : i = n := by omega
    subst hin
    refine codeAny_builtin PyProof.Rows.F.entry_set_update_loop ?_
    rw [Around.under_plainId PyProof.Rows.F.plain_set_update_loop _]
    show wpAny _ A.in1 (pyNext (.ref I) >>= _) _ _ s
    refine wpAny_bind (W.done s _ _ hst fun s' hm => ?_)
    show wpAny _ A.in1 (ret Value.none) _ _ s'
    exact wpAny_pure (hR s' (hm.mono hsub) (by
      obtain ⟨o, es, ep, t, ho, rest⟩ := hS
      exact ⟨o, es, ep, t, hm.heap S _ hSw ho, rest⟩))
  | succ k ih =>
    intro i s hk hi hst hS hR
    have hlt : i < n := by omega
    refine codeAny_builtin PyProof.Rows.F.entry_set_update_loop ?_
    rw [Around.under_plainId PyProof.Rows.F.plain_set_update_loop _]
    show wpAny _ A.in1 (pyNext (.ref I) >>= _) _ _ s
    refine wpAny_bind (W.item i s _ _ hlt hst fun v s' hP hst' hm => ?_)
    obtain ⟨hk1, hsc⟩ := hval i v hP
    have hS' : s'.heap.SetOf knd S (fun k' => decide (k' ∈ tnMet val i)) (tnMet val i).length := by
      obtain ⟨o, es, ep, tb, ho, rest⟩ := hS
      exact ⟨o, es, ep, tb, hm.heap S _ hSw ho, rest⟩
    show wpAny _ A.in1 (holding [v] (setAdd S v) >>= _) _ _ s'
    refine wpAny_bind (wpAny_holding ?_)
    unfold setAdd
    refine wpAny_holding ?_
    refine wpAny_bind (knd.pyHash (k := val i) hk1 ?_)
    have hroom : (tnMet val i).length + 1 < scanBound := by have := tnMet_len val i; omega
    refine wpAny_setAddHashed_of (knd := knd) (s := { s' with toks := s'.toks + 1 }) hk1 hsc hS' hroom fun h' hsb hS2 => ?_
    have hSi : h'.SetOf knd S (fun k' => decide (k' ∈ tnMet val (i + 1))) (tnMet val (i + 1)).length :=
      tn_setOf_congr hS2 (fun k' => (tnMet_mem val i k').symm) (tnMet_len2 val i).symm
    refine wpAny_pure ⟨plainId_quiet PyProof.Rows.F.plain_set_update_loop _, ih (i + 1) _ (by omega) hlt (W.frame _ s' _ _ hst' (Nat.le_succ _) fun b hb o e => ?_) hSi fun s'' hm'' hS'' => ?_⟩
    · rw [hsb.2 b (fun h : b = S => hSf (by rw [← h]; exact hb))]; exact e
    · refine hR s'' (Moved.trans W.gtrans ((hm.mono hsub).then_heap (Nat.le_succ _) fun b o hb e => ?_) hm'') hS''
      rw [hsb.2 b (fun h : b = S => hb (by rw [h]; exact List.mem_cons_self))]; exact e
end
section
variable {prog : Program} {w : World} {A : Around} {E : Value → Shared → Prop} {s : Shared}
set_option maxHeartbeats 3200000 in
theorem tn_set_list {l : Addr} {items : Array Value} {K : Type} [DecidableEq K] (knd : KeyKind prog w K) (val : Nat → K) {Q : Value → Shared → Prop}
    (hh : A.handled = none) (hl : s.heap.IsList l items) (hval : ∀ (i : Nat) (v : Value), items[i]? = some v → knd.is (val i) v = true ∧ v.scannable = true) (hb : items.size + 1 < scanBound)
    (h : ∀ (h' : Heap) (tk : Nat), h'.SetOf knd s.heap.objs.size (fun k' => decide (k' ∈ tnMet val items.size)) (tnMet val items.size).length →
      (∀ b o, b < s.heap.objs.size → s.heap.get? b = some o → h'.get? b = some o) → Q (.ref s.heap.objs.size) { s with heap := h', toks := tk }) :
    wpAny (model prog w) A (call (.type "set") [.ref l]) Q E s := by
  obtain ⟨c, tl, hmro⟩ := F.called_set.mro
  have hmade := F.called_set.made
  have hsub := F.called_set.sub
  refine wpAny_call (codeAny_of_tree ?_)
  show wpAny _ _ (callAny (.type "set") _) _ _ _
  refine wpAny_pure ⟨Code.quiet_builtin _ (by decide +kernel), codeAny_builtin F.entry_type_call ?_⟩
  rw [Around.under_plain (weight_type_call_type "set" [.ref l] []) rfl]
  have h1 := F.called_set.notType
  have h2 := F.called_set.canCreate
  have hct := F.typeCall_set_1 (.ref l)
  repeat (any_goals (first | assumption | wp_step))
  refine codeAny_mono (code_set_new_1 (.ref l) (E := E) (Q₁ := fun obj s₁ => ∃ led : Bool, obj = .ref s.heap.objs.size ∧ s₁ = { s with heap := s.heap.push { cls := .type "set", dict := none, data := .set #[] 0 (.fresh 0 0 led) } }) fun led => ⟨led, rfl, rfl⟩) fun r s₁ hr => ?_
  cases r with
  | error e => exact hr
  | ok fl =>
    cases fl with
    | ret obj =>
      obtain ⟨led, rfl, rfl⟩ := hr
      have hS : (s.heap.push { cls := .type "set", dict := none, data := .set #[] 0 (.fresh 0 0 led) }).get? s.heap.objs.size = some { cls := .type "set", dict := none, data := .set #[] 0 (.fresh 0 0 led) } := Heap.get?_push_size _ rfl
      have hT : Shared.TypeIs { s with heap := s.heap.push { cls := .type "set", dict := none, data := .set #[] 0 (.fresh 0 0 led) } } (.ref s.heap.objs.size) "set" := ⟨_, hS, rfl⟩
      have hli := F.called_set.init.lookup
      have hbi := F.called_set.init.bind (.ref s.heap.objs.size)
      repeat (any_goals (first | assumption | wp_step))
      refine codeAny_mono (codeAny_call_builtin (R := wants (fun r s₂ => r = .none ∧ ∃ h' tk, s₂ = { s with heap := h', toks := tk } ∧
          h'.SetOf knd s.heap.objs.size (fun k' => decide (k' ∈ tnMet val items.size)) (tnMet val items.size).length ∧
          (∀ b o, b < s.heap.objs.size → s.heap.get? b = some o → h'.get? b = some o)) E) F.called_set.init.plain F.entry_set_init (check_set_init_1 hT ?_)) fun r₂ s₂ hr₂ => ?_
      · obtain ⟨ol, hol, hcl, nl, hdl⟩ := hl
        obtain ⟨ocls, odict, odata, oslots⟩ := ol
        simp only at hcl hdl
        subst hcl; subst hdl
        have hol' : (s.heap.push { cls := .type "set", dict := none, data := .set #[] 0 (.fresh 0 0 led) }).get? l = some { cls := .type "list", dict := odict, data := .seq items nl, slots := oslots } := Heap.get?_push_of_some _ hol
        have hsls := F.sub_list_set
        have hslf := F.sub_list_frozenset
        have hne : (Value.type "list" == Value.type "dict") = false := by decide
        have hl1 : (s.heap.push { cls := .type "set", dict := none, data := .set #[] 0 (.fresh 0 0 led) }).IsList l items := ⟨_, hol', rfl, nl, rfl⟩
        unfold Builtin.«set.__init__» noKeywords Builtin.Frozenset.updateFrom
        generalize hPI : pyIter = PI
        wp_walk
        subst hPI
        refine wpAny_pyIter_list hl1 ?_
        refine wpAny_bind (wpAny_runValue ?_)
        have hlS : l < s.heap.objs.size := Heap.lt_size hol
        have hh3 : A.in1.in1.in1.handled = none := by simp [hh]
        have hneI : l ≠ (s.heap.push { cls := .type "set", dict := none, data := .set #[] 0 (.fresh 0 0 led) }).objs.size := by
          rw [Heap.size_push]; exact Nat.ne_of_lt (Nat.lt_succ_of_lt hlS)
        have hSf : s.heap.objs.size ∉ [(s.heap.push { cls := .type "set", dict := none, data := .set #[] 0 (.fresh 0 0 led) }).objs.size, l] := by
          rw [Heap.size_push]; simp only [List.mem_cons, List.mem_singleton, List.not_mem_nil, or_false, not_or]
          exact ⟨Nat.ne_of_lt (Nat.lt_succ_self _), Nat.ne_of_gt hlS⟩
        refine tn_set_loop knd ((Walks.list hh3 _ l hneI items).toS) s.heap.objs.size
          hSf val hval hb (items.size - 0) 0 _ (by omega) (Nat.zero_le _)
          ⟨⟨_, Heap.get?_push_size _ rfl, rfl, rfl⟩, (hl1.push _)⟩ ?hS0 ?hR
        case hS0 =>
          have hget : ((s.heap.push { cls := .type "set", dict := none, data := .set #[] 0 (.fresh 0 0 led) }).push { cls := .type "list_iterator", data := .fields #[.ref l, .int 0 0] }).get? s.heap.objs.size
              = some { cls := .type "set", dict := none, data := .set #[] 0 (.fresh 0 0 led) } := Heap.get?_push_of_some _ hS
          exact tn_setOf_congr ((PyProof.Rows.setObjOf_fresh (knd := knd) led).setOf hget (by unfold scanBound; omega)) (fun _ => rfl) rfl
        case hR =>
          intro s' hm hS'
          obtain ⟨h', g', d', tk', os'⟩ := s'
          have eg : g' = s.gens := hm.gens
          have ed : d' = s.drawn := hm.drawn
          have eo : os' = s.os := hm.os
          subst eg; subst ed; subst eo
          show wpAny _ _ _ _ _ _
          refine wpAny_pure ?_
          show wpAny _ _ (ret Value.none) _ _ _
          refine wpAny_pure ⟨rfl, h', tk', rfl, hS', fun b o hb e => ?_⟩
          have hb1 : b ≠ s.heap.objs.size := Nat.ne_of_lt hb
          have hb2 : b ≠ (s.heap.push { cls := .type "set", dict := none, data := .set #[] 0 (.fresh 0 0 led) }).objs.size := by
            rw [Heap.size_push]; exact Nat.ne_of_lt (Nat.lt_succ_of_lt hb)
          exact hm.heap b o (by simp only [List.mem_cons, List.mem_singleton, List.not_mem_nil, or_false, not_or]; exact ⟨hb1, hb2⟩) (Heap.get?_push_of_some _ (Heap.get?_push_of_some _ e))
      · cases r₂ with
        | error e => exact hr₂
        | ok fl₂ =>
          cases fl₂ with
          | ret r =>
            obtain ⟨rfl, h', tk, rfl, hS', hk'⟩ := hr₂
            repeat (any_goals (first | assumption | wp_step))
            exact h _ _ hS' hk'
          | _ => exact hr₂.elim
    | _ => exact hr.elim
set_option maxHeartbeats 3200000 in
theorem tn_set_tuple {l : Addr} {items : Array Value} {K : Type} [DecidableEq K] (knd : KeyKind prog w K) (val : Nat → K) {Q : Value → Shared → Prop}
    (hh : A.handled = none) (hl : s.heap.IsTuple l items) (hval : ∀ (i : Nat) (v : Value), items[i]? = some v → knd.is (val i) v = true ∧ v.scannable = true) (hb : items.size + 1 < scanBound)
    (h : ∀ (h' : Heap) (tk : Nat), h'.SetOf knd s.heap.objs.size (fun k' => decide (k' ∈ tnMet val items.size)) (tnMet val items.size).length →
      (∀ b o, b < s.heap.objs.size → s.heap.get? b = some o → h'.get? b = some o) → Q (.ref s.heap.objs.size) { s with heap := h', toks := tk }) :
    wpAny (model prog w) A (call (.type "set") [.ref l]) Q E s := by
  obtain ⟨c, tl, hmro⟩ := F.called_set.mro
  have hmade := F.called_set.made
  have hsub := F.called_set.sub
  refine wpAny_call (codeAny_of_tree ?_)
  show wpAny _ _ (callAny (.type "set") _) _ _ _
  refine wpAny_pure ⟨Code.quiet_builtin _ (by decide +kernel), codeAny_builtin F.entry_type_call ?_⟩
  rw [Around.under_plain (weight_type_call_type "set" [.ref l] []) rfl]
  have h1 := F.called_set.notType
  have h2 := F.called_set.canCreate
  have hct := F.typeCall_set_1 (.ref l)
  repeat (any_goals (first | assumption | wp_step))
  refine codeAny_mono (code_set_new_1 (.ref l) (E := E) (Q₁ := fun obj s₁ => ∃ led : Bool, obj = .ref s.heap.objs.size ∧ s₁ = { s with heap := s.heap.push { cls := .type "set", dict := none, data := .set #[] 0 (.fresh 0 0 led) } }) fun led => ⟨led, rfl, rfl⟩) fun r s₁ hr => ?_
  cases r with
  | error e => exact hr
  | ok fl =>
    cases fl with
    | ret obj =>
      obtain ⟨led, rfl, rfl⟩ := hr
      have hS : (s.heap.push { cls := .type "set", dict := none, data := .set #[] 0 (.fresh 0 0 led) }).get? s.heap.objs.size = some { cls := .type "set", dict := none, data := .set #[] 0 (.fresh 0 0 led) } := Heap.get?_push_size _ rfl
      have hT : Shared.TypeIs { s with heap := s.heap.push { cls := .type "set", dict := none, data := .set #[] 0 (.fresh 0 0 led) } } (.ref s.heap.objs.size) "set" := ⟨_, hS, rfl⟩
      have hli := F.called_set.init.lookup
      have hbi := F.called_set.init.bind (.ref s.heap.objs.size)
      repeat (any_goals (first | assumption | wp_step))
      refine codeAny_mono (codeAny_call_builtin (R := wants (fun r s₂ => r = .none ∧ ∃ h' tk, s₂ = { s with heap := h', toks := tk } ∧
          h'.SetOf knd s.heap.objs.size (fun k' => decide (k' ∈ tnMet val items.size)) (tnMet val items.size).length ∧
          (∀ b o, b < s.heap.objs.size → s.heap.get? b = some o → h'.get? b = some o)) E) F.called_set.init.plain F.entry_set_init (check_set_init_1 hT ?_)) fun r₂ s₂ hr₂ => ?_
      · obtain ⟨ol, hol, hcl, nl, hdl⟩ := hl
        obtain ⟨ocls, odict, odata, oslots⟩ := ol
        simp only at hcl hdl
        subst hcl; subst hdl
        have hol' : (s.heap.push { cls := .type "set", dict := none, data := .set #[] 0 (.fresh 0 0 led) }).get? l = some { cls := .type "tuple", dict := odict, data := .seq items nl, slots := oslots } := Heap.get?_push_of_some _ hol
        have hsls := F.sub_tuple_set
        have hslf := F.sub_tuple_frozenset
        have hne : (Value.type "tuple" == Value.type "dict") = false := by decide
        have hl1 : (s.heap.push { cls := .type "set", dict := none, data := .set #[] 0 (.fresh 0 0 led) }).IsTuple l items := ⟨_, hol', rfl, nl, rfl⟩
        unfold Builtin.«set.__init__» noKeywords Builtin.Frozenset.updateFrom
        generalize hPI : pyIter = PI
        wp_walk
        subst hPI
        refine wpAny_pyIter_tuple hl1 ?_
        refine wpAny_bind (wpAny_runValue ?_)
        have hlS : l < s.heap.objs.size := Heap.lt_size hol
        have hh3 : A.in1.in1.in1.handled = none := by simp [hh]
        have hneI : l ≠ (s.heap.push { cls := .type "set", dict := none, data := .set #[] 0 (.fresh 0 0 led) }).objs.size := by
          rw [Heap.size_push]; exact Nat.ne_of_lt (Nat.lt_succ_of_lt hlS)
        have hSf : s.heap.objs.size ∉ [(s.heap.push { cls := .type "set", dict := none, data := .set #[] 0 (.fresh 0 0 led) }).objs.size, l] := by
          rw [Heap.size_push]; simp only [List.mem_cons, List.mem_singleton, List.not_mem_nil, or_false, not_or]
          exact ⟨Nat.ne_of_lt (Nat.lt_succ_self _), Nat.ne_of_gt hlS⟩
        refine tn_set_loop knd ((Walks.tuple hh3 _ l hneI items).toS) s.heap.objs.size
          hSf val hval hb (items.size - 0) 0 _ (by omega) (Nat.zero_le _)
          ⟨⟨_, Heap.get?_push_size _ rfl, rfl, rfl⟩, (hl1.push _)⟩ ?hS0 ?hR
        case hS0 =>
          have hget : ((s.heap.push { cls := .type "set", dict := none, data := .set #[] 0 (.fresh 0 0 led) }).push { cls := .type "tuple_iterator", data := .fields #[.ref l, .int 0 0] }).get? s.heap.objs.size
              = some { cls := .type "set", dict := none, data := .set #[] 0 (.fresh 0 0 led) } := Heap.get?_push_of_some _ hS
          exact tn_setOf_congr ((PyProof.Rows.setObjOf_fresh (knd := knd) led).setOf hget (by unfold scanBound; omega)) (fun _ => rfl) rfl
        case hR =>
          intro s' hm hS'
          obtain ⟨h', g', d', tk', os'⟩ := s'
          have eg : g' = s.gens := hm.gens
          have ed : d' = s.drawn := hm.drawn
          have eo : os' = s.os := hm.os
          subst eg; subst ed; subst eo
          show wpAny _ _ _ _ _ _
          refine wpAny_pure ?_
          show wpAny _ _ (ret Value.none) _ _ _
          refine wpAny_pure ⟨rfl, h', tk', rfl, hS', fun b o hb e => ?_⟩
          have hb1 : b ≠ s.heap.objs.size := Nat.ne_of_lt hb
          have hb2 : b ≠ (s.heap.push { cls := .type "set", dict := none, data := .set #[] 0 (.fresh 0 0 led) }).objs.size := by
            rw [Heap.size_push]; exact Nat.ne_of_lt (Nat.lt_succ_of_lt hb)
          exact hm.heap b o (by simp only [List.mem_cons, List.mem_singleton, List.not_mem_nil, or_false, not_or]; exact ⟨hb1, hb2⟩) (Heap.get?_push_of_some _ (Heap.get?_push_of_some _ e))
      · cases r₂ with
        | error e => exact hr₂
        | ok fl₂ =>
          cases fl₂ with
          | ret r =>
            obtain ⟨rfl, h', tk, rfl, hS', hk'⟩ := hr₂
            repeat (any_goals (first | assumption | wp_step))
            exact h _ _ hS' hk'
          | _ => exact hr₂.elim
    | _ => exact hr.elim
end
end PySem

set_option Elab.async false
set_option linter.all false
set_option maxRecDepth 100000
set_option maxHeartbeats 1000000
/-! TN9: len(set(xs)) of whole numbers and texts. -/
namespace TL
open PySem PySem.Spec PyProof.Rows L2
/-! ### len(set(xs)) -/
def keyAt (ks : List Key) (i : Nat) : Key := ks.getD i (.inl 0)
theorem vals_keys : ∀ {ks : List Key} {us : List Value}, Vals (ks.map kV) us → ∀ (i : Nat) (v : Value), us[i]? = some v → keyIs (keyAt ks i) v = true ∧ v.scannable = true
  | [], _, .nil, i, v, h => by simp at h
  | k :: ks, _, .cons hk ht, 0, v, h => by
    simp at h
    subst h
    cases k with
    | inl i =>
      obtain ⟨t, rfl⟩ := hk
      exact ⟨keyIs_int i t, rfl⟩
    | inr x =>
      obtain ⟨t, rfl⟩ := hk
      exact ⟨keyIs_str x t, rfl⟩
  | k :: ks, _, .cons hk ht, i + 1, v, h => by
    simp only [List.getElem?_cons_succ] at h
    exact vals_keys ht i v h
def dedupL (ks : List Key) : Nat := (tnMet (keyAt ks) ks.length).length
def rLenSet (K : PySem.W.Frag) (ta : TE) : TE := fun σ H Q => ta σ H fun x H1 => ∃ (l : Addr) (ks : List Key), x = V.ref l ∧ (SqL K H1 l (ks.map kV) ∨ SqT K H1 l (ks.map kV)) ∧ ks.length < 4000 ∧ Q (.int (dedupL ks : Nat)) H1
theorem pe_lenSetK {X : Cx} {a : Expr} {ta : TE} {p p2 q pos : Pos} (hc : X.calm = true) (hg : Gl X "len") (hm : X.mg "len" = none) (hg2 : Gl X "set") (hm2 : X.mg "set" = none) (ha : PE X a ta)
    (na : starEach [a] X.env = (false, eval a X.env) :: starEach [] X.env := by rfl) : PE X (.Call (.Name "len" p) [.Call (.Name "set" p2) [a] [] q] [] pos) (rLenSet X.K ta) := by
  refine ⟨fun pins s σ H Q I h => ?_⟩
  refine Call_ (ld_blt I hg hm PySem.boot_len ?_)
  refine PyProof.Rows.callWith_builtin1 (PyProof.Rows.args_cons ?_ rfl) rfl rfl
  refine Call_ (ld_blt I hg2 hm2 PyProof.Rows.boot_set ?_)
  refine PyProof.Rows.callWith_type1 (PyProof.Rows.args_cons (thn (ha.run pins s σ H _ I h) fun v s1 ⟨x, H1, I1, r1, q1⟩ => PyProof.Rows.args_nil ?_) na) na rfl
  obtain ⟨l, ks, rfl, hq, h1, q1⟩ := q1
  cases r1
  have sb : ks.length + 1 < scanBound := by unfold scanBound; omega
  have d1 := tnMet_len (keyAt ks) ks.length
  rcases hq with hq | hq
  · obtain ⟨its, r, pl, hz⟩ := I1.list hq
    have hl : its.toArray.size = ks.length := by rw [List.size_toArray, ← r.length, List.length_map]
    refine tn_set_list (mixKind X.prog X.w) (keyAt ks) (I1.ok.hd hc) pl.isList (fun i v e => vals_keys r i v (by simpa using e)) (by rw [hl]; exact sb) fun h' tk hS hk => ?_
    rw [hl] at hS
    refine PyProof.Rows.args_nil ?_
    obtain ⟨o, es, ep, t, ho, hex, hd, _, _, _, hf, hn⟩ := hS
    have I2 : Inv X pins σ H1 { s1 with heap := h', toks := tk } := I1.kept fun b o e => hk b o (Heap.lt_size e) e
    refine call_len_set ho hex hd hf (by rw [hn]; omega) ⟨.int (dedupL ks : Nat), H1, I2.tok _, ⟨_, by rw [hn]; rfl⟩, q1⟩
  · obtain ⟨its, r, pl, hz⟩ := I1.tuple hq
    have hl : its.toArray.size = ks.length := by rw [List.size_toArray, ← r.length, List.length_map]
    refine tn_set_tuple (mixKind X.prog X.w) (keyAt ks) (I1.ok.hd hc) (show s1.heap.IsTuple l its.toArray from pl) (fun i v e => vals_keys r i v (by simpa using e)) (by rw [hl]; exact sb) fun h' tk hS hk => ?_
    rw [hl] at hS
    refine PyProof.Rows.args_nil ?_
    obtain ⟨o, es, ep, t, ho, hex, hd, _, _, _, hf, hn⟩ := hS
    have I2 : Inv X pins σ H1 { s1 with heap := h', toks := tk } := I1.kept fun b o e => hk b o (Heap.lt_size e) e
    refine call_len_set ho hex hd hf (by rw [hn]; omega) ⟨.int (dedupL ks : Nat), H1, I2.tok _, ⟨_, by rw [hn]; rfl⟩, q1⟩
/-- len(set(c)) -/
def lenSetV (x : PV) (S : Store) : Res PV := match seqC x S with
  | some (_, xs, _) => match keysOf xs with
    | some ks => if ks.length < 4000 then .ok (.int (dedupL ks : Nat)) S else .stuck
    | none => .stuck
  | none => .stuck
def eLenSet (c : CE PV) : CE PV := fun ρ S => (c ρ S).bind lenSetV
@[simp] theorem eLenSet_ap (c : CE PV) (ρ : Sl) (S : Store) : eLenSet c ρ S = (c ρ S).bind lenSetV := rfl
theorem keysOf_vs {K : PySem.W.Frag} {m : Mp} {H : Hp} : ∀ {xs : List PV} {ks : List Key} {vs : List V}, keysOf xs = some ks → Rps K m H xs vs → vs = ks.map kV
  | [], ks, vs, h, r => by
    cases h
    exact r
  | x :: xs, ks, vs, h, r => by
    unfold keysOf at h
    cases e1 : keyOf x with
    | none => rw [e1] at h; cases h
    | some q =>
      cases e2 : keysOf xs with
      | none => rw [e1, e2] at h; cases h
      | some qs =>
        rw [e1, e2] at h
        cases h
        obtain ⟨v, us, rfl, rv, ru⟩ := r
        rw [keysOf_vs e2 ru, List.map_cons, key_val rv e1]
theorem de_lenSet {X : Cx} {W : WX} {p p2 q pos : Pos} {a : Expr} {ca : CE PV} (hc : X.calm = true) (hm : X.mg "len" = none) (hm2 : X.mg "set" = none) (ha : DE X W a ca) (hg : Gl X "len" := by rfl) (hg2 : Gl X "set" := by rfl)
    (na : starEach [a] X.env = (false, eval a X.env) :: starEach [] X.env := by rfl) : DE X W (.Call (.Name "len" p) [.Call (.Name "set" p2) [a] [] q] [] pos) (eLenSet ca) := by
  refine pe_imp (pe_lenSetK hc hg hm hg2 hm2 ha na) fun σ H Q h => ?_
  obtain ⟨m, S, ρ, at_, fin⟩ := h
  refine ⟨m, S, ρ, at_, (Fin.bind at_ fin).mono fun v H1 h1 => ?_⟩
  obtain ⟨m1, S1, x, at1, r1, e1, l1, f1⟩ := h1
  unfold lenSetV at f1
  cases hx : seqC x S1 with
  | none => rw [hx] at f1; exact f1.elim
  | some t1 =>
    obtain ⟨d, xs, ck⟩ := t1
    rw [hx] at f1
    simp only at f1
    cases hk : keysOf xs with
    | none => rw [hk] at f1; exact f1.elim
    | some ks =>
      rw [hk] at f1
      simp only at f1
      by_cases hz : ks.length < 4000
      · rw [if_pos hz] at f1
        obtain ⟨q, rfl, hq⟩ := seqC_ok at1.rel r1 hx
        have c0 : chk ck S1 := by
          unfold seqC at hx
          cases x with
          | rol z => cases hx; exact chk_nil _
          | tup z => cases hx; exact chk_nil _
          | kup z => cases hx; exact chk_nil _
          | obj i =>
            simp only at hx
            split at hx
            · rename_i e
              cases hx
              exact chk_one e
            · cases hx
          | _ => cases hx
        obtain ⟨vs, v1, rr, _⟩ := hq m1 S1 H1 Ext.refl (Nat.le_refl _) at1.rel c0
        have ev := keysOf_vs hk rr
        subst ev
        refine ⟨q, ks, rfl, ?_, hz, f1.here at1.rel ⟨rfl, rfl⟩⟩
        cases d with
        | t => exact .inr v1
        | l => exact .inl v1
      · rw [if_neg hz] at f1
        exact f1.elim
/-- how many unlike things -/
theorem tnMet_nodup {K : Type} [DecidableEq K] {val : Nat → K} : ∀ n, (∀ i j, i < j → j < n → val i ≠ val j) → tnMet val n = (List.range n).map val
  | 0, _ => rfl
  | n + 1, h => by
    have ih := tnMet_nodup n fun i j hi hj => h i j hi (by omega)
    show (if val n ∈ tnMet val n then tnMet val n else tnMet val n ++ [val n]) = _
    rw [if_neg, ih, List.range_succ, List.map_append]
    · rfl
    · rw [ih]
      intro z
      obtain ⟨i, hi, e⟩ := List.mem_map.mp z
      exact h i n (List.mem_range.mp hi) (Nat.lt_succ_self _) e
theorem dedupL_nodup {ks : List Key} (h : ks.Nodup) : dedupL ks = ks.length := by
  unfold dedupL
  rw [tnMet_nodup, List.length_map, List.length_range]
  intro i j hi hj e
  unfold keyAt at e
  rw [List.getD_eq_getElem?_getD, List.getD_eq_getElem?_getD, List.getElem?_eq_getElem (by omega), List.getElem?_eq_getElem hj] at e
  exact absurd e (List.pairwise_iff_getElem.mp h i j (by omega) hj hi)
theorem tnMet_keep {K : Type} [DecidableEq K] {val : Nat → K} {n : Nat} : ∀ m, n ≤ m → (tnMet val n).length + (m - n) ≥ (tnMet val m).length
  | 0, h => by
    have : n = 0 := by omega
    subst this
    exact Nat.le_refl _
  | m + 1, h => by
    by_cases e : n = m + 1
    · subst e; omega
    · have ih := tnMet_keep m (n := n) (val := val) (by omega)
      have : (tnMet val (m + 1)).length ≤ (tnMet val m).length + 1 := by
        show (if val m ∈ tnMet val m then tnMet val m else tnMet val m ++ [val m]).length ≤ _
        split
        · omega
        · rw [List.length_append, List.length_singleton]; exact Nat.le_refl _
      omega
theorem tnMet_has {K : Type} [DecidableEq K] {val : Nat → K} : ∀ {n i : Nat}, i < n → val i ∈ tnMet val n
  | n + 1, i, h => by
    show val i ∈ (if val n ∈ tnMet val n then tnMet val n else tnMet val n ++ [val n])
    by_cases e : i = n
    · subst e
      split
      · assumption
      · simp
    · have ih := tnMet_has (val := val) (n := n) (i := i) (by omega)
      split
      · exact ih
      · exact List.mem_append_left _ ih
theorem dedupL_eq {ks : List Key} : dedupL ks = ks.length ↔ ks.Nodup := by
  refine ⟨fun h => ?_, dedupL_nodup⟩
  rw [List.Nodup, List.pairwise_iff_getElem]
  intro i j hi hj hij e
  have h1 : (tnMet (keyAt ks) (j + 1)).length ≤ j := by
    have hm : keyAt ks j ∈ tnMet (keyAt ks) j := by
      have : keyAt ks j = keyAt ks i := by
        unfold keyAt
        rw [List.getD_eq_getElem?_getD, List.getD_eq_getElem?_getD, List.getElem?_eq_getElem hi, List.getElem?_eq_getElem hj, e]
      rw [this]
      exact tnMet_has hij
    unfold tnMet
    rw [if_pos hm]
    exact tnMet_len _ j
  have h2 := tnMet_keep (val := keyAt ks) (n := j + 1) ks.length (by omega)
  unfold dedupL at h
  omega
end TL

set_option Elab.async false
set_option linter.all false
set_option maxRecDepth 100000
set_option maxHeartbeats 1000000
/-! TN10: list(reversed(xs)), xs a list; a written dict of one text and one number. -/
namespace RT
open PySem PySem.Spec PyProof.Rows L2
section
variable {prog : Program} {w : World} {A : Around} {E : Value → Shared → Prop} {s : Shared}
theorem tn_list_init_rev {R : Result → Shared → Prop} {it l S : Addr} {items : Array Value} (hh : A.in1.handled = none) (hit : s.heap.IsRevIter it l ((items.size : Int) - 1)) (hl : s.heap.IsList l items) (hne : l ≠ it) (hn : items.size ≤ sizeLine) (hSi : S ≠ it) (hSl : S ≠ l)
    (hS : s.heap.get? S = some { cls := .type "list", data := .seq #[] })
    (hR : ∀ s' acc' c', Moved [S, it] (fun a b => b = a) s s' → s'.heap.get? S = some { cls := .type "list", dict := none, data := .seq acc' c', slots := #[] } → ItemsOf (fun i v => items[items.size - 1 - i]? = some v) acc' items.size → R (.ok (.ret .none)) s') :
    wpAny (model prog w) A.in1 (Builtin.«list.__init__» ⟨[.ref S, .ref it], []⟩)
      (fun fin s' => match fin with | .done f => R (.ok f) s' | .again c' => c'.quiet = true ∧ codeAny (model prog w) A c' R s') (fun e s' => R (.error e) s') s := by
  have W := (Walks.listRev (prog := prog) (w := w) (A := A.in1) hh it l hne items).toS
  have hSf : S ∉ [it, l] := by simp only [List.mem_cons, List.not_mem_nil, or_false, not_or]; exact ⟨hSi, hSl⟩
  show wpAny _ A.in1 (do let old ← Builtin.List.listItems (.ref S); Builtin.List.listUpdate (.ref S) (fun _ => #[]); letGo old.toList.reverse; Builtin.List.listExtendWith (.ref S) (.ref it) .none) _ _ s
  refine wpAny_bind ?_
  unfold Builtin.List.listItems
  refine wpAny_bind (wpAny_seqItems hS rfl (wpAny_pure ?_))
  show wpAny _ A.in1 (updateSeq S (fun _ => #[]) >>= fun _ => letGo (#[] : Array Value).toList.reverse >>= fun _ => Builtin.List.listExtendWith (.ref S) (.ref it) .none) _ _ s
  refine wpAny_bind (wpAny_updateSeq hS rfl ?_)
  have hS₂ := Heap.get?_update_self (Obj.mapSeq (fun _ => (#[] : Array Value))) hS rfl
  have oth : ∀ b o, b ≠ S → s.heap.get? b = some o → (s.heap.update S (Obj.mapSeq (fun _ => (#[] : Array Value)))).get? b = some o :=
    fun b o hb e => (Heap.get?_update_other _ _ (Ne.symm hb)).trans e
  refine wpAny_bind (wpAny_letGo ?_)
  have hit1 : (s.heap.update S (Obj.mapSeq (fun _ => (#[] : Array Value)))).IsRevIter it l ((items.size : Int) - 1) := hit.at fun o e => oth it o (Ne.symm hSi) e
  have hl1 : (s.heap.update S (Obj.mapSeq (fun _ => (#[] : Array Value)))).IsList l items := by
    obtain ⟨o, ho, r⟩ := hl
    exact ⟨o, oth l o (Ne.symm hSl) ho, r⟩
  have hT : ({ s with heap := s.heap.update S (Obj.mapSeq (fun _ => (#[] : Array Value))) } : Shared).TypeIs (.ref it) "list_reverseiterator" := Heap.IsRevIter.typeIs (s := { s with heap := s.heap.update S (Obj.mapSeq (fun _ => (#[] : Array Value))) }) hit1
  have h1 : Builtin.List.listSameRef (.ref S) (.ref it) = false := by simp [Builtin.List.listSameRef, hSi]
  unfold Builtin.List.listExtendWith
  refine wpAny_bind (wpAny_typeOf hT ?_)
  rw [if_neg (by rw [h1]; decide)]
  refine wpAny_bind (wpAny_pyIter_revIter (s := { s with heap := s.heap.update S (Obj.mapSeq (fun _ => (#[] : Array Value))) }) hit1 ?_)
  refine wpAny_bind (wpAny_holding ?_)
  unfold Builtin.List.listLengthHint
  refine wpAny_bind (wpAny_specialOf hT nolen_lri ?_)
  show wpAny _ A.in1 (specialOf (Value.ref it) (Str.ofString "__length_hint__") >>= _) _ _ _
  refine wpAny_bind (wpAny_specialOf hT hint_lri ?_)
  generalize hid : ("list_reverseiterator.__length_hint__" : String) = id0
  wp_delta
  rw [show splitId id0 = some ("list_reverseiterator", "__length_hint__") from by subst hid; decide +kernel]
  subst hid
  refine wpAny_bind (wpAny_isInstance (b := true) hT (by rw [isSubtype_type]; kernel_rfl) ?_)
  refine wpAny_pure ?_
  rw [if_neg (by decide)]
  have e0 : ((items.size : Nat) : Int) - 1 - ((0 : Nat) : Int) = (items.size : Int) - 1 := by omega
  refine wpAny_pure ⟨plainId_quiet F.plain_extend_loop _, codeAny_extend_loopS W hn _ hSf _ items.size 0 _ _ _ rfl (Nat.zero_le _) ⟨Nat.zero_le _, by rw [e0]; exact hit1, hl1⟩ hS₂ (ItemsOf.nil _) fun s' acc' c' hm hS' hacc => ?_⟩
  have m0 : Moved [S, it] (fun a b => b = a) s { s with heap := s.heap.update S (Obj.mapSeq (fun _ => (#[] : Array Value))) } :=
    ⟨fun b o hb e => oth b o (fun h => hb (by rw [h]; exact List.mem_cons_self)) e, rfl, rfl, rfl, Nat.le_refl _⟩
  exact hR s' acc' c' (Moved.trans W.gtrans m0 hm) hS' hacc
theorem tn_call_list_rev {it l : Addr} {items : Array Value} {Q : Value → Shared → Prop} (hh : A.handled = none) (hit : s.heap.IsRevIter it l ((items.size : Int) - 1)) (hl : s.heap.IsList l items) (hne : l ≠ it) (hn : items.size ≤ sizeLine)
    (hQ : ∀ (h' : Heap) (tk : Nat) (acc : Array Value) (c : Nat), (∀ b o, b ≠ it → s.heap.get? b = some o → h'.get? b = some o) → h'.get? s.heap.objs.size = some { cls := .type "list", dict := none, data := .seq acc c, slots := #[] } →
      ItemsOf (fun i v => items[items.size - 1 - i]? = some v) acc items.size → Q (.ref s.heap.objs.size) { s with heap := h', toks := tk }) :
    wpAny (model prog w) A (call (.type "list") [.ref it]) Q E s := by
  obtain ⟨oi, hoi, _⟩ := id hit
  obtain ⟨ol, hol, _⟩ := id hl
  have hSi : s.heap.objs.size ≠ it := Nat.ne_of_gt (Heap.lt_size hoi)
  have hSl : s.heap.objs.size ≠ l := Nat.ne_of_gt (Heap.lt_size hol)
  refine callType_codes (Q₁ := fun obj s₁ => obj = .ref s.heap.objs.size ∧ s₁ = { s with heap := s.heap.push { cls := .type "list", data := .seq #[] } }) F.called_list (F.typeCall_list_1 _) F.entry_list_init
    (code_list_new _ ⟨rfl, rfl⟩) fun obj s₁ h₁ => ?_
  obtain ⟨rfl, rfl⟩ := h₁
  have hS : (s.heap.push { cls := .type "list", data := .seq #[] }).get? s.heap.objs.size = some { cls := .type "list", data := .seq #[] } := Heap.get?_push_size _ rfl
  refine ⟨⟨_, hS, rfl⟩, F.args_list_init_2 _ _, tn_list_init_rev (hh := by first | exact hh | simp [hh]) (hit.at fun o e => Heap.get?_push_of_some _ e) (hl.push _) hne hn hSi hSl hS fun s' acc' c' hm hS' hacc => ⟨rfl, ?_⟩⟩
  rw [Moved.eq_with hm]
  refine hQ s'.heap s'.toks acc' c' (fun b o hb e => hm.heap b o (fun hmem => ?_) (Heap.get?_push_of_some _ e)) hS' hacc
  rcases List.mem_cons.mp hmem with e' | hmem
  · exact absurd (Heap.lt_size e) (by rw [e']; exact Nat.lt_irrefl _)
  · exact hb (List.mem_singleton.mp hmem)
end
section
variable {X : Cx}
/-- list(reversed(x)), x a list: a new list -/
def tListRev (K : PySem.W.Frag) (te : TE) : TE := fun σ H Q => te σ H fun v H1 => ∃ (a : Addr) (xs : List V), v = .ref a ∧ SqL K H1 a xs ∧ ∀ q, H1 q = none → Q (.ref q) (upd H1 q (.lst xs.reverse))
theorem pe_listRev {e : Expr} {te : TE} {p p2 pos pos2 : Pos} (hc : X.calm = true) (hg : Gl X "list") (hm : X.mg "list" = none) (hg2 : Gl X "reversed") (hm2 : X.mg "reversed" = none) (he : PE X e te)
    (hs : starEach [e] X.env = (false, eval e X.env) :: starEach [] X.env := by rfl)
    (hs2 : starEach [.Call (.Name "reversed" p2) [e] [] pos2] X.env = (false, eval (.Call (.Name "reversed" p2) [e] [] pos2) X.env) :: starEach [] X.env := by rfl) :
    PE X (.Call (.Name "list" p) [.Call (.Name "reversed" p2) [e] [] pos2] [] pos) (tListRev X.K te) := by
  refine ⟨fun pins s σ H Q I h => ?_⟩
  refine Call_ (ld_blt I hg hm boot_list (PyProof.Rows.callWith_type1 (args_cons (Call_ (ld_blt I hg2 hm2 PyProof.Rows.boot_reversed (PyProof.Rows.callWith_type1 (args_cons (thn (he.run pins s σ H _ I h) fun u s1 ⟨v, H1, I1, r1, q1⟩ => args_nil ?_) hs) hs rfl))) hs2) hs2 rfl))
  obtain ⟨a, xs, ev, hq, q⟩ := q1
  subst ev
  obtain rfl : u = Value.ref a := r1
  obtain ⟨its, rv, p', hz⟩ := I1.list hq
  refine call_reversed_list p'.isList (args_nil ?_)
  have k0 : ∀ b o, s1.heap.get? b = some o → (s1.heap.push (revObj a ((its.toArray.size : Int) - 1))).get? b = some o := fun b o e => Heap.get?_push_of_some _ e
  have I2 : Inv X pins σ H1 { s1 with heap := s1.heap.push (revObj a ((its.toArray.size : Int) - 1)) } := I1.kept (t' := s1.toks) k0
  obtain ⟨f0, f1, f2, f3, f4, f5⟩ := I1.fpOk (H' := H1) (b := s1.heap.objs.size) (Nat.le_refl _) (I1.hok.fresh (Nat.le_refl _))
  have hl := p'.isList
  obtain ⟨ol, hol, _⟩ := id hl
  have hne : a ≠ s1.heap.objs.size := Nat.ne_of_lt (Heap.lt_size hol)
  have hn : its.toArray.size ≤ sizeLine := by rw [List.size_toArray, ← rv.length]; exact hz
  refine tn_call_list_rev (s := { s1 with heap := s1.heap.push (revObj a ((its.toArray.size : Int) - 1)) }) (I1.ok.hd hc) ⟨_, Heap.get?_push_size _ rfl, rfl, rfl⟩ (hl.push _) hne hn fun h' tk acc c hk hS hi => ?_
  have hnew := I2.hok.fresh (a := (s1.heap.push (revObj a ((its.toArray.size : Int) - 1))).objs.size) (Nat.le_refl _)
  have I3 : Inv X pins σ (upd H1 (s1.heap.push (revObj a ((its.toArray.size : Int) - 1))).objs.size (.lst xs.reverse)) { s1 with heap := h', toks := tk } :=
    I2.turnedNew (t' := tk) (ch := [s1.heap.objs.size]) (fun b o hb e => hk b o (by simpa using hb) e) (fun b hb => by
      have e : b = s1.heap.objs.size := by simpa using hb
      subst e
      exact I1.fpOk (Nat.le_refl _) (I1.hok.fresh (Nat.le_refl _))) (Nat.le_refl _)
      (show ObjOk X.prog X.w _ _ _ (.lst xs.reverse) from ⟨by rw [List.length_reverse]; exact hz, acc.toList, c, vals_rev rv hi, by rw [Array.toArray_toList]; exact hS⟩)
  exact ⟨.ref _, _, I3, rfl, q _ hnew⟩
end
end RT
namespace TL
open PySem PySem.Spec PyProof.Rows L2
def revV (x : PV) (S : Store) : Res PV := match seqC x S with
  | some (.l, xs, _) => .ok (.obj S.length) (S ++ [.lst xs.reverse])
  | _ => .stuck
/-- list(reversed(c)) -/
def eListRev (c : CE PV) : CE PV := fun ρ S => (c ρ S).bind revV
@[simp] theorem eListRev_ap (c : CE PV) (ρ : Sl) (S : Store) : eListRev c ρ S = (c ρ S).bind revV := rfl
theorem de_listRev {X : Cx} {W : WX} {p p2 pos pos2 : Pos} {a : Expr} {ca : CE PV} (hc : X.calm = true) (hm : X.mg "list" = none) (hm2 : X.mg "reversed" = none) (ha : DE X W a ca) (hg : Gl X "list" := by rfl) (hg2 : Gl X "reversed" := by rfl)
    (hs : starEach [a] X.env = (false, eval a X.env) :: starEach [] X.env := by rfl)
    (hs2 : starEach [.Call (.Name "reversed" p2) [a] [] pos2] X.env = (false, eval (.Call (.Name "reversed" p2) [a] [] pos2) X.env) :: starEach [] X.env := by rfl) : DE X W (.Call (.Name "list" p) [.Call (.Name "reversed" p2) [a] [] pos2] [] pos) (eListRev ca) := by
  refine pe_imp (RT.pe_listRev hc hg hm hg2 hm2 ha hs hs2) fun σ H Q h => ?_
  obtain ⟨m, S, ρ, at_, fin⟩ := h
  refine ⟨m, S, ρ, at_, (Fin.bind at_ fin).mono fun v H1 h1 => ?_⟩
  obtain ⟨m1, S1, x, at1, r1, e1, l1, f1⟩ := h1
  unfold revV at f1
  split at f1
  · rename_i xs ck hx
    obtain ⟨q, rfl, hq⟩ := seqC_ok at1.rel r1 hx
    have c0 : chk ck S1 := by
      unfold seqC at hx
      cases x with
      | rol z => cases hx; exact chk_nil _
      | obj i =>
        simp only at hx
        split at hx
        · rename_i e
          cases hx
          exact chk_one e
        · cases hx
      | _ => cases hx
    obtain ⟨vs, v1, rr, b1⟩ := hq m1 S1 H1 Ext.refl (Nat.le_refl _) at1.rel c0
    refine ⟨q, vs, rfl, v1, fun d hd => ?_⟩
    exact f1.lst at1.rel (bnds_all.mpr fun y hy => bnds_all.mp b1 y (List.mem_reverse.mp hy)) rr.reverse hd
  · exact f1.elim
/-- {"..": n} -/
def eDic1 (z : Str) (i : Int) : CE PV := fun _ S => .ok (.obj S.length) (S ++ [.dic false [(.str z, .int i)]])
@[simp] theorem eDic1_ap (z : Str) (i : Int) (ρ : Sl) (S : Store) : eDic1 z i ρ S = .ok (.obj S.length) (S ++ [.dic false [(.str z, .int i)]]) := rfl
theorem upd_twice {H : Hp} {p : Addr} {u v : HO} : upd (upd H p u) p v = upd H p v := by
  funext b
  by_cases h : b = p
  · subst h; rw [upd_same, upd_same]
  · rw [upd_ne h, upd_ne h, upd_ne h]
theorem de_disp1 {X : Cx} {W : WX} {z : Str} {i : Int} {j1 j2 : Nat} {p1 p2 pos : Pos} : DE X W (.Dict [some (.Constant (.str z) j1 p1)] [.Constant (.int i) j2 p2] pos) (eDic1 z i) := by
  refine pe_imp (pe_disp (pps_cons pe_str pe_int pps_nil) rfl rfl (by simp) (show 1 ≤ 15 by decide)) fun σ H Q h => ?_
  obtain ⟨m, S, ρ, at_, fin⟩ := h
  intro p hp
  show (upd H p (.dK [])) p = _ ∧ _
  refine ⟨upd_same, [(.inr z, .int i)], rfl, (show 1 ≤ 15 by decide), ?_⟩
  rw [upd_twice]
  exact fin.dicK at_.rel rfl (show KvK X.K m H [(.str z, .int i)] [(.inr z, .int i)] from ⟨_, _, rfl, rfl, rfl, rfl⟩) hp
end TL

set_option Elab.async false
set_option linter.all false
set_option maxRecDepth 100000
set_option maxHeartbeats 1000000
/-! TN11: == and != of dicts. -/
namespace PySem.W
open Lean Elab Tactic Meta PySem PySem.Calls PyProof.Rows PyProof.V PySem.Spec
theorem tn_rcP_ne_dicts {prog : Program} {w : World} {K : Type} [DecidableEq K] {knd : KeyKind prog w K} {A : Around} {s : Shared} {a b : Addr} {ka kb : List (K × Value)} {r : Bool} (ha : (a == sysModules) = false) (hb : (b == sysModules) = false)
    (da : s.heap.DictOf knd a ka) (db : s.heap.DictOf knd b kb) (hu : A.units < cLine) (hits : ka.length = kb.length → KeqHitsP prog w A.in1 s kb ka r) (E Q : Value → Shared → Prop) (h : Q (.bool (!(ka.length == kb.length && r))) s) : wpAny (model prog w) A (richCompare .NotEq (.ref a) (.ref b)) Q E s := by
  refine wpAny_richCompare_same_room (op := .NotEq) da.typeIs db.typeIs PySem.F.slot_dict_ne (wpAny_call_entry PySem.F.slot_dict_ne da.typeIs PySem.F.entry_dict_ne ?_ (PySem.F.args_dict_ne_2 _ _)) hu
  show wpAny _ _ (Builtin.Dict.dictSlotArgs "__ne__" ⟨[.ref a, .ref b], []⟩ >>= _) _ _ s
  refine wpAny_bind ?_
  unfold Builtin.Dict.dictSlotArgs
  refine wpAny_bind (wpAny_notOrdered_dict da.typeIs ?_)
  show wpAny _ _ (pure (Value.ref a, Value.ref b)) _ _ s
  refine wpAny_pure ?_
  refine wpAny_bind (wpAny_isInstance (T := "dict") db.typeIs PySem.F.sub_dict_dict ?_)
  simp only [Bool.not_true, Bool.false_eq_true, if_false]
  refine wpAny_bind (wpAny_pure (wpAny_bind (wpAny_pure ?_)))
  refine wpAny_bind (samePairsP ha hb da db hits ?_)
  refine wpAny_pure ⟨_, rfl, ?_, ?_⟩
  · exact fun x => nomatch x
  · simpa using h
end PySem.W
namespace TL
open PySem PySem.Spec PyProof.Rows L2
section
variable {X : Cx} {pins : List (Addr × Obj)} {σ : L2.St} {H : Hp} {s : Shared}
theorem neR_run (I : Inv X pins σ H s) {A : Around} {F : V → V → Prop} (hu : A.units < cLine) (ih : ∀ x y v u, F x y → RelV x v → RelV y u → SeqAt.EqP X.prog X.w A.in1 s v u true) {x y : V} {v u : Value} (h : EqR X.K H F x y) (rx : RelV x v) (ry : RelV y u)
    (E Q : Value → Shared → Prop) (q : Q (.bool false) s) : wpAny (model X.prog X.w) A (richCompare .NotEq v u) Q E s := by
  rcases h with h | ⟨a, b, ks, ls, rfl, rfl, ha, hb, hl, hp⟩
  · exact neL_run I hu ih h rx ry E Q q
  · cases (show v = Value.ref a from rx)
    cases (show u = Value.ref b from ry)
    obtain ⟨_, ya, va, ra, da⟩ := (show ObjOk X.prog X.w H s.heap a (.dK ks) from I.hok a _ ha)
    obtain ⟨_, yb, vb, rb, db⟩ := (show ObjOk X.prog X.w H s.heap b (.dK ls) from I.hok b _ hb)
    refine PySem.W.tn_rcP_ne_dicts (knd := mixKind X.prog X.w) (r := true) ya yb da db hu (fun _ => hits_run ih rb ra hp) E Q ?_
    have e : va.length = vb.length := by rw [← ra.length, ← rb.length]; exact hl
    rw [show (va.length == vb.length && true) = true from by rw [e]; simp]
    exact q
theorem op_eqX2 (hu : X.A.units + 80 < cLine) : OpR X (compareOp .Eq) (fun x y H Q => EqR X.K H (EqW X.K H 4) x y ∧ Q (.bl true) H) := by
  intro pins s σ H x y v u Q I rx ry h
  obtain ⟨h, q⟩ := h
  exact eqR_run I (A := X.A) (by omega) (eqW_run I 4 X.A.in1 (by show X.A.units + 1 + 4 + 66 < cLine; omega)) h rx ry _ _ ⟨.bl true, H, I, rfl, q⟩
theorem op_neX2 (hu : X.A.units + 80 < cLine) : OpR X (compareOp .NotEq) (fun x y H Q => EqR X.K H (EqW X.K H 4) x y ∧ Q (.bl false) H) := by
  intro pins s σ H x y v u Q I rx ry h
  obtain ⟨h, q⟩ := h
  exact neR_run I (A := X.A) (by omega) (eqW_run I 4 X.A.in1 (by show X.A.units + 1 + 4 + 66 < cLine; omega)) h rx ry _ _ ⟨.bl false, H, I, rfl, q⟩
end
section
variable {K : PySem.W.Frag} {mg : Str → Option Value} {m : Mp} {S : Store} {H : Hp}
theorem deep_dic (r : Rel K mg m S H) (n : Nat) {i j : Nat} {ks ls : List (PV × PV)} (ei : S[i]? = some (.dic false ks)) (ej : S[j]? = some (.dic false ls)) (h : dicB (deepB S n) ks ls = true) : EqR K H (EqW K H n) (.ref (m i)) (.ref (m j)) := by
  unfold dicB at h
  rw [Bool.and_eq_true, Bool.and_eq_true, List.all_eq_true] at h
  obtain ⟨d1, d2, d3⟩ := h
  have d2' := of_decide_eq_true d2
  obtain ⟨p0, hp0⟩ : ∃ p0, p0 ∈ ks := by
    cases ks with
    | nil => cases d1
    | cons a l => exact ⟨a, List.mem_cons_self ..⟩
  obtain ⟨k0, _⟩ := Bool.and_eq_true_iff.mp (d3 p0 hp0)
  obtain ⟨l, a1, a2⟩ := r.dicK ei hp0 k0
  obtain ⟨q0, hq0, kq⟩ : ∃ q0 ∈ ls, (keyOf q0.1).isSome = true := by
    have h3 := (Bool.and_eq_true_iff.mp (d3 p0 hp0)).2
    cases e : dget ls p0.1 with
    | none => rw [e] at h3; cases h3
    | some w =>
      unfold dget at e
      cases e2 : ls.find? (fun kv => decide (kv.1 = p0.1)) with
      | none => rw [e2] at e; cases e
      | some q =>
        have e3 : q.1 = p0.1 := of_decide_eq_true (List.find?_some (p := fun kv : PV × PV => decide (kv.1 = p0.1)) e2)
        exact ⟨q, List.mem_of_find?_eq_some e2, by rw [e3]; exact k0⟩
  obtain ⟨l2, b1, b2⟩ := r.dicK ej hq0 kq
  refine .inr ⟨_, _, l, l2, rfl, rfl, a1, b1, by rw [a2.len, b2.len]; exact d2', fun p hp => ?_⟩
  obtain ⟨q, hq, e1, e2⟩ := a2.mem hp
  have h3 := (Bool.and_eq_true_iff.mp (d3 q hq)).2
  cases e : dget ls q.1 with
  | none => rw [e] at h3; cases h3
  | some w =>
    rw [e] at h3
    obtain ⟨z, hz, rz⟩ := (b2.get e1).1 w e
    exact ⟨z, hz, deep_ok r n _ _ _ _ h3 e2 rz⟩
end
def eqW2 (g : Bool → Bool) : F2 := fun x y S => match x, y with
  | .obj i, .obj j => match S[i]?, S[j]? with
    | some (.lst xs), some (.lst ys) => if all2 (deepB S 4) xs ys = true then .ok (.bl (g true)) S else .stuck
    | some (.dic false ks), some (.dic false ls) => if dicB (deepB S 4) ks ls = true then .ok (.bl (g true)) S else .stuck
    | _, _ => .stuck
  | _, _ => .stuck
abbrev eqV2 : F2 := eqW2 fun b => b
abbrev neV2 : F2 := eqW2 fun b => !b
theorem op2_eqW2 {K : PySem.W.Frag} {mg : Str → Option Value} (g : Bool → Bool) : Op2 K mg (eqW2 g) (fun x y H Q => EqR K H (EqW K H 4) x y ∧ Q (.bl (g true)) H) := by
  intro W σ m S H x y v u Q rel rx ry f
  unfold eqW2 at f
  split at f
  · rename_i i j
    have ev : v = .ref (m i) := rx.2
    have eu : u = .ref (m j) := ry.2
    subst ev eu
    split at f
    · rename_i xs ys ei ej
      split at f
      · rename_i h
        obtain ⟨_, vs, a1, a2⟩ := rel.lst ei
        obtain ⟨_, us, b1, b2⟩ := rel.lst ej
        exact ⟨.inl ⟨_, _, vs, us, rfl, rfl, SqL.of a1, SqL.of b1, all2_pair (fun x y v u h1 h2 h3 => deep_ok rel 4 x y v u h1 h2 h3) h a2 b2⟩, f.here rel ⟨rfl, rfl⟩⟩
      · exact f.elim
    · rename_i ks ls ei ej
      split at f
      · rename_i h
        exact ⟨deep_dic rel 4 ei ej h, f.here rel ⟨rfl, rfl⟩⟩
      · exact f.elim
    · exact f.elim
  · exact f.elim
theorem eqW2_dic {S : Store} {i j : Nat} {ks ls : List (PV × PV)} (g : Bool → Bool) (ei : S[i]? = some (.dic false ks)) (ej : S[j]? = some (.dic false ls)) (h : dicB (deepB S 4) ks ls = true) : eqW2 g (.obj i) (.obj j) S = .ok (.bl (g true)) S := by
  unfold eqW2
  simp only [ei, ej, h, if_true]
end TL

set_option Elab.async false
set_option linter.all false
set_option maxRecDepth 100000
set_option maxHeartbeats 1000000
/-! TN12: a list unpacked into names. -/
namespace PyProof.Rows
open PySem PySem.Spec
section
variable {prog : Program} {w : World} {A : Around} {E : Value → Shared → Prop} {s : Shared}
theorem tn_draw_list {it t : Addr} {items : Array Value} (hne : t ≠ it) : ∀ (n i : Nat) (s : Shared) (Q : List Value → Shared → Prop), s.heap.IsListIter it t i → s.heap.IsList t items → i + n ≤ items.size →
    (∀ h', Heap.IsListIter h' it t (i + n) → Heap.SameBut it s.heap h' → Q ((items.toList.drop i).take n) { s with heap := h' }) → wpAny (model prog w) A (draw (.ref it) n) Q E s
  | 0, i, s, Q, hit, _, _, hQ => by
    show wpAny _ _ (pure []) Q E s
    exact wpAny_pure (by simpa using hQ s.heap hit (Heap.SameBut.refl ..))
  | n + 1, i, s, Q, hit, ht, hle, hQ => by
    have hlt : i < items.size := by omega
    show wpAny _ _ (pyNext (.ref it) >>= _) Q E s
    refine wpAny_bind (wpAny_pyNext_list_item hit ht (x := items[i]) (by simp [hlt]) fun h₁ hit₁ hs₁ => ?_)
    refine wpAny_bind (wpAny_holding (tn_draw_list hne n (i + 1) _ _ hit₁ (ht.extBut hs₁.extBut hne) (by omega) fun h₂ hit₂ hs₂ => wpAny_pure ?_))
    have hd : items.toList.drop i = items[i] :: items.toList.drop (i + 1) := by simp [List.drop_eq_getElem_cons, hlt]
    have := hQ h₂ (by rw [show i + (n + 1) = i + 1 + n by omega]; exact hit₂) (hs₁.trans hs₂)
    rw [hd, List.take_succ_cons] at this
    exact this
theorem tn_unpackItems_list {t : Addr} {items : Array Value} {Q : List Value → Shared → Prop} (hh : A.handled = none) (ht : s.heap.IsList t items)
    (hQ : ∀ h', Heap.ExtBut s.heap.objs.size s.heap h' → Q items.toList { s with heap := h' }) : wpAny (model prog w) A (unpackItems (.ref t) items.size none) Q E s := by
  have hlt : t ≠ s.heap.objs.size := by obtain ⟨o, ho, _⟩ := ht; exact Nat.ne_of_lt (Heap.lt_size ho)
  unfold unpackItems
  refine wpAny_bind ?_
  · unfold notIterableAtAll
    refine wpAny_bind (wpAny_specialOf ht.typeIs PySem.F.slot_list_iter.lookup ?_)
    refine wpAny_pure ?_
    simp only [Bool.false_eq_true, if_false]
    refine wpAny_bind (wpAny_holding (wpAny_pyIter_list ht ?_))
    refine wpAny_bind (wpAny_holding (tn_draw_list hlt items.size 0 _ _ ⟨_, Heap.get?_push_size _ rfl, rfl, rfl⟩ (ht.push _) (by omega) fun h₁ hit₁ hs₁ => ?_))
    have hall : List.take items.size (List.drop 0 items.toList) = items.toList := by
      rw [List.drop_zero]; exact List.take_of_length_le (by simp)
    rw [hall]
    rw [if_neg (by simp)]
    have ht₁ : Heap.IsList h₁ t items := (ht.push _).extBut hs₁.extBut hlt
    refine wpAny_bind (wpAny_holding (wpAny_pyNext_list_end hh hit₁ ht₁ (by simp) fun h₂ he₂ => ?_))
    simp only [Option.isSome_none, Bool.false_eq_true, if_false]
    refine wpAny_pure (hQ h₂ fun b o hb e => he₂ b o hb (hs₁.extBut b o hb (Heap.get?_push_of_some _ e)))
theorem tn_assign_Tuple_list {env : Env} {elts : List Expr} {x1} {pos : Pos} {t : Addr} {items : Array Value} {Q : Unit → Shared → Prop} (hh : A.handled = none) (ht : s.heap.IsList t items)
    (hn : (assignEach elts env).length = items.size) (hstar : (assignEach elts env).findIdx? (·.1) = none)
    (h : ∀ h', Heap.ExtBut s.heap.objs.size s.heap h' → wpAny (model prog w) A (assignInOrder ((assignEach elts env).map (·.2)) items.toList) Q E { s with heap := h' }) :
    wpAny (model prog w) A (assign (.Tuple elts x1 pos) env (.ref t)) Q E s := by
  rw [assign_Tuple]
  refine wpAny_bind (wpAny_standAt ?_)
  unfold unpack
  rw [hn, hstar]
  exact wpAny_bind (wpAny_holding (tn_unpackItems_list hh ht h))
end
end PyProof.Rows
namespace TL
open PySem PySem.Spec PyProof.Rows L2
/-- (a, b, ..) = a list of that length -/
def gTupL (K : PySem.W.Frag) (n : Nat) (t : TGs) : TG := fun v σ H Q => ∃ a xs, v = .ref a ∧ SqL K H a xs ∧ xs.length = n ∧ t xs σ H Q
theorem pg_tupL {X : Cx} {pos : Pos} {es : List Expr} {k : Nat} {t : TGs} {n : Nat} (hc : X.calm = true) (h : PGs X es t)
    (hn : (assignEach es X.env).length = n := by rfl) (hst : (assignEach es X.env).findIdx? (·.1) = none := by rfl) : PG X (.Tuple es k pos) (gTupL X.K n t) := by
  refine ⟨fun pins s σ H v u Q I r hw => ?_⟩
  obtain ⟨a, xs, e1, hq, hl, hw⟩ := hw
  subst e1
  cases r
  obtain ⟨its, rv, ht, hz⟩ := I.list hq
  refine tn_assign_Tuple_list (I.ok.hd hc) ht.isList (by simp [hn, ← hl, rv.length]) hst fun h' hx => ?_
  have I1 : Inv X pins σ H { s with heap := h' } := I.kept (t' := s.toks) fun b o e => hx b o (Nat.ne_of_lt (Heap.lt_size e)) e
  exact h.run pins _ σ H xs _ Q I1 (by simpa using rv) hw
/-- a, b, .. = a list -/
def sSetL (is : List Nat) (c : CE PV) : CS := fun ρ S => sb (c ρ S) ρ fun x S1 => match lstOf x S1 with
  | some xs => if xs.length = is.length then .next (setAll ρ is xs) S1 else .stuck
  | none => .stuck
@[simp] theorem sSetL_ap (is : List Nat) (c : CE PV) (ρ : Sl) (S : Store) : sSetL is c ρ S = sb (c ρ S) ρ fun x S1 => match lstOf x S1 with
  | some xs => if xs.length = is.length then .next (setAll ρ is xs) S1 else .stuck
  | none => .stuck := rfl
theorem ds_asgL {X : Cx} {W : WX} {pos p2 : Pos} {e : Expr} {es : List Expr} {k : Nat} {c : CE PV} {is : List Nat} (hc : X.calm = true) (he : DE X W e c) (hg : DGs X es is) (hn : (assignEach es X.env).length = is.length := by rfl) (hst : (assignEach es X.env).findIdx? (·.1) = none := by rfl)
    (hs : swapsWithSole [.Tuple es k p2] e pos.line X.env = pure false := by rfl) (hw : swappedStores [.Tuple es k p2] e X.env = pure none := by rfl)
    (h1 : (assignEach [.Tuple es k p2] X.env).map (·.2) = [assign (.Tuple es k p2) X.env] := by rfl) : DS X W (.Assign [.Tuple es k p2] e pos) (sSetL is c) := ps_imp (ps_asg he (pg_tupL hc hg hn hst) hs hw h1) fun D σ H h => by
  obtain ⟨m, S, ρ, at_, fin⟩ := h
  refine ⟨m, S, ρ, at_, (FinS.bind at_ fin).mono fun v H1 h1 => ?_⟩
  obtain ⟨m1, S1, y, at1, r1, e1, l1, f1⟩ := h1
  dsimp only at f1
  cases q : lstOf y S1 with
  | none => rw [q] at f1; exact f1.elim
  | some xs =>
    rw [q] at f1
    simp only at f1
    by_cases hl : xs.length = is.length
    · rw [if_pos hl] at f1
      obtain ⟨b, p, us, rfl, h1, h3⟩ := lst_ok at1.rel r1 q
      have hv : us.length = is.length := h3.length.trans hl
      exact ⟨p, us, rfl, h1, hv, gNames_ok hv (f1.nx_here ⟨at1.rel, EnvR.all at1.env b h3⟩)⟩
    · rw [if_neg hl] at f1
      exact f1.elim
end TL

set_option Elab.async false
set_option linter.all false
set_option maxRecDepth 100000
set_option maxHeartbeats 1000000
/-! TN13: tuple(xs) kept strong (known to have no dict of its own); dict(pairs) of a strong tuple. -/
namespace TL
open PySem PySem.Spec PyProof.Rows L2
section
variable {X : Cx}
theorem call_tupleS : CallR X (.type "tuple") (fun xs H Q => ∃ p ys, xs = [.ref p] ∧ SqL X.K H p ys ∧ ∀ (l : Addr) (o : Obj), H l = none → o.dict = none → Q (.ref l) (upd H l (.frz o (.tup ys)))) := by
  intro pins s σ H xs us Q I r h
  obtain ⟨p, ys, rfl, hq, q⟩ := h
  obtain ⟨u, rfl, rx⟩ := vals1 r
  cases rx
  obtain ⟨its, r', pl, hz⟩ := I.list hq
  have hlen := r'.length
  refine call_tuple_list pl.isList (fun h' kp => ?_) (by simp only [List.size_toArray] <;> omega)
  have I1 : Inv X pins σ H { s with heap := h' } := I.kept (t' := s.toks) kp
  have I2 : Inv X pins σ (upd H h'.objs.size (.frz { cls := .type "tuple", data := .seq its.toArray } (.tup ys))) { s with heap := h'.push { cls := .type "tuple", data := .seq its.toArray } } :=
    I1.laid (t' := s.toks) (fun b o e => Heap.get?_push_of_some _ e) (Nat.le_refl _) (show ObjOk X.prog X.w _ _ _ (.frz _ (.tup ys)) from ⟨Heap.get?_push_size _ rfl, hz, its, r', IsTup.new _ _⟩)
  exact ⟨.ref h'.objs.size, _, I2, rfl, q _ _ (I1.hok.fresh (Nat.le_refl _)) rfl⟩
theorem Inv.strong {pins : List (Addr × Obj)} {σ : L2.St} {H : Hp} {s : Shared} {a : Addr} {xs : List V} (I : Inv X pins σ H s) (h : SqK X.K H a xs) : ∃ its : List Value, Vals xs its ∧ PlainSeq "tuple" s.heap a its.toArray ∧ xs.length ≤ sizeLine := by
  rcases h with ⟨o, h, hd⟩ | ⟨o, its, n, hk, hc, hd, hs, hz, r⟩
  · obtain ⟨ho, z, its, r, o', ho', hc, n, hs⟩ := I.hok a _ h
    rw [ho] at ho'
    cases ho'
    exact ⟨its, r, ⟨o, n, ho, hc, hd, hs⟩, z⟩
  · refine ⟨its.toList, r, ⟨o, n, I.kIn a o hk, hc, hd, by simpa using hs⟩, ?_⟩
    have e := r.length
    simp only [Array.length_toList] at e
    omega
theorem pairs_of' {pins : List (Addr × Obj)} {σ : L2.St} {H : Hp} {s : Shared} (I : Inv X pins σ H s) : ∀ {ps : List Addr} {kvs : List (Key × V)}, Paired (fun p kv => SqT X.K H p [kV kv.1, kv.2]) ps kvs →
    ∃ (prs : List (Key × Value)) (qs : List (Value × Value)), KV kvs prs ∧ prs.length = ps.length ∧ qs.length = ps.length ∧
      ∀ (j : Nat) (k v : Value), qs[j]? = some (k, v) → ∃ (b : Addr) (c : Key), ps[j]? = some b ∧ prs[j]? = some (c, v) ∧ IsTup s.heap b #[k, v] ∧ keyIs c k = true
  | _, _, .nil => ⟨[], [], .nil, rfl, rfl, fun j k v e => by simp at e⟩
  | _, _, .cons (a := p) (b := kv) h t => by
    obtain ⟨prs, qs, r, hl, hl2, hp⟩ := pairs_of' I t
    obtain ⟨its, rv, ht, _⟩ := I.tuple h
    obtain ⟨u, y, ei, ru, ry⟩ := vals2 rv
    subst ei
    refine ⟨(kv.1, y) :: prs, (u, y) :: qs, .cons ⟨rfl, ry⟩ r, by rw [List.length_cons, List.length_cons, hl], by rw [List.length_cons, List.length_cons, hl2], fun j k v e => ?_⟩
    cases j with
    | zero =>
      have e' : (u, y) = (k, v) := Option.some.inj e
      cases e'
      exact ⟨p, kv.1, rfl, rfl, ht, kV_is (P := X.prog) (w := X.w) ru⟩
    | succ j =>
      obtain ⟨b, c, e1, e2, e3⟩ := hp j k v (by simpa using e)
      exact ⟨b, c, by simpa using e1, by simpa using e2, e3⟩
theorem call_dictS (hcalm : X.calm = true) : CallR X (.type "dict") (fun xs H Q => ∃ (a : Addr) (ps : List Addr) (kvs : List (Key × V)), xs = [.ref a] ∧ SqK X.K H a (ps.map V.ref) ∧ Paired (fun p kv => SqT X.K H p [kV kv.1, kv.2]) ps kvs ∧
    ∀ p, H p = none → Q (.ref p) (upd H p (.dK (mergeK [] kvs)))) := by
  intro pins s σ H xs us Q I r q
  obtain ⟨a, ps, kvs, ex, hq, hp, q⟩ := q
  subst ex
  obtain ⟨u, eu, rx⟩ := vals1 r
  subst eu
  cases rx
  obtain ⟨its, rv, pl, hz⟩ := Inv.strong I hq
  have ei := refs_at rv
  subst ei
  rw [List.length_map] at hz
  obtain ⟨prs, qs, rel, hl, hl2, hpr⟩ := pairs_of' I hp
  have at_ : ∀ j, (ps.map Value.ref)[j]? = (ps[j]?).map Value.ref := fun j => List.getElem?_map ..
  refine PySem.call_dict_pairs (knd := mixKind X.prog X.w) (kvs := prs) (PairArg.tuple a (ps.map Value.ref).toArray (fun j => ps.getD j 0) qs) (I.ok.hd hcalm) ⟨pl, ?_, fun j k v e => ?_⟩ ⟨hl.trans hl2.symm, fun j k v e => ?_⟩ (by rw [hl2]; exact hz) fun h' tk hd' hk => ?_
  · simp [hl2]
  · obtain ⟨b, c, e1, e2, e3, e4⟩ := hpr j k v e
    have eb : ps.getD j 0 = b := by rw [List.getD_eq_getElem?_getD, e1]; rfl
    show _ ∧ PairAt s.heap (ps.getD j 0) k v
    refine ⟨?_, by rw [eb]; exact .inl e3⟩
    show (List.map Value.ref ps).toArray[j]? = some (Value.ref (ps.getD j 0))
    rw [eb]
    simp [e1]
  · obtain ⟨b, c, e1, e2, e3, e4⟩ := hpr j k v e
    exact ⟨c, e2, e4⟩
  · have hm : (s.heap.objs.size == sysModules) = false := beq_eq_false_iff_ne.mpr (Nat.ne_of_gt I.big)
    have hlen : (mergeK [] kvs).length ≤ sizeLine := by
      refine Nat.le_trans (length_mergeK kvs []) ?_
      rw [List.length_nil, Nat.zero_add, rel.length, hl]
      exact hz
    exact ⟨.ref s.heap.objs.size, upd H s.heap.objs.size (.dK (mergeK [] kvs)), I.laid (t' := tk) (fun b o e => hk b o (fun z => nomatch z) e) (Nat.le_refl _) (show ObjOk X.prog X.w _ _ _ (.dK (mergeK [] kvs)) from ⟨hlen, hm, merged [] prs, KV.merge rel .nil, hd'⟩), rfl, q _ (I.hok.fresh (Nat.le_refl _))⟩
end
section
variable {K : PySem.W.Frag} {mg : Str → Option Value} {W : WX} {σ : L2.St} {m : Mp} {S : Store} {H : Hp} {Q : VK}
/-- a new strong tuple -/
theorem Fin.kup {zs : List PV} {vs : List V} (f : Fin K mg W σ m S H (RV K) Q (.ok (.kup zs) S)) (r : Rel K mg m S H) (b : bnds S.length zs = true) (h : Rps K m H zs vs) {p : Addr} {o : Obj} (hp : H p = none) (ho : o.dict = none) : Q (.ref p) (upd H p (.frz o (.tup vs))) := by
  have e : Ext K S.length m H m (upd H p (.frz o (.tup vs))) := ext_new hp fun _ _ => rfl
  exact f m _ _ e (Nat.le_refl _) (r.newT hp) ⟨b, p, vs, rfl, .inl ⟨o, upd_same, ho⟩, h.ext e zs vs b⟩
end
section
variable {K : PySem.W.Frag} {mg : Str → Option Value}
/-- tuple(xs) of a list, kept strong -/
def tupleVS : FB := fun xs S => match xs with
  | [x] => match lstOf x S with
    | some ys => .ok (.kup ys) S
    | none => .stuck
  | _ => .stuck
theorem opC_tupleS : OpC K mg tupleVS (fun xs H Q => ∃ p ys, xs = [.ref p] ∧ SqL K H p ys ∧ ∀ (l : Addr) (o : Obj), H l = none → o.dict = none → Q (.ref l) (upd H l (.frz o (.tup ys)))) := by
  intro W σ m S H xs vs Q rel ra f
  unfold tupleVS at f
  split at f
  · rename_i x
    obtain ⟨v, rfl, rv⟩ := one_of ra
    cases e : lstOf x S with
    | none => rw [e] at f; exact f.elim
    | some ys =>
      rw [e] at f
      obtain ⟨b, p, us, rfl, h1, h2⟩ := lst_ok rel rv e
      exact ⟨p, us, rfl, h1, fun l o hl ho => f.kup rel b h2 hl ho⟩
  · exact f.elim
/-! ### dict(pairs) -/
def pairsK : List PV → Option (List (PV × PV))
  | [] => some []
  | .tup [a, b] :: xs => if (keyOf a).isSome = true then (pairsK xs).map ((a, b) :: ·) else none
  | _ => none
def dictVS : FB := fun xs S => match xs with
  | [.kup ys] => match pairsK ys with
    | some kvs => if (kvs.map fun p => keyOf p.1).Nodup then .ok (.obj S.length) (S ++ [.dic false kvs]) else .stuck
    | none => .stuck
  | xs => dictV' xs S
def rDictS (K : PySem.W.Frag) : List V → Hp → VK → Prop := fun xs H Q => (∃ (a : Addr) (kvs : List (Key × V)), xs = [.ref a] ∧ Rd H a (.dK kvs) ∧ ∀ p, H p = none → Q (.ref p) (upd H p (.dK kvs))) ∨
  (∃ (a : Addr) (ps : List Addr) (kvs : List (Key × V)), xs = [.ref a] ∧ SqK K H a (ps.map V.ref) ∧ Paired (fun p kv => SqT K H p [kV kv.1, kv.2]) ps kvs ∧
    ∀ p, H p = none → Q (.ref p) (upd H p (.dK (mergeK [] kvs))))
theorem call_dictDS {X : Cx} (hc : X.calm = true) : CallR X (.type "dict") (rDictS X.K) := call_dictD.or (call_dictS hc)
theorem mergeK_new : ∀ (more kvs : List (Key × V)), ((kvs ++ more).map (·.1)).Nodup → mergeK kvs more = kvs ++ more
  | [], kvs, _ => by rw [List.append_nil]; rfl
  | p :: more, kvs, h => by
    have e : putK kvs p.1 p.2 = kvs ++ [p] := by
      unfold putK
      rw [if_neg]
      intro z
      obtain ⟨q, hq, e⟩ := List.any_eq_true.mp z
      have e' : q.1 = p.1 := of_decide_eq_true e
      rw [List.map_append, List.nodup_append] at h
      exact h.2.2 _ (List.mem_map_of_mem hq) _ (by rw [List.map_cons]; exact List.mem_cons_self ..) e'
    show mergeK (putK kvs p.1 p.2) more = _
    rw [e, mergeK_new more (kvs ++ [p]) (by rw [List.append_assoc]; exact h), List.append_assoc]
    rfl
theorem pairsK_ok {m : Mp} {H : Hp} : ∀ {ys : List PV} {us : List V} {kvs : List (PV × PV)} {n : Nat}, Rps K m H ys us → pairsK ys = some kvs → bnds n ys = true →
    ∃ (ps : List Addr) (l : List (Key × V)), us = ps.map V.ref ∧ Paired (fun p kv => SqT K H p [kV kv.1, kv.2]) ps l ∧ KvK K m H kvs l ∧ bnds n (kvs.map (·.2)) = true ∧ l.map (fun q => some q.1) = kvs.map fun p => keyOf p.1
  | [], us, kvs, n, h, e, _ => by
    have eu : us = [] := h
    subst eu
    cases e
    exact ⟨[], [], rfl, .nil, rfl, rfl, rfl⟩
  | y :: ys, us, kvs, n, h, e, b => by
    unfold pairsK at e
    split at e
    · rename_i e0; cases e0
    · rename_i a c xs e0
      cases e0
      obtain ⟨v, r, rfl, ⟨p, vs, rfl, hp, w1, r1, rfl, ha, w2, r2, rfl, hb, rfl⟩, h2⟩ := h
      split at e
      · rename_i hk
        cases q : pairsK ys with
        | none => rw [q] at e; cases e
        | some kvs' =>
          rw [q] at e
          cases e
          obtain ⟨b1, b2⟩ := Bool.and_eq_true_iff.mp b
          obtain ⟨ps, l, rfl, i1, i2, i3, i4⟩ := pairsK_ok h2 q b2
          obtain ⟨k, ek⟩ := Option.isSome_iff_exists.mp hk
          have ew : w1 = kV k := by
            cases a with
            | int i => cases ek; exact ha
            | str x => cases ek; exact ha
            | _ => cases ek
          subst ew
          have b1' : bnds n [a, c] = true := b1
          refine ⟨p :: ps, (k, w2) :: l, rfl, .cons (SqT.of hp) i1, ⟨_, _, rfl, ek, hb, i2⟩, ?_, ?_⟩
          · show bnds n (c :: kvs'.map (·.2)) = true
            exact Bool.and_eq_true_iff.mpr ⟨bnds_get b1' (i := 1) rfl, i3⟩
          · show some k :: _ = keyOf a :: _
            rw [ek, i4]
      · cases e
    · cases e
theorem opC_dictS : OpC K mg dictVS (rDictS K) := by
  intro W σ m S H xs vs Q rel ra f
  unfold dictVS at f
  split at f
  · rename_i ys
    obtain ⟨v, rfl, b, a, us, rfl, hk, hv⟩ := one_of ra
    cases e : pairsK ys with
    | none => rw [e] at f; exact f.elim
    | some kvs =>
      rw [e] at f
      simp only at f
      split at f
      · rename_i hn
        obtain ⟨ps, l, rfl, i1, i2, i3, i4⟩ := pairsK_ok hv e b
        refine .inr ⟨a, ps, l, rfl, hk, i1, fun p hp => ?_⟩
        have en : ((([] : List (Key × V)) ++ l).map (·.1)).Nodup := by
          rw [List.nil_append]
          rw [← i4] at hn
          have : (l.map (fun q => some q.1)) = (l.map (·.1)).map some := by rw [List.map_map]; rfl
          rw [this] at hn
          unfold List.Nodup at hn ⊢
          rw [List.pairwise_map] at hn
          exact hn.imp fun a e => a (by rw [e])
        rw [mergeK_new l [] en]
        exact f.dicK rel i3 i2 hp
      · exact f.elim
  · exact .inl (opC_dict W σ m S H xs vs Q rel ra f)
end
end TL

set_option Elab.async false
set_option linter.all false
set_option maxRecDepth 100000
set_option maxHeartbeats 1000000
/-! TN14: for a, b, .. in xs: where each item is a list. -/
namespace TL
open PySem PySem.Spec PyProof.Rows L2
open Classical in
noncomputable def forL (is : List Nat) (b : CS) (ck : Chk) : List PV → CS
  | [] => fun ρ S => if chk ck S then .next ρ S else .stuck
  | x :: xs => fun ρ S => if chk ck S then match lstOf x S with
    | none => .stuck
    | some ys => if ys.length = is.length then match b (setAll ρ is ys) S with
      | .next ρ' S' => forL is b ck xs ρ' S'
      | .cont ρ' S' => forL is b ck xs ρ' S'
      | .brk ρ' S' => .next ρ' S'
      | r => r
      else .stuck
    else .stuck
noncomputable def sForL (is : List Nat) (i : CE (List PV × Chk)) (b : CS) : CS := fun ρ S => sb (i ρ S) ρ fun p S1 => forL is b p.2 p.1 ρ S1
@[simp] theorem sForL_ap (is : List Nat) (i : CE (List PV × Chk)) (b : CS) (ρ : Sl) (S : Store) : sForL is i b ρ S = sb (i ρ S) ρ fun p S1 => forL is b p.2 p.1 ρ S1 := rfl
section
variable {X : Cx} {W : WX} {pos p2 : Pos} {es : List Expr} {k0 : Nat} {iter : Expr} {body : List Stmt} {is : List Nat} {i : CE (List PV × Chk)} {b : CS}
theorem ds_forL (hp : PassesOwn (model X.prog X.w) X.A X.env X.xe) (hc : X.calm = true) (hi : DI X W (.Tuple es k0 p2) iter i) (hg : DGs X es is) (hb : DSs X W body b) (hn : (assignEach es X.env).length = is.length := by rfl) (hst : (assignEach es X.env).findIdx? (·.1) = none := by rfl)
    (hs : ∀ x, foldedSetIterable iter X.env x = pure x := by intro _; rfl) : DS X W (.For (.Tuple es k0 p2) iter body [] pos) (sForL is i b) :=
  ps_imp (ps_for hp hc hi (pg_tupL hc hg hn hst) hb hs) fun D σ H h => by
  obtain ⟨m, S, ρ, at_, fin⟩ := h
  refine ⟨m, S, ρ, at_, (FinS.bind at_ fin).mono fun J H1 h1 => ?_⟩
  obtain ⟨m1, S1, ⟨all, ck⟩, at1, r1, e1, l1, f1⟩ := h1
  have r1' : ItR X.K X.mg J all ck S1.length m1 H1 := r1
  refine ⟨fun j k σ H => ∃ m S ρ, At X.K X.mg m S H ρ σ ∧ Ext X.K S1.length m1 H1 m H ∧ S1.length ≤ S.length ∧ j + k = all.length ∧ FinS X.K X.mg W m S H D (forL is b ck (all.drop j) ρ S), ⟨all.length, m1, S1, ρ, at1, Ext.refl, Nat.le_refl _, by omega, f1⟩, ?_⟩
  rintro j k σ H ⟨m, S, ρ, at_, ex, le, hk, fin⟩
  by_cases hj : j < all.length
  · have ed : all.drop j = all[j] :: all.drop (j + 1) := List.drop_eq_getElem_cons hj
    rw [ed] at fin
    unfold forL at fin
    by_cases hck : chk ck S
    · rw [if_pos hck] at fin
      refine .inr ⟨r1'.go j m S H ex le at_.rel hck hj, fun σ' H' => ∃ m S ρ, At X.K X.mg m S H' ρ σ' ∧ Ext X.K S1.length m1 H1 m H' ∧ S1.length ≤ S.length ∧ FinS X.K X.mg W m S H' D (forL is b ck (all.drop (j + 1)) ρ S), fun σ' H' n => ?_, fun v H' y => ?_⟩
      · obtain ⟨m', S', ρ', a', ex', le', f'⟩ := n
        exact ⟨k - 1, by omega, m', S', ρ', a', ex', le', by omega, f'⟩
      · obtain ⟨x, ex1, e2, r2, rx, _⟩ := r1'.yld j m S H v H' ex le at_.rel hck hj y
        have exj : all[j] = x := by
          rw [List.getElem?_eq_getElem hj] at ex1
          exact Option.some.inj ex1
        rw [exj] at fin
        cases q : lstOf x S with
        | none => rw [q] at fin; exact fin.elim
        | some ys =>
          rw [q] at fin
          simp only at fin
          by_cases hl : ys.length = is.length
          · rw [if_pos hl] at fin
            have envH : EnvR X.K S.length m H' ρ σ := at_.env.ext e2 (Nat.le_refl _)
            obtain ⟨bd, p, us, rfl, h1, h3⟩ := lst_ok r2 rx q
            have hv : us.length = is.length := h3.length.trans hl
            refine ⟨p, us, rfl, h1, hv, gNames_ok hv ⟨m, S, setAll ρ is ys, ⟨r2, EnvR.all envH bd h3⟩, ?_⟩⟩
            have base : ∀ {m' H''}, Ext X.K S.length m H' m' H'' → Ext X.K S1.length m1 H1 m' H'' := fun e3 => (ex.trans e2 le).trans e3 le
            cases eb : b (setAll ρ is ys) S with
            | next ρ' S' =>
              rw [eb] at fin
              exact fun m' H'' σ' e3 l3 a3 => ⟨m', S', ρ', a3, base e3, Nat.le_trans le l3, FinS.from fin (e2.trans e3 (Nat.le_refl _)) l3⟩
            | cont ρ' S' =>
              rw [eb] at fin
              exact fun m' H'' σ' e3 l3 a3 => ⟨m', S', ρ', a3, base e3, Nat.le_trans le l3, FinS.from fin (e2.trans e3 (Nat.le_refl _)) l3⟩
            | brk ρ' S' =>
              rw [eb] at fin
              exact FinS.from (S1 := S) (r := .next ρ' S') fin e2 (Nat.le_refl _)
            | ret x S' =>
              rw [eb] at fin
              exact FinS.from (S1 := S) (r := .ret x S') fin e2 (Nat.le_refl _)
            | exc c p ρ' S' =>
              rw [eb] at fin
              exact FinS.from (S1 := S) (r := .exc c p ρ' S') fin e2 (Nat.le_refl _)
            | stuck =>
              rw [eb] at fin
              exact fin
          · rw [if_neg hl] at fin
            exact fin.elim
    · rw [if_neg hck] at fin
      exact fin.elim
  · have ej : j = all.length := by omega
    subst ej
    rw [List.drop_length] at fin
    unfold forL at fin
    by_cases hck : chk ck S
    · rw [if_pos hck] at fin
      exact .inl ⟨r1'.stop m S H ex le at_.rel hck, fin.nx_here at_⟩
    · rw [if_neg hck] at fin
      exact fin.elim
end
end TL

set_option Elab.async false
set_option linter.all false
set_option maxRecDepth 100000
set_option maxHeartbeats 1000000
/-! TN15: sum of a tuple of ints. -/
namespace TL
open PySem PySem.Spec PyProof.Rows L2
def rSumT (K : PySem.W.Frag) : List V → Hp → VK → Prop := fun vs H Q => ∃ (a : Addr) (ns : List Int), vs = [V.ref a] ∧ SqT K H a (ns.map V.int) ∧ Q (.int ns.sum) H
theorem cr_sumT {X : Cx} (hc : X.calm = true) : CallR X (.builtin "sum") (rSumT X.K) := by
  intro pins s σ H vs us Q I r h
  obtain ⟨a, ns, rfl, hs, q⟩ := h
  obtain ⟨its, rv, hl, _⟩ := I.tuple hs
  rw [Vals.ref1 r]
  obtain ⟨xs, e⟩ := rv.ints.allInts.items
  have hn : numsOf (intItems xs).toList = ns := by rw [← e]; exact rv.ints.numsOf
  rw [nums_intItems] at hn
  have hl' : s.heap.IsTuple a its.toArray := hl
  rw [e] at hl'
  refine PySem.W.ktm_sumG (I.ok.hd hc) hl' fun h' tk t' hk => ?_
  rw [preSum_eq, List.take_of_length_le (by simp), hn]
  exact ⟨.int _, H, I.kept hk, ⟨_, rfl⟩, q⟩
def rSumA (K : PySem.W.Frag) : List V → Hp → VK → Prop := fun vs H Q => rSum K vs H Q ∨ rSumT K vs H Q
theorem call_sumA {X : Cx} (hc : X.calm = true) : CallR X (.builtin "sum") (rSumA X.K) := (cr_sum hc).or (cr_sumT hc)
def sumA : FB := fun xs S => match xs with
  | [.tup ys] => match intsOf ys with
    | some ns => .ok (.int ns.sum) S
    | none => .stuck
  | [.kup ys] => match intsOf ys with
    | some ns => .ok (.int ns.sum) S
    | none => .stuck
  | xs => sumV xs S
theorem opC_sumA {K : PySem.W.Frag} {mg : Str → Option Value} : OpC K mg sumA (rSumA K) := by
  intro W σ m S H xs vs Q rel ra f
  unfold sumA at f
  split at f
  · rename_i ys
    obtain ⟨v, rfl, b, a, us, rfl, h1, h2⟩ := one_of ra
    cases e2 : intsOf ys with
    | none => rw [e2] at f; exact f.elim
    | some ns =>
      rw [e2] at f
      have e3 := intsOf_eq e2
      subst e3
      have e4 := ints_rps h2
      subst e4
      exact .inr ⟨a, ns, rfl, SqT.of h1, f.here rel ⟨rfl, rfl⟩⟩
  · rename_i ys
    obtain ⟨v, rfl, b, a, us, rfl, h1, h2⟩ := one_of ra
    cases e2 : intsOf ys with
    | none => rw [e2] at f; exact f.elim
    | some ns =>
      rw [e2] at f
      have e3 := intsOf_eq e2
      subst e3
      have e4 := ints_rps h2
      subst e4
      exact .inr ⟨a, ns, rfl, h1.t, f.here rel ⟨rfl, rfl⟩⟩
  · exact .inl (opC_sum W σ m S H _ vs Q rel ra f)
theorem sumA_tup (L : List Int) (S : Store) : sumA [.tup (L.map .int)] S = .ok (.int L.sum) S := by
  show (match intsOf (L.map .int) with | some ns => Res.ok (PV.int ns.sum) S | none => .stuck) = _
  rw [intsOf_map]
theorem sumA_obj {i : Nat} {xs : List Int} {S : Store} (h : S[i]? = some (.lst (xs.map .int))) : sumA [.obj i] S = .ok (.int xs.sum) S := by
  show sumV [.obj i] S = _
  unfold sumV lstOf
  simp only [h, Option.bind_some, intsOf_map]
end TL

set_option Elab.async false
set_option linter.all false
set_option maxRecDepth 100000
set_option maxHeartbeats 1000000
/-! TN16: a tuple of ints below another. -/
namespace TL
open PySem PySem.Spec PyProof.Rows L2
def ltA : F2 := fun x y S => match x, y with
  | .tup xs, .tup ys => match intsOf xs, intsOf ys with
    | some a, some b => .ok (.bl (HT.lexLt a b)) S
    | _, _ => .stuck
  | x, y => ltV x y S
def rLtA (K : PySem.W.Frag) : R2 := fun x y H Q => rI0 (fun i j => .bl (decide (i < j))) x y H Q ∨ rLtT K x y H Q
theorem op_ltA {X : Cx} (hu : X.A.units + 1 < cLine) : OpR X (compareOp .Lt) (rLtA X.K) := op_lt.or (op_ltT (by omega))
theorem op2_ltA {K : PySem.W.Frag} {mg : Str → Option Value} : Op2 K mg ltA (rLtA K) := by
  intro W σ m S H x y v u Q rel rx ry f
  unfold ltA at f
  split at f
  · rename_i xs ys
    obtain ⟨b1, a, us, rfl, h1, h2⟩ := rx
    obtain ⟨b2, b, ws, rfl, h3, h4⟩ := ry
    cases e1 : intsOf xs with
    | none => rw [e1] at f; exact f.elim
    | some ns =>
      cases e2 : intsOf ys with
      | none => rw [e1, e2] at f; exact f.elim
      | some ms =>
        rw [e1, e2] at f
        have q1 := intsOf_eq e1
        have q2 := intsOf_eq e2
        subst q1 q2
        have q3 := ints_rps h2
        have q4 := ints_rps h4
        subst q3 q4
        exact .inr ⟨a, b, ns, ms, rfl, rfl, SqT.of h1, SqT.of h3, f.here rel ⟨rfl, rfl⟩⟩
  · exact .inl (op2_lt W σ m S H _ _ v u Q rel rx ry f)
theorem ltA_tup (a b : List Int) (S : Store) : ltA (.tup (a.map .int)) (.tup (b.map .int)) S = .ok (.bl (HT.lexLt a b)) S := by
  show (match intsOf (a.map .int), intsOf (b.map .int) with | some a, some b => Res.ok (PV.bl (HT.lexLt a b)) S | _, _ => .stuck) = _
  rw [intsOf_map, intsOf_map]
end TL

set_option Elab.async false
set_option linter.all false
set_option maxRecDepth 100000
/-! what each def of law_k36_whole_lines_laid_in does, on a store of values (printed by gen.py) -/
namespace K36
open PySem PySem.Spec PyProof.Rows L2 TL
/-- is_whole(thing); slots thing -/
noncomputable def b_is_whole : CS := (sRet (eAnd (eB (isinstV "int") (aCons (eVar 0) (aCons (eK (.ty "int")) aNil))) (eNot (eB (isinstV "bool") (aCons (eVar 0) (aCons (eK (.ty "bool")) aNil))))))
noncomputable def m_is_whole : DF := runD 1 b_is_whole

/-- divisor(one, other); slots one other here there -/
noncomputable def b_divisor : CS := (sSeq (sSet 2 (eB absV' (aCons (eVar 0) aNil)))
    (sSeq (sSet 3 (eB absV' (aCons (eVar 1) aNil)))
    (sSeq (sWhile (tBl (eBin gtV (eVar 3) (eK (.int 0)))) (sPar 2 3 (eVar 3) (eBin modV (eVar 2) (eVar 3))))
    (sRet (eVar 2)))))
noncomputable def m_divisor : DF := runD 4 b_divisor

/-- ratio(top, bottom); slots top bottom by -/
noncomputable def b_ratio : CS := (sSeq (sIf (cOr (cNot (tTru (eCall 1 m_is_whole (aCons (eVar 0) aNil)))) (cOr (cNot (tTru (eCall 1 m_is_whole (aCons (eVar 1) aNil)))) (tBl (eBin eqV (eVar 1) (eK (.int 0)))))) (sRaise "NoRatio") sNext)
    (sSeq (sSet 2 (eCall 2 m_divisor (aCons (eVar 0) (aCons (eVar 1) aNil))))
    (sSeq (sIf (tBl (eBin ltV (eVar 1) (eK (.int 0)))) (sSet 2 (eBin subV (eK (.int 0)) (eVar 2))) sNext)
    (sRet (eTup (aCons (eBin fdivV (eVar 0) (eVar 2)) (aCons (eBin fdivV (eVar 1) (eVar 2)) aNil)))))))
noncomputable def m_ratio : DF := runD 3 b_ratio

/-- ways_out(many, some); slots many some found k -/
noncomputable def b_ways_out : CS := (sSeq (sSet 2 (eK (.int 1)))
    (sSeq (sFor (.name 3) (iRange1 (eVar 1)) (sSet 2 (eBin fdivV (eBin mulV (eVar 2) (eBin subV (eVar 0) (eVar 3))) (eBin addV (eVar 3) (eK (.int 1))))))
    (sRet (eVar 2))))
noncomputable def m_ways_out : DF := runD 4 b_ways_out

/-- one_bottom(one); slots one found powers share -/
noncomputable def b_one_bottom : CS := (sSeq (sSet 1 (eK (.int 1)))
    (sSeq (sFor (.tup [2, 3]) (iAny (eVar 0)) (sSet 1 (eBin fdivV (eBin mulV (eVar 1) (eBin getV (eVar 3) (eK (.int 1)))) (eCall 2 m_divisor (aCons (eVar 1) (aCons (eBin getV (eVar 3) (eK (.int 1))) aNil))))))
    (sRet (eVar 1))))
noncomputable def m_one_bottom : DF := runD 4 b_one_bottom

/-- top_at(one, sizes, bottom); slots one sizes bottom total powers share part many some -/
noncomputable def b_top_at : CS := (sSeq (sSet 3 (eK (.int 0)))
    (sSeq (sFor (.tup [4, 5]) (iAny (eVar 0)) (sSeq (sSet 6 (eBin mulV (eBin getV (eVar 5) (eK (.int 0))) (eBin fdivV (eVar 2) (eBin getV (eVar 5) (eK (.int 1))))))
    (sSeq (sFor (.tup [7, 8]) (iZipP (eVar 1) (eVar 4)) (sSet 6 (eBin mulV (eVar 6) (eCall 2 m_ways_out (aCons (eVar 7) (aCons (eVar 8) aNil))))))
    (sAug 3 iaddV (eVar 6)))))
    (sRet (eVar 3))))
noncomputable def m_top_at : DF := runD 9 b_top_at

/-- line_at(line, sizes); slots line sizes total number many -/
noncomputable def b_line_at : CS := (sSeq (sSet 2 (eBin getV (eVar 0) (eK (.int 0))))
    (sSeq (sFor (.tup [3, 4]) (iZipP (eSlice (eVar 0) (oSome (eK (.int 1))) oNone) (eVar 1)) (sAug 2 iaddV (eBin mulV (eVar 3) (eVar 4))))
    (sRet (eVar 2))))
noncomputable def m_line_at : DF := runD 5 b_line_at

/-- powers_to(many, most); slots many most rows k longer row power -/
noncomputable def b_powers_to : CS := (sSeq (sSet 2 (eLst (aCons (eTup aNil) aNil)))
    (sSeq (sFor (.name 3) (iRange1 (eVar 0)) (sSeq (sSet 4 (eLst aNil))
    (sSeq (sFor (.name 5) (iAny (eVar 2)) (sFor (.name 6) (iRange1 (eBin addV (eBin subV (eVar 1) (eB sumA (aCons (eVar 5) aNil))) (eK (.int 1)))) (sDrop (eM appendV (eVar 4) (aCons (eBin addV (eVar 5) (eTup (aCons (eVar 6) aNil))) aNil)))))
    (sSet 2 (eVar 4)))))
    (sRet (eVar 2))))
noncomputable def m_powers_to : DF := runD 7 b_powers_to

/-- laid(one, lines, many); slots one lines many most bottom spots tops spot at level powers share line -/
noncomputable def b_laid : CS := (sSeq (sSet 3 (eGc (eGc (eMaxD (eLc (.tup [10, 11]) (iAny (eVar 0)) tYes' (eB sumA (aCons (eVar 10) aNil)) [10, 11]) (eK (.int 0))))))
    (sSeq (sSet 4 (eCall 1 m_one_bottom (aCons (eVar 0) aNil)))
    (sSeq (sSet 5 (eCall 2 m_powers_to (aCons (eVar 2) (aCons (eVar 3) aNil))))
    (sSeq (sSet 6 eDic)
    (sSeq (sFor (.name 7) (iAny (eVar 5)) (sSetIx (eVar 6) (eVar 7) (eGc (eCall 3 m_top_at (aCons (eVar 0) (aCons (eLc (.name 12) (iAny (eVar 1)) tYes' (eCall 2 m_line_at (aCons (eVar 12) (aCons (eVar 7) aNil))) [12]) (aCons (eVar 4) aNil)))))))
    (sSeq (sFor (.name 8) (iRange1 (eVar 2)) (sFor (.name 9) (iRange2 (eK (.int 1)) (eBin addV (eVar 3) (eK (.int 1)))) (sFor (.name 7) (iRev (eVar 5)) (sIf (tBl (eBin geV (eBin getV (eVar 7) (eVar 8)) (eVar 9))) (sSetIx (eVar 6) (eVar 7) (eGc (eBin subV (eBin getV (eVar 6) (eVar 7)) (eBin getV (eVar 6) (eBin addV (eBin addV (eSlice (eVar 7) oNone (oSome (eVar 8))) (eTup (aCons (eBin subV (eBin getV (eVar 7) (eVar 8)) (eK (.int 1))) aNil))) (eSlice (eVar 7) (oSome (eBin addV (eVar 8) (eK (.int 1)))) oNone)))))) sNext))))
    (sRet (eGc (eGc (eB tupleV (aCons (eLc (.name 7) (iAny (eVar 5)) (tBl (eBin neV (eBin getV (eVar 6) (eVar 7)) (eK (.int 0)))) (eTup (aCons (eVar 7) (aCons (eCall 2 m_ratio (aCons (eBin getV (eVar 6) (eVar 7)) (aCons (eVar 4) aNil))) aNil))) [7]) aNil)))))))))))
noncomputable def m_laid : DF := runD 13 b_laid

/-- _law_cell_at(_law_script, _law_k); slots _law_script _law_k -/
noncomputable def b_law_cell_at : CS := (sSeq (sIf (tBl (eBin ltV (eVar 1) (eB lenV (aCons (eVar 0) aNil)))) (sRet (eBin getV (eVar 0) (eVar 1))) sNext)
    (sRet (eK (.int 0))))
noncomputable def m_law_cell_at : DF := runD 2 b_law_cell_at

/-- _law_whole(_law_found); slots _law_found -/
noncomputable def b_law_whole : CS := (sRet (eAnd (eB (isinstV "int") (aCons (eVar 0) (aCons (eK (.ty "int")) aNil))) (eNot (eB (isinstV "bool") (aCons (eVar 0) (aCons (eK (.ty "bool")) aNil))))))
noncomputable def m_law_whole : DF := runD 1 b_law_whole

/-- _law_divisor(_law_one, _law_other); slots _law_one _law_other -/
noncomputable def b_law_divisor : CS := (sSeq (sSet 0 (eB absV' (aCons (eVar 0) aNil)))
    (sSeq (sSet 1 (eB absV' (aCons (eVar 1) aNil)))
    (sSeq (sWhile (tBl (eBin gtV (eVar 1) (eK (.int 0)))) (sPar 0 1 (eVar 1) (eBin modV (eVar 0) (eVar 1))))
    (sRet (eVar 0)))))
noncomputable def m_law_divisor : DF := runD 2 b_law_divisor

/-- _law_ratio(_law_cell); slots _law_cell _law_rest _law_top _law_bottom _law_by -/
noncomputable def b_law_ratio : CS := (sSeq (sSet 1 (eBin fdivV (eVar 0) (eK (.int 3))))
    (sSeq (sSet 2 (eGc (eBin getV (eLst (aCons (eBin modV (eVar 1) (eK (.int 11))) (aCons (eBin mulV (eBin modV (eVar 1) (eK (.int 11))) (eBin subV (eK (.int 1)) (eBin mulV (eK (.int 2)) (eB intV (aCons (eBin eqV (eBin modV (eBin fdivV (eVar 1) (eK (.int 11))) (eK (.int 4))) (eK (.int 3))) aNil))))) (aCons (eBin modV (eVar 1) (eBin powV (eK (.int 10)) (eK (.int 31)))) aNil)))) (eBin modV (eVar 0) (eK (.int 3))))))
    (sSeq (sSet 3 (eGc (eBin getV (eLst (aCons (eK (.int 1)) (aCons (eBin addV (eK (.int 1)) (eBin modV (eBin fdivV (eVar 1) (eK (.int 44))) (eK (.int 12)))) (aCons (eBin addV (eK (.int 1)) (eBin modV (eBin mulV (eVar 1) (eK (.int 48271))) (eK (.int 999983)))) aNil)))) (eBin modV (eVar 0) (eK (.int 3))))))
    (sSeq (sSet 4 (eCall 2 m_law_divisor (aCons (eVar 2) (aCons (eVar 3) aNil))))
    (sRet (eTup (aCons (eBin fdivV (eVar 2) (eVar 4)) (aCons (eBin fdivV (eVar 3) (eVar 4)) aNil))))))))
noncomputable def m_law_ratio : DF := runD 5 b_law_ratio

/-- _law_powers(_law_cell, _law_many, _law_most); slots _law_cell _law_many _law_most _law_powers_here _law_k _law_at -/
noncomputable def b_law_powers : CS := (sSeq (sSet 3 (eGc (eBin mulV (eLst (aCons (eK (.int 0)) aNil)) (eVar 1))))
    (sSeq (sFor (.name 4) (iRange1 (eVar 2)) (sSeq (sSet 5 (eBin modV (eVar 0) (eBin addV (eVar 1) (eK (.int 1)))))
    (sSeq (sSet 0 (eBin fdivV (eVar 0) (eBin addV (eVar 1) (eK (.int 1)))))
    (sIf (tBl (eBin ltV (eVar 5) (eVar 1))) (sSetIx (eVar 3) (eVar 5) (eBin addV (eBin getV (eVar 3) (eVar 5)) (eK (.int 1)))) sNext))))
    (sRet (eB tupleV (aCons (eVar 3) aNil)))))
noncomputable def m_law_powers : DF := runD 6 b_law_powers

/-- _law_sum(_law_cells, _law_many, _law_most); slots _law_cells _law_many _law_most _law_parts _law_one _law_other _law_powers_here _law_share -/
noncomputable def b_law_sum : CS := (sSeq (sSet 3 eDic)
    (sSeq (sFor (.tup [4, 5]) (iZipP (eSlc (eVar 0) oNone oNone (oSome (eK (.int 2)))) (eSlc (eVar 0) (oSome (eK (.int 1))) oNone (oSome (eK (.int 2))))) (sSeq (sSet 6 (eCall 3 m_law_powers (aCons (eVar 4) (aCons (eVar 1) (aCons (eVar 2) aNil)))))
    (sSeq (sSet 7 (eCall 1 m_law_ratio (aCons (eVar 5) aNil)))
    (sIf (cAnd (tBl (eBin ninV (eVar 6) (eVar 3))) (tBl (eBin neV (eBin getV (eVar 7) (eK (.int 0))) (eK (.int 0))))) (sSetIx (eVar 3) (eVar 6) (eVar 7)) sNext))))
    (sRet (eGc (eGc (eB tupleV (aCons (eLc (.name 6) (iAny (eB sortedV (aCons (eVar 3) aNil))) tYes' (eTup (aCons (eVar 6) (aCons (eBin getV (eVar 3) (eVar 6)) aNil))) [6]) aNil)))))))
noncomputable def m_law_sum : DF := runD 8 b_law_sum

/-- _law_number(_law_script, _law_k); slots _law_script _law_k _law_cell -/
noncomputable def b_law_number : CS := (sSeq (sSet 2 (eBin mulV (eBin addV (eBin addV (eCall 2 m_law_cell_at (aCons (eVar 0) (aCons (eBin addV (eK (.int 51)) (eBin modV (eVar 1) (eK (.int 12)))) aNil))) (eBin fdivV (eCall 2 m_law_cell_at (aCons (eVar 0) (aCons (eK (.int 0)) aNil))) (eK (.int 416)))) (eVar 1)) (eBin addV (eK (.int 48271)) (eBin mulV (eBin mulV (eK (.int 2)) (eVar 1)) (eVar 1)))))
    (sSeq (sIf (tBl (eBin eqV (eBin modV (eVar 2) (eK (.int 5))) (eK (.int 0)))) (sRet (eBin modV (eBin fdivV (eVar 2) (eK (.int 5))) (eBin powV (eK (.int 10)) (eK (.int 15))))) sNext)
    (sRet (eBin modV (eBin fdivV (eVar 2) (eK (.int 5))) (eK (.int 4))))))
noncomputable def m_law_number : DF := runD 3 b_law_number

/-- _law_size(_law_cell); slots _law_cell -/
noncomputable def b_law_size : CS := (sSeq (sIf (tBl (eBin eqV (eBin modV (eVar 0) (eK (.int 2))) (eK (.int 0)))) (sRet (eBin modV (eBin fdivV (eVar 0) (eK (.int 2))) (eK (.int 7)))) sNext)
    (sRet (eBin modV (eBin fdivV (eVar 0) (eK (.int 2))) (eBin powV (eK (.int 10)) (eK (.int 20))))))
noncomputable def m_law_size : DF := runD 1 b_law_size

/-- _law_ways(_law_many, _law_some); slots _law_many _law_some _law_top _law_k -/
noncomputable def b_law_ways : CS := (sSeq (sSet 2 (eK (.int 1)))
    (sSeq (sFor (.name 3) (iRange1 (eVar 1)) (sSet 2 (eBin mulV (eVar 2) (eBin subV (eVar 0) (eVar 3)))))
    (sRet (eGc (eBin fdivV (eVar 2) (eBin getV (eLst (aCons (eK (.int 1)) (aCons (eK (.int 1)) (aCons (eK (.int 2)) (aCons (eK (.int 6)) aNil))))) (eVar 1)))))))
noncomputable def m_law_ways : DF := runD 4 b_law_ways

/-- _law_value(_law_parts, _law_sizes); slots _law_parts _law_sizes _law_top _law_bottom _law_powers_here _law_share _law_ways_here _law_many _law_some -/
noncomputable def b_law_value : CS := (sSeq (sSet 2 (eK (.int 0)))
    (sSeq (sSet 3 (eK (.int 1)))
    (sSeq (sFor (.tup [4, 5]) (iAny (eVar 0)) (sSeq (sSet 6 (eBin getV (eVar 5) (eK (.int 0))))
    (sSeq (sFor (.tup [7, 8]) (iZipP (eVar 1) (eVar 4)) (sSet 6 (eBin mulV (eVar 6) (eCall 2 m_law_ways (aCons (eVar 7) (aCons (eVar 8) aNil))))))
    (sSeq (sSet 2 (eBin addV (eBin mulV (eVar 2) (eBin getV (eVar 5) (eK (.int 1)))) (eBin mulV (eVar 6) (eVar 3))))
    (sSet 3 (eBin mulV (eVar 3) (eBin getV (eVar 5) (eK (.int 1)))))))))
    (sRet (eTup (aCons (eVar 2) (aCons (eVar 3) aNil)))))))
noncomputable def m_law_value : DF := runD 9 b_law_value

/-- _law_is_part(_law_part, _law_many); slots _law_part _law_many _law_power -/
noncomputable def b_law_is_part : CS := (sSeq (sIf (cOr (cNot (tTru (eB (isinstV "tuple") (aCons (eVar 0) (aCons (eK (.ty "tuple")) aNil))))) (cOr (tBl (eBin neV (eB lenV (aCons (eVar 0) aNil)) (eK (.int 2)))) (cOr (cNot (tTru (eB (isinstV "tuple") (aCons (eBin getV (eVar 0) (eK (.int 0))) (aCons (eK (.ty "tuple")) aNil))))) (tBl (eBin neV (eB lenV (aCons (eBin getV (eVar 0) (eK (.int 0))) aNil)) (eVar 1)))))) (sRet (eK (.bl false))) sNext)
    (sSeq (sIf (cOr (cNot (tTru (eB (isinstV "tuple") (aCons (eBin getV (eVar 0) (eK (.int 1))) (aCons (eK (.ty "tuple")) aNil))))) (cOr (tBl (eBin neV (eB lenV (aCons (eBin getV (eVar 0) (eK (.int 1))) aNil)) (eK (.int 2)))) (cOr (cNot (tTru (eCall 1 m_law_whole (aCons (eBin getV (eBin getV (eVar 0) (eK (.int 1))) (eK (.int 0))) aNil)))) (cNot (tTru (eCall 1 m_law_whole (aCons (eBin getV (eBin getV (eVar 0) (eK (.int 1))) (eK (.int 1))) aNil))))))) (sRet (eK (.bl false))) sNext)
    (sSeq (sIf (cOr (tBl (eBin eqV (eBin getV (eBin getV (eVar 0) (eK (.int 1))) (eK (.int 0))) (eK (.int 0)))) (cOr (tBl (eBin ltV (eBin getV (eBin getV (eVar 0) (eK (.int 1))) (eK (.int 1))) (eK (.int 1)))) (tBl (eBin neV (eCall 2 m_law_divisor (aCons (eBin getV (eBin getV (eVar 0) (eK (.int 1))) (eK (.int 0))) (aCons (eBin getV (eBin getV (eVar 0) (eK (.int 1))) (eK (.int 1))) aNil))) (eK (.int 1)))))) (sRet (eK (.bl false))) sNext)
    (sRet (eGc (eGc (eB allV (aCons (eLc (.name 2) (iAny (eBin getV (eVar 0) (eK (.int 0)))) tYes' (eAnd (eCall 1 m_law_whole (aCons (eVar 2) aNil)) (eChain leV leV (eK (.int 0)) (eVar 2) (eK (.int 3)))) [2]) aNil))))))))
noncomputable def m_law_is_part : DF := runD 3 b_law_is_part

/-- _law_is_sum(_law_found, _law_many); slots _law_found _law_many _law_part _law_one _law_other -/
noncomputable def b_law_is_sum : CS := (sSeq (sIf (cNot (tTru (eB (isinstV "tuple") (aCons (eVar 0) (aCons (eK (.ty "tuple")) aNil))))) (sRet (eK (.bl false))) sNext)
    (sSeq (sFor (.name 2) (iAny (eVar 0)) (sIf (cNot (tTru (eCall 2 m_law_is_part (aCons (eVar 2) (aCons (eVar 1) aNil))))) (sRet (eK (.bl false))) sNext))
    (sRet (eGc (eGc (eB allV (aCons (eLc (.tup [3, 4]) (iZipP (eSlice (eVar 0) oNone (oSome (eNeg (eK (.int 1))))) (eSlice (eVar 0) (oSome (eK (.int 1))) oNone)) tYes' (eBin ltA (eBin getV (eVar 3) (eK (.int 0))) (eBin getV (eVar 4) (eK (.int 0)))) [3, 4]) aNil)))))))
noncomputable def m_law_is_sum : DF := runD 5 b_law_is_sum

/-- law(_law_script); slots _law_script _law_first _law_many _law_most _law_wide _law_parts _law_lines _law_k _law_handed _law_found _law_start _law_more _law_sizes _law_values _law_one _law_other _law_j _law_powers_here _law_share _law_line -/
noncomputable def b_law : CS := (sSeq (sSet 1 (eCall 2 m_law_cell_at (aCons (eVar 0) (aCons (eK (.int 0)) aNil))))
    (sSeq (sSet 2 (eBin modV (eVar 1) (eK (.int 4))))
    (sSeq (sSet 3 (eK (.int 3)))
    (sSeq (sIf (tBl (eBin eqV (eBin modV (eBin fdivV (eVar 1) (eK (.int 4))) (eK (.int 8))) (eK (.int 1)))) (sSeq (sSet 2 (eBin addV (eK (.int 4)) (eBin modV (eBin fdivV (eVar 1) (eK (.int 32))) (eK (.int 13)))))
    (sSet 3 (eK (.int 1)))) sNext)
    (sSeq (sSet 4 (eBin modV (eCall 2 m_law_cell_at (aCons (eVar 0) (aCons (eK (.int 1)) aNil))) (eK (.int 4))))
    (sSeq (sSet 5 (eGc (eCall 3 m_law_sum (aCons (eGc (eSlice (eVar 0) (oSome (eK (.int 2))) (oSome (eK (.int 44))))) (aCons (eVar 2) (aCons (eVar 3) aNil))))))
    (sSeq (sSet 6 (eLst aNil))
    (sSeq (sFor (.name 7) (iRange1 (eVar 2)) (sDrop (eM appendV (eVar 6) (aCons (eGc (eGc (eB tupleV (aCons (eLc (.name 16) (iRange1 (eBin addV (eVar 4) (eK (.int 1)))) tYes' (eCall 2 m_law_number (aCons (eVar 0) (aCons (eBin addV (eBin mulV (eVar 7) (eBin addV (eVar 4) (eK (.int 1)))) (eVar 16)) aNil))) [16]) aNil)))) aNil))))
    (sSeq (sSet 8 (eGc (eB listV (aCons (eVar 6) aNil))))
    (sSeq (sSet 9 (eCall 3 m_laid (aCons (eVar 5) (aCons (eVar 8) (aCons (eVar 4) aNil)))))
    (sSeq (sIf (cOr (cNot (tTru (eCall 2 m_law_is_sum (aCons (eVar 9) (aCons (eVar 4) aNil))))) (tBl (eBin neV (eVar 8) (eVar 6)))) (sRet (eK (.bl false))) sNext)
    (sSeq (sIf (tGc (cAnd (tTru (eGc (eB allV (aCons (eLc (.tup [17, 18]) (iAny (eVar 5)) tYes' (eBin gtV (eBin getV (eVar 18) (eK (.int 0))) (eK (.int 0))) [17, 18]) aNil)))) (cNot (tTru (eGc (eB allV (aCons (eLc (.tup [17, 18]) (iAny (eVar 9)) tYes' (eBin gtV (eBin getV (eVar 18) (eK (.int 0))) (eK (.int 0))) [17, 18]) aNil))))))) (sRet (eK (.bl false))) sNext)
    (sSeq (sFor (.name 10) (iAny (eLst (aCons (eK (.int 44)) (aCons (eK (.int 47)) aNil)))) (sSeq (sSet 11 (eBin fdivV (eCall 2 m_law_cell_at (aCons (eVar 0) (aCons (eK (.int 1)) aNil))) (eK (.int 4))))
    (sSeq (sSet 12 (eLc (.name 7) (iRange1 (eVar 4)) tYes' (eCall 1 m_law_size (aCons (eBin addV (eCall 2 m_law_cell_at (aCons (eVar 0) (aCons (eBin addV (eVar 10) (eVar 7)) aNil))) (eBin mulV (eVar 11) (eBin addV (eVar 10) (eBin mulV (eK (.int 2)) (eVar 7))))) aNil)) [7]))
    (sSeq (sSet 13 (eLc (.name 19) (iAny (eVar 6)) tYes' (eGc (eBin addV (eBin getV (eVar 19) (eK (.int 0))) (eGc (eB sumA (aCons (eLc (.name 7) (iRange1 (eVar 4)) tYes' (eBin mulV (eBin getV (eVar 19) (eBin addV (eVar 7) (eK (.int 1)))) (eBin getV (eVar 12) (eVar 7))) [7]) aNil))))) [19]))
    (sSeq (sSet 14 (eCall 2 m_law_value (aCons (eVar 5) (aCons (eVar 13) aNil))))
    (sSeq (sSet 15 (eCall 2 m_law_value (aCons (eVar 9) (aCons (eVar 12) aNil))))
    (sIf (tBl (eBin neV (eBin mulV (eBin getV (eVar 14) (eK (.int 0))) (eBin getV (eVar 15) (eK (.int 1)))) (eBin mulV (eBin getV (eVar 15) (eK (.int 0))) (eBin getV (eVar 14) (eK (.int 1)))))) (sRet (eK (.bl false))) sNext)))))))
    (sRet (eK (.bl true))))))))))))))))
noncomputable def m_law : DF := runD 20 b_law

end K36

set_option Elab.async false
set_option linter.all false
set_option maxRecDepth 100000
set_option maxHeartbeats 1000000
/-! TT2: equality of plain values, loops and comprehensions by an invariant, texts of numbers. -/
namespace TL
open PySem PySem.Spec PyProof.Rows L2
/-! ### equality of plain values -/
/-- none, ints, texts, tuples of these, at most k deep -/
def okV : Nat → PV → Bool
  | _, .non => true
  | _, .int _ => true
  | _, .str x => PySem.PyData.strOk x
  | k + 1, .tup xs => xs.all (okV k)
  | _, _ => false
mutual
def datV : PV → PyData
  | .non => .none
  | .int i => .int i
  | .str x => .str x
  | .tup xs => .tuple (datsV xs)
  | .bl b => .bool b
  | _ => .none
def datsV : List PV → List PyData
  | [] => []
  | x :: xs => datV x :: datsV xs
end
theorem toD_dat (S : Store) : ∀ (k : Nat) (x : PV), okV k x = true → ∀ l, k ≤ l → toD S l x = some (datV x) := by
  intro k
  induction k with
  | zero =>
    intro x h l _
    cases x with
    | non => cases l <;> rfl
    | int i => cases l <;> rfl
    | str z => cases l <;> rfl
    | _ => cases h
  | succ k ih =>
    intro x h l hl
    cases x with
    | non => cases l <;> rfl
    | int i => cases l <;> rfl
    | str z => cases l <;> rfl
    | tup xs =>
      cases l with
      | zero => omega
      | succ l =>
        have h' : xs.all (okV k) = true := h
        have all : ∀ ys : List PV, ys.all (okV k) = true → dList (toD S l) ys = some (datsV ys) := by
          intro ys
          induction ys with
          | nil => intro _; rfl
          | cons y ys ihy =>
            intro hy
            have hy' := Bool.and_eq_true_iff.mp hy
            unfold dList
            rw [ih y hy'.1 l (by omega), ihy hy'.2]
            rfl
        show (dList (toD S l) xs).map PyData.tuple = _
        rw [all xs h']
        rfl
    | _ => cases h
theorem dat_shape : ∀ (k : Nat) (x : PV), okV k x = true → (datV x).canLay0 = true ∧ (datV x).depth ≤ k := by
  intro k
  induction k with
  | zero =>
    intro x h
    cases x with
    | non => exact ⟨rfl, Nat.zero_le _⟩
    | int i => exact ⟨rfl, Nat.zero_le _⟩
    | str z => exact ⟨h, Nat.zero_le _⟩
    | _ => cases h
  | succ k ih =>
    intro x h
    cases x with
    | non => exact ⟨rfl, Nat.zero_le _⟩
    | int i => exact ⟨rfl, Nat.zero_le _⟩
    | str z => exact ⟨h, Nat.zero_le _⟩
    | tup xs =>
      have h' : xs.all (okV k) = true := h
      have all : ∀ ys : List PV, ys.all (okV k) = true → PyData.canLayAll0 (datsV ys) = true ∧ PyData.depthAll (datsV ys) ≤ k := by
        intro ys
        induction ys with
        | nil => intro _; exact ⟨rfl, Nat.zero_le _⟩
        | cons y ys ihy =>
          intro hy
          have hy' := Bool.and_eq_true_iff.mp hy
          obtain ⟨a1, a2⟩ := ih y hy'.1
          obtain ⟨b1, b2⟩ := ihy hy'.2
          exact ⟨Bool.and_eq_true_iff.mpr ⟨a1, b1⟩, Nat.max_le.mpr ⟨a2, b2⟩⟩
      obtain ⟨a1, a2⟩ := all xs h'
      refine ⟨a1, ?_⟩
      show PyData.depth (.tuple (datsV xs)) ≤ k + 1
      simp only [PyData.depth]
      omega
    | _ => cases h
theorem dat_eqv : ∀ (k : Nat) (x y : PV), okV k x = true → okV k y = true → PyData.eqv (datV x) (datV y) = decide (x = y) := by
  intro k
  induction k with
  | zero =>
    intro x y hx hy
    cases x <;> first | (cases hx; done) | skip
    all_goals cases y <;> first | (cases hy; done) | skip
    all_goals first | (simp [datV, PyData.eqv]; done) | skip
    · rename_i i j
      show (i == j) = decide (PV.int i = PV.int j)
      by_cases q : i = j
      · subst q; simp
      · simp [q]
    · rename_i i j
      show (i == j) = decide (PV.str i = PV.str j)
      by_cases q : i = j
      · subst q; simp
      · simp [q]
  | succ k ih =>
    intro x y hx hy
    cases x <;> first | (cases hx; done) | skip
    all_goals cases y <;> first | (cases hy; done) | skip
    all_goals first | (simp [datV, PyData.eqv]; done) | skip
    · rename_i i j
      show (i == j) = decide (PV.int i = PV.int j)
      by_cases q : i = j
      · subst q; simp
      · simp [q]
    · rename_i i j
      show (i == j) = decide (PV.str i = PV.str j)
      by_cases q : i = j
      · subst q; simp
      · simp [q]
    · rename_i xs ys
      have all : ∀ xs ys : List PV, xs.all (okV k) = true → ys.all (okV k) = true → PyData.eqvAll (datsV xs) (datsV ys) = decide (xs = ys) := by
        intro xs
        induction xs with
        | nil =>
          intro ys _ _
          cases ys with
          | nil => simp [datsV, PyData.eqvAll]
          | cons y ys => simp [datsV, PyData.eqvAll]
        | cons x xs ihx =>
          intro ys h1 h2
          cases ys with
          | nil => simp [datsV, PyData.eqvAll]
          | cons y ys =>
            have h1' := Bool.and_eq_true_iff.mp h1
            have h2' := Bool.and_eq_true_iff.mp h2
            simp only [datsV, PyData.eqvAll]
            rw [ih x y h1'.1 h2'.1, ihx ys h1'.2 h2'.2]
            by_cases q1 : x = y
            · by_cases q2 : xs = ys
              · simp [q1, q2]
              · simp [q1, q2]
            · simp [q1]
      show PyData.eqvAll (datsV xs) (datsV ys) = decide (PV.tup xs = PV.tup ys)
      rw [all xs ys hx hy]
      by_cases q : xs = ys
      · subst q; simp
      · simp [q]
theorem eqD_ok {k : Nat} (g : Bool → Bool) {x y : PV} {S : Store} (hk : k ≤ 64) (hx : okV k x = true) (hy : okV k y = true) : eqD g x y S = .ok (.bl (g (decide (x = y)))) S := by
  have s1 : SeqAt.shaped (datV x) = true := by
    obtain ⟨a, b⟩ := dat_shape k x hx
    exact Bool.and_eq_true_iff.mpr ⟨a, decide_eq_true (by omega)⟩
  have s2 : SeqAt.shaped (datV y) = true := by
    obtain ⟨a, b⟩ := dat_shape k y hy
    exact Bool.and_eq_true_iff.mpr ⟨a, decide_eq_true (by omega)⟩
  unfold eqD
  rw [toD_dat S k x hx 66 (by omega), toD_dat S k y hy 66 (by omega)]
  simp only [s1, s2, and_self, if_true]
  rw [dat_eqv k x y hx hy]
theorem eqG_ok {k : Nat} (g : Bool → Bool) {x y : PV} {S : Store} (hk : k ≤ 64) (hx : okV k x = true) (hy : okV k y = true) : eqG g x y S = .ok (.bl (g (decide (x = y)))) S := by
  have d := eqD_ok g (S := S) hk hx hy
  cases x with
  | int i =>
    cases y with
    | int j =>
      show Res.ok (PV.bl (g (decide (i = j)))) S = _
      by_cases q : i = j
      · simp [q]
      · simp [q]
    | _ => exact d
  | str i =>
    cases y with
    | str j =>
      show Res.ok (PV.bl (g (decide (i = j)))) S = _
      by_cases q : i = j
      · simp [q]
      · simp [q]
    | _ => exact d
  | _ => exact d
theorem okV_mono : ∀ {k l : Nat} {x : PV}, k ≤ l → okV k x = true → okV l x = true := by
  intro k
  induction k with
  | zero =>
    intro l x _ h
    cases x with
    | non => cases l <;> rfl
    | int i => cases l <;> rfl
    | str z => cases l <;> exact h
    | _ => cases h
  | succ k ih =>
    intro l x hl h
    cases x with
    | non => cases l <;> rfl
    | int i => cases l <;> rfl
    | str z => cases l <;> exact h
    | tup xs =>
      cases l with
      | zero => omega
      | succ l =>
        have h' : xs.all (okV k) = true := h
        show xs.all (okV l) = true
        rw [List.all_eq_true] at h' ⊢
        exact fun x hx => ih (by omega) (h' x hx)
    | _ => cases h
/-! ### the store -/
theorem get_app {S J : Store} {i : Nat} {o : PO} (h : S[i]? = some o) : (S ++ J)[i]? = some o := by
  rw [List.getElem?_append_left (List.getElem?_eq_some_iff.mp h).1]
  exact h
theorem get_ne {S : Store} {i j : Nat} {o p : PO} (h : S[i]? = some o) (hj : j ≠ i) : (S.set j p)[i]? = some o := by
  rw [List.getElem?_set_ne hj]
  exact h
theorem get_set {S : Store} {i : Nat} {o p : PO} (h : S[i]? = some o) : (S.set i p)[i]? = some p := List.getElem?_set_self (List.getElem?_eq_some_iff.mp h).1
@[simp] theorem get_last {S : Store} {o : PO} : (S ++ [o])[S.length]? = some o := by simp
/-! ### a loop, by what holds at each turn -/
theorem forN_inv {t : TT'} {b : CS} {ck : Chk} {all : List PV} (P : Nat → Sl → Store → Prop) (hc : ∀ i ρ S, P i ρ S → chk ck S)
    (hs : ∀ (i : Nat) (x : PV) (ρ : Sl) (S : Store), all[i]? = some x → P i ρ S → ∃ ρ1, setT t x ρ = some ρ1 ∧ ∃ ρ' S', (b ρ1 S = .next ρ' S' ∨ b ρ1 S = .cont ρ' S') ∧ P (i + 1) ρ' S') :
    ∀ (k i : Nat) (ρ : Sl) (S : Store), i + k = all.length → P i ρ S → ∃ ρ' S', forN t b ck (all.drop i) ρ S = .next ρ' S' ∧ P all.length ρ' S'
  | 0, i, ρ, S, h, p => by
    have e : i = all.length := by omega
    subst e
    refine ⟨ρ, S, ?_, p⟩
    rw [List.drop_length]
    unfold forN
    rw [if_pos (hc _ _ _ p)]
  | k + 1, i, ρ, S, h, p => by
    have hi : i < all.length := by omega
    obtain ⟨ρ1, e1, ρ', S', e2, p'⟩ := hs i all[i] ρ S (List.getElem?_eq_getElem hi) p
    obtain ⟨ρ2, S2, e3, p2⟩ := forN_inv P hc hs k (i + 1) ρ' S' (by omega) p'
    refine ⟨ρ2, S2, ?_, p2⟩
    rw [List.drop_eq_getElem_cons hi]
    unfold forN
    rw [if_pos (hc _ _ _ p), e1]
    rcases e2 with e2 | e2
    · simp only [e2, e3]
    · simp only [e2, e3]
theorem for_inv {t : TT'} {b : CS} {ck : Chk} {all : List PV} {ρ : Sl} {S : Store} (P : Nat → Sl → Store → Prop) (h0 : P 0 ρ S) (hc : ∀ i ρ S, P i ρ S → chk ck S)
    (hs : ∀ (i : Nat) (x : PV) (ρ : Sl) (S : Store), all[i]? = some x → P i ρ S → ∃ ρ1, setT t x ρ = some ρ1 ∧ ∃ ρ' S', (b ρ1 S = .next ρ' S' ∨ b ρ1 S = .cont ρ' S') ∧ P (i + 1) ρ' S') :
    ∃ ρ' S', forN t b ck all ρ S = .next ρ' S' ∧ P all.length ρ' S' := by
  have h := forN_inv P hc hs all.length 0 ρ S (by omega) h0
  rw [List.drop_zero] at h
  exact h
/-- a comprehension whose element leaves the store -/
theorem lcN_map {i : Nat} {te : CE PV} {f : PV → PV} {ck : Chk} {d : Nat} {ρ : Sl} {S : Store} (hd : d < S.length) (hck : ∀ zs, chk ck (S.set d (.lst zs))) :
    ∀ (xs acc : List PV), acc.length + xs.length ≤ sizeLine → (∀ x ∈ xs, ∀ zs, te (ρ.set i (some x)) (S.set d (.lst zs)) = .ok (f x) (S.set d (.lst zs))) →
    lcN (.name i) tYes' te ck d ρ xs (S.set d (.lst acc)) = .ok (.obj d) (S.set d (.lst (acc ++ xs.map f)))
  | [], acc, _, _ => by
    unfold lcN
    rw [if_pos (hck acc)]
    simp
  | x :: xs, acc, hl, h => by
    have ih := lcN_map hd hck xs (acc ++ [f x]) (by simp at hl ⊢; omega) fun y hy => h y (List.mem_cons_of_mem _ hy)
    have e1 := h x (List.mem_cons_self ..) acc
    have e2 : (S.set d (.lst acc))[d]? = some (.lst acc) := List.getElem?_set_self hd
    have hz : acc.length < sizeLine := by simp at hl; omega
    unfold lcN
    rw [if_pos (hck acc)]
    show (match (Res.ok true (S.set d (.lst acc)) : Res Bool) with
      | .ok q S1 => if q = true then match te (ρ.set i (some x)) S1 with
        | .ok y S2 => match S2[d]? with
          | some (.lst acc) => if acc.length < sizeLine then lcN (.name i) tYes' te ck d ρ xs (S2.set d (.lst (acc ++ [y]))) else .stuck
          | _ => .stuck
        | _ => .stuck
        else lcN (.name i) tYes' te ck d ρ xs S1
      | _ => .stuck) = _
    simp only [e1, e2, if_true, hz, List.set_set]
    rw [ih]
    simp
/-- [e for x in i], the store left but for the new list -/
theorem eLc_map {i : Nat} {te : CE PV} {f : PV → PV} {vs : List Nat} {it : CE (List PV × Chk)} {ρ : Sl} {S S1 : Store} {xs : List PV} {ck : Chk} (hi : it ρ S = .ok (xs, ck) S1) (hck : chk ck S1) (hl : xs.length ≤ sizeLine)
    (h : ∀ x ∈ xs, ∀ zs, te ((wipeP ρ vs).set i (some x)) (S1 ++ [.lst zs]) = .ok (f x) (S1 ++ [.lst zs])) : eLc (.name i) it tYes' te vs ρ S = .ok (.obj S1.length) (S1 ++ [.lst (xs.map f)]) := by
  have es : ∀ zs : List PV, (S1 ++ [PO.lst []]).set S1.length (.lst zs) = S1 ++ [.lst zs] := by
    intro zs
    rw [List.set_append_right _ _ (Nat.le_refl _), Nat.sub_self]
    rfl
  have := lcN_map (i := i) (te := te) (f := f) (ck := ck) (d := S1.length) (ρ := wipeP ρ vs) (S := S1 ++ [.lst []]) (by simp) (by
    intro zs
    rw [es]
    exact fun p hp => get_app (hck p hp)) xs [] (by simpa using hl) (by
    intro x hx zs
    rw [es]
    exact h x hx zs)
  unfold eLc
  rw [hi]
  show lcN (.name i) tYes' te ck S1.length (wipeP ρ vs) xs (S1 ++ [.lst []]) = _
  rw [es, es] at this
  rw [this]
  simp
/-! ### the text of a number -/
def tS (i : Int) : Str := Str.ofString (toString i)
@[simp] theorem strV_int (i : Int) (S : Store) : strV [.int i] S = if i.natAbs.log2 < 1920 then .ok (.str (tS i)) S else .stuck := rfl
@[simp] theorem addV_str (a b : Str) (S : Store) : addV (.str a) (.str b) S = if a.length + b.length ≤ sizeLine then .ok (.str (a ++ b)) S else .stuck := rfl
def zL (i : Int) : List Nat := if i < 0 then 45 :: numL i.natAbs else numL i.natAbs
theorem tl_zL (i : Int) : tl (tS i) = zL i := by
  unfold zL
  by_cases h : i < 0
  · rw [if_pos h]
    obtain ⟨n, rfl⟩ := Int.eq_negSucc_of_lt_zero h
    have e : tl (tS (Int.negSucc n)) = 45 :: tl (Str.ofString (toString (((n + 1 : Nat)) : Int))) := by
      unfold tS tl
      rw [PyProof.Rows.signs_ofString, PyProof.Rows.signs_ofString]
      rw [show toString (Int.negSucc n) = "-" ++ Nat.repr (n + 1) from rfl, String.toList_append, List.map_append]
      rfl
    rw [e, tl_num]
    rfl
  · rw [if_neg h]
    obtain ⟨n, rfl⟩ := Int.eq_ofNat_of_zero_le (by omega : 0 ≤ i)
    exact tl_num n
theorem zL_free {s : Nat} (i : Int) (h : s < 48 ∨ 57 < s) (h2 : s ≠ 45) : s ∉ zL i := by
  unfold zL
  split
  · intro hm
    rcases List.mem_cons.mp hm with z | z
    · exact h2 z
    · exact numL_free h z
  · exact numL_free h
theorem zL_inj {i j : Int} (h : zL i = zL j) : i = j := by
  unfold zL at h
  have no : ∀ (m n : Nat), 45 :: numL m ≠ numL n := fun m n e => numL_free (n := n) (s := 45) (.inl (by decide)) (by rw [← e]; exact List.mem_cons_self ..)
  split at h
  · split at h
    · have := numL_inj (List.cons.inj h).2
      omega
    · exact absurd h (no _ _)
  · split at h
    · exact absurd h.symm (no _ _)
    · have := numL_inj h
      omega
theorem tS_inj {i j : Int} (h : tS i = tS j) : i = j := zL_inj (by rw [← tl_zL, ← tl_zL, h])
theorem tS_len {i : Int} {k : Nat} (hk : 0 < k) (h : i.natAbs < 10 ^ k) : (tS i).length ≤ k + 1 := by
  rw [len_tl, tl_zL]
  unfold zL
  have := numL_len hk h
  split
  · simp; omega
  · omega
theorem tS_ok (i : Int) : PySem.PyData.strOk (tS i) = true := by
  unfold PySem.PyData.strOk
  rw [Array.all_eq_true_iff_forall_mem]
  intro c hc
  have h : c ∈ tl (tS i) := Array.mem_toList_iff.mpr hc
  rw [tl_zL] at h
  refine decide_eq_true ?_
  unfold zL at h
  split at h
  · rcases List.mem_cons.mp h with z | z
    · omega
    · have := numL_digits _ c z
      omega
  · have := numL_digits _ c h
    omega
theorem log_small {i : Int} {k : Nat} (h : i.natAbs < 2 ^ k) (k0 : 0 < k) (hk : k ≤ 1920) : i.natAbs.log2 < 1920 := by
  have := log2_small h k0
  omega
/-! ### step by step -/
theorem seq_next {a b : CS} {ρ ρ' : Sl} {S S' : Store} (h : a ρ S = .next ρ' S') : sSeq a b ρ S = b ρ' S' := by rw [sSeq_ap, h]
theorem seq_set {i : Nat} {c : CE PV} {b : CS} {ρ : Sl} {S S1 : Store} {x : PV} (h : c ρ S = .ok x S1) : sSeq (sSet i c) b ρ S = b (ρ.set i (some x)) S1 := seq_next (by rw [sSet_ap, h]; rfl)
theorem seq_drop {c : CE PV} {b : CS} {ρ : Sl} {S S1 : Store} {x : PV} (h : c ρ S = .ok x S1) : sSeq (sDrop c) b ρ S = b ρ S1 := seq_next (by rw [sDrop_ap, h]; rfl)
theorem seq_if {t : CE Bool} {a c b : CS} {ρ : Sl} {S S1 : Store} {k : Bool} (h : t ρ S = .ok k S1) : sSeq (sIf t a c) b ρ S = (match (if k = true then a ρ S1 else c ρ S1) with
  | .next ρ' S' => b ρ' S'
  | r => r) := by rw [sSeq_ap, sIf_ap, h]; rfl
theorem seq_no {t : CE Bool} {a b : CS} {ρ : Sl} {S S1 : Store} (h : t ρ S = .ok false S1) : sSeq (sIf t a sNext) b ρ S = b ρ S1 := by rw [seq_if h]; rfl
theorem seq_yes {t : CE Bool} {a c b : CS} {ρ ρ' : Sl} {S S1 S' : Store} (h : t ρ S = .ok true S1) (h2 : a ρ S1 = .next ρ' S') : sSeq (sIf t a c) b ρ S = b ρ' S' := by rw [seq_if h, if_pos rfl, h2]
theorem seq_for {t : TT'} {i : CE (List PV × Chk)} {b d : CS} {ρ ρ' : Sl} {S S1 S' : Store} {all : List PV} {ck : Chk} (h : i ρ S = .ok (all, ck) S1) (h2 : forN t b ck all ρ S1 = .next ρ' S') : sSeq (sFor t i b) d ρ S = d ρ' S' := seq_next (by rw [sFor_ap, h]; exact h2)
theorem ret_eq {c : CE PV} {ρ : Sl} {S S1 : Store} {x : PV} (h : c ρ S = .ok x S1) : sRet c ρ S = .ret x S1 := by rw [sRet_ap, h]; rfl
/-- r goes on, with P; r gives True -/
def Nx (P : Sl → Store → Prop) (r : SR) : Prop := ∃ ρ' S', r = .next ρ' S' ∧ P ρ' S'
def Rt (r : SR) : Prop := ∃ S, r = .ret (.bl true) S
def Rv (x : PV) (P : Store → Prop) (r : SR) : Prop := ∃ S, r = .ret x S ∧ P S
theorem Rt.out {n : Nat} {b : CS} {xs : List PV} {S : Store} (h : Rt (b (startP n xs) S)) : ∃ S', runD n b xs S = .ok (.bl true) S' := by
  obtain ⟨S', e⟩ := h
  exact ⟨S', by rw [runD_ap, e]; rfl⟩
theorem st_next {G : SR → Prop} {a b : CS} {ρ ρ' : Sl} {S S' : Store} (h : a ρ S = .next ρ' S') (k : G (b ρ' S')) : G (sSeq a b ρ S) := by rw [seq_next h]; exact k
theorem st_set {G : SR → Prop} {i : Nat} {c : CE PV} {b : CS} {ρ : Sl} {S : Store} (x : PV) (S1 : Store) (h : c ρ S = .ok x S1) (k : G (b (ρ.set i (some x)) S1)) : G (sSeq (sSet i c) b ρ S) := by rw [seq_set h]; exact k
theorem st_drop {G : SR → Prop} {c : CE PV} {b : CS} {ρ : Sl} {S : Store} (x : PV) (S1 : Store) (h : c ρ S = .ok x S1) (k : G (b ρ S1)) : G (sSeq (sDrop c) b ρ S) := by rw [seq_drop h]; exact k
theorem st_no {G : SR → Prop} {t : CE Bool} {a b : CS} {ρ : Sl} {S : Store} (S1 : Store) (h : t ρ S = .ok false S1) (k : G (b ρ S1)) : G (sSeq (sIf t a sNext) b ρ S) := by rw [seq_no h]; exact k
theorem st_yes {G : SR → Prop} {t : CE Bool} {a c b : CS} {ρ : Sl} {S : Store} (S1 : Store) (h : t ρ S = .ok true S1) (k : G (sSeq a b ρ S1)) : G (sSeq (sIf t a c) b ρ S) := by rw [seq_if h, if_pos rfl]; exact k
theorem st_else {G : SR → Prop} {t : CE Bool} {a c b : CS} {ρ : Sl} {S : Store} (S1 : Store) (h : t ρ S = .ok false S1) (k : G (sSeq c b ρ S1)) : G (sSeq (sIf t a c) b ρ S) := by rw [seq_if h, if_neg Bool.false_ne_true]; exact k
theorem st_nx {G : SR → Prop} {P : Sl → Store → Prop} {a b : CS} {ρ : Sl} {S : Store} (h : Nx P (a ρ S)) (k : ∀ ρ' S', P ρ' S' → G (b ρ' S')) : G (sSeq a b ρ S) := by
  obtain ⟨ρ', S', e, p⟩ := h
  rw [seq_next e]
  exact k ρ' S' p
theorem st_assoc {G : SR → Prop} {a b c : CS} {ρ : Sl} {S : Store} (h : G (sSeq a (sSeq b c) ρ S)) : G (sSeq (sSeq a b) c ρ S) := by
  have e : sSeq (sSeq a b) c ρ S = sSeq a (sSeq b c) ρ S := by
    rw [sSeq_ap, sSeq_ap, sSeq_ap]
    cases a ρ S <;> rfl
  rw [e]
  exact h
theorem st_ret {x : PV} {P : Store → Prop} {c : CE PV} {ρ : Sl} {S : Store} (S1 : Store) (h : c ρ S = .ok x S1) (p : P S1) : Rv x P (sRet c ρ S) := ⟨S1, ret_eq h, p⟩
theorem st_true {c : CE PV} {ρ : Sl} {S : Store} (S1 : Store) (h : c ρ S = .ok (.bl true) S1) : Rt (sRet c ρ S) := ⟨S1, ret_eq h⟩
theorem nx_setIx {P : Sl → Store → Prop} {co ci c : CE PV} {ρ : Sl} {S S1 S2 S3 S4 : Store} {x o k : PV} (h1 : c ρ S = .ok x S1) (h2 : co ρ S1 = .ok o S2) (h3 : ci ρ S2 = .ok k S3) (h4 : setV o k x S3 = some S4) (p : P ρ S4) : Nx P (sSetIx co ci c ρ S) := by
  refine ⟨ρ, S4, ?_, p⟩
  rw [sSetIx_ap, h1]
  show sb (co ρ S1) ρ _ = _
  rw [h2]
  show sb (ci ρ S2) ρ _ = _
  rw [h3]
  show (match setV o k x S3 with | some S4 => SR.next ρ S4 | none => .stuck) = _
  rw [h4]
theorem nx_set {P : Sl → Store → Prop} {i : Nat} {c : CE PV} {ρ : Sl} {S : Store} (x : PV) (S1 : Store) (h : c ρ S = .ok x S1) (p : P (ρ.set i (some x)) S1) : Nx P (sSet i c ρ S) := ⟨_, S1, by rw [sSet_ap, h]; rfl, p⟩
theorem nx_drop {P : Sl → Store → Prop} {c : CE PV} {ρ : Sl} {S : Store} (x : PV) (S1 : Store) (h : c ρ S = .ok x S1) (p : P ρ S1) : Nx P (sDrop c ρ S) := ⟨_, S1, by rw [sDrop_ap, h]; rfl, p⟩
/-- for, by an invariant -/
theorem st_for {G : SR → Prop} {t : TT'} {i : CE (List PV × Chk)} {b d : CS} {ρ : Sl} {S S1 : Store} {all : List PV} {ck : Chk} (P : Nat → Sl → Store → Prop) (h : i ρ S = .ok (all, ck) S1) (h0 : P 0 ρ S1) (hc : ∀ i ρ S, P i ρ S → chk ck S)
    (hs : ∀ (i : Nat) (x : PV) (ρ : Sl) (S : Store), all[i]? = some x → P i ρ S → ∃ ρ1, setT t x ρ = some ρ1 ∧ Nx (P (i + 1)) (b ρ1 S)) (k : ∀ ρ' S', P all.length ρ' S' → G (d ρ' S')) : G (sSeq (sFor t i b) d ρ S) := by
  obtain ⟨ρ', S', e, p⟩ := for_inv P h0 hc fun i x ρ S hx hp => by
    obtain ⟨ρ1, e1, ρ', S', e2, p⟩ := hs i x ρ S hx hp
    exact ⟨ρ1, e1, ρ', S', .inl e2, p⟩
  rw [seq_for h e]
  exact k ρ' S' p
@[simp] theorem rngL_len (lo hi : Int) : (rngL lo hi).length = (hi - lo).toNat := by unfold rngL; simp
theorem rngL_get {lo hi : Int} {i : Nat} {x : PV} (h : (rngL lo hi)[i]? = some x) : x = .int (lo + (i : Int)) ∧ i < (hi - lo).toNat := by
  unfold rngL at h
  rw [List.getElem?_map] at h
  cases e : (List.range (hi - lo).toNat)[i]? with
  | none => rw [e] at h; cases h
  | some j =>
    rw [e] at h
    obtain ⟨h1, h2⟩ := List.getElem?_eq_some_iff.mp e
    rw [List.getElem_range] at h2
    subst h2
    refine ⟨(Option.some.inj h).symm, by simpa using h1⟩
@[simp] theorem iRange1_ap (c : CE PV) (ρ : Sl) (S : Store) : iRange1 c ρ S = (c ρ S).bind fun x S1 => match x with
  | .int j => if -(2 ^ 62) ≤ j ∧ j < 2 ^ 62 then .ok (rngL 0 j, []) S1 else .stuck
  | _ => .stuck := rfl
@[simp] theorem iRange2_ap (ca cb : CE PV) (ρ : Sl) (S : Store) : iRange2 ca cb ρ S = (ca ρ S).bind fun x S1 => (cb ρ S1).bind fun y S2 => match x, y with
  | .int i, .int j => if (-(2 ^ 62) ≤ i ∧ i < 2 ^ 62) ∧ -(2 ^ 62) ≤ j ∧ j < 2 ^ 62 then .ok (rngL i j, []) S2 else .stuck
  | _, _ => .stuck := rfl
@[simp] theorem iAny_ap (c : CE PV) (ρ : Sl) (S : Store) : iAny c ρ S = (c ρ S).bind fun x S1 => itemsV x S1 := rfl
theorem mod2 (c : Int) : c.fmod 2 = 0 ∨ c.fmod 2 = 1 := by
  have h1 := Int.fmod_nonneg_of_pos c (b := 2) (by omega)
  have h2 := Int.fmod_lt_of_pos c (b := 2) (by omega)
  omega
theorem mod3 (c : Int) : c.fmod 3 = 0 ∨ c.fmod 3 = 1 ∨ c.fmod 3 = 2 := by
  have h1 := Int.fmod_nonneg_of_pos c (b := 3) (by omega)
  have h2 := Int.fmod_lt_of_pos c (b := 3) (by omega)
  omega
theorem at_mod {cs : List Int} (h : cs ≠ []) (z : Int) : ∃ v ∈ cs, atI (cs.map PV.int) (z.fmod (cs.length : Int)) = some (.int v) := by
  have hl : 0 < cs.length := List.length_pos_iff.mpr h
  have h1 := Int.fmod_nonneg_of_pos z (b := (cs.length : Int)) (by omega)
  have h2 := Int.fmod_lt_of_pos z (b := (cs.length : Int)) (by omega)
  obtain ⟨n, hn⟩ := Int.eq_ofNat_of_zero_le h1
  rw [hn] at h2 ⊢
  have hn' : n < cs.length := by omega
  refine ⟨cs[n], List.getElem_mem hn', atI_nat ?_⟩
  rw [List.getElem?_map, List.getElem?_eq_getElem hn']
  rfl
@[simp] theorem iEnumP_ap (c : CE PV) (ρ : Sl) (S : Store) : iEnumP c ρ S = (c ρ S).bind fun x S1 => match seqC x S1 with
  | some (.l, xs, ck) => .ok (enumP xs, ck) S1
  | _ => .stuck := rfl
open Classical in
theorem iZipP_eq {ca cb : CE PV} {ρ : Sl} {S S1 S2 : Store} {x y : PV} {d e : Kd} {xs ys : List PV} {ck ck2 : Chk} (h1 : ca ρ S = .ok x S1) (h2 : cb ρ S1 = .ok y S2) (hx : seqC x S2 = some (d, xs, ck)) (hy : seqC y S2 = some (e, ys, ck2)) (hc : chk (ck ++ ck2) S2) :
    iZipP ca cb ρ S = .ok (zipP xs ys, ck ++ ck2) S2 := by
  unfold iZipP
  rw [h1]
  show (cb ρ S1).bind _ = _
  rw [h2]
  show (match seqC x S2, seqC y S2 with
    | some (_, xs, ck), some (_, ys, ck2) => if chk (ck ++ ck2) S2 then Res.ok (zipP xs ys, ck ++ ck2) S2 else .stuck
    | _, _ => .stuck) = _
  rw [hx, hy]
  exact if_pos hc
theorem seqC_tup (xs : List PV) (S : Store) : seqC (.tup xs) S = some (.t, xs, []) := rfl
theorem seqC_rol (xs : List PV) (S : Store) : seqC (.rol xs) S = some (.l, xs, []) := rfl
theorem seqC_obj {i : Nat} {xs : List PV} {S : Store} (h : S[i]? = some (.lst xs)) : seqC (.obj i) S = some (.l, xs, [(i, .lst xs)]) := by
  unfold seqC
  simp only [h]
@[simp] theorem bnd_int (n : Nat) (i : Int) : bnd n (.int i) = true := rfl
@[simp] theorem bnd_bl (n : Nat) (i : Bool) : bnd n (.bl i) = true := rfl
@[simp] theorem bnd_str (n : Nat) (i : Str) : bnd n (.str i) = true := rfl
@[simp] theorem bnd_non (n : Nat) : bnd n .non = true := rfl
@[simp] theorem bnd_tup (n : Nat) (xs : List PV) : bnd n (.tup xs) = bnds n xs := rfl
@[simp] theorem bnds_nil (n : Nat) : bnds n [] = true := rfl
@[simp] theorem bnds_cons (n : Nat) (x : PV) (xs : List PV) : bnds n (x :: xs) = (bnd n x && bnds n xs) := rfl
@[simp] theorem bnds_ints (n : Nat) (ns : List Int) : bnds n (ns.map .int) = true := bnds_all.mpr fun x hx => by
  obtain ⟨i, _, rfl⟩ := List.mem_map.mp hx
  rfl
theorem eGc_of {c : CE PV} {ρ : Sl} {S J : Store} {x : PV} (h : c ρ S = .ok x (S ++ J)) (hb : bnd S.length x = true) : eGc c ρ S = .ok x S := by
  rw [eGc_ap, h]
  exact gc_app hb
theorem eGc_new {c : CE PV} {ρ : Sl} {S J : Store} {i : Nat} {o : PO} (h : c ρ S = .ok (.obj i) (S ++ J)) (hi : S.length ≤ i) (e : (S ++ J)[i]? = some o) (ho : bndO S.length o = true) : eGc c ρ S = .ok (.obj S.length) (S ++ [o]) := by
  rw [eGc_ap, h]
  exact gc_new hi e ho
theorem datsV_eq (k : Nat) : ∀ xs ys : List PV, xs.all (okV k) = true → ys.all (okV k) = true → PyData.eqvAll (datsV xs) (datsV ys) = decide (xs = ys)
  | [], ys, _, _ => by cases ys <;> simp [datsV, PyData.eqvAll]
  | x :: xs, ys, h1, h2 => by
    cases ys with
    | nil => simp [datsV, PyData.eqvAll]
    | cons y ys =>
      have h1' := Bool.and_eq_true_iff.mp h1
      have h2' := Bool.and_eq_true_iff.mp h2
      simp only [datsV, PyData.eqvAll]
      rw [dat_eqv k x y h1'.1 h2'.1, datsV_eq k xs ys h1'.2 h2'.2]
      by_cases q1 : x = y
      · by_cases q2 : xs = ys
        · simp [q1, q2]
        · simp [q1, q2]
      · simp [q1]
theorem toD_lst {k i : Nat} {xs : List PV} {S : Store} (e : S[i]? = some (.lst xs)) (h : xs.all (okV k) = true) (hk : k ≤ 60) : toD S 66 (.obj i) = some (.list (datsV xs)) ∧ SeqAt.shaped (.list (datsV xs)) = true := by
  have h1 : okV (k + 1) (.tup xs) = true := h
  have h2 := toD_dat S (k + 1) (.tup xs) h1 66 (by omega)
  obtain ⟨s1, s2⟩ := dat_shape (k + 1) (.tup xs) h1
  have s1' : PyData.canLayAll0 (datsV xs) = true := s1
  have s2' : PyData.depth (.tuple (datsV xs)) ≤ k + 1 := s2
  simp only [PyData.depth] at s2'
  refine ⟨?_, Bool.and_eq_true_iff.mpr ⟨s1', decide_eq_true ?_⟩⟩
  · show (match S[i]? with | some (.lst xs) => (dList (toD S 65) xs).map PyData.list | _ => none) = _
    have h2' : (dList (toD S 65) xs).map PyData.tuple = some (.tuple (datsV xs)) := h2
    rw [e]
    cases q : dList (toD S 65) xs with
    | none => rw [q] at h2'; cases h2'
    | some ds =>
      rw [q] at h2'
      have e3 : ds = datsV xs := PyData.tuple.inj (Option.some.inj h2')
      subst e3
      show Option.map PyData.list (dList (toD S 65) xs) = _
      rw [q]
      rfl
  · simp only [PyData.depth]
    omega
theorem eqG_lst {k : Nat} (g : Bool → Bool) {i j : Nat} {xs ys : List PV} {S : Store} (hk : k ≤ 60) (ei : S[i]? = some (.lst xs)) (ej : S[j]? = some (.lst ys)) (hx : xs.all (okV k) = true) (hy : ys.all (okV k) = true) :
    eqG g (.obj i) (.obj j) S = .ok (.bl (g (decide (xs = ys)))) S := by
  obtain ⟨a1, a2⟩ := toD_lst ei hx hk
  obtain ⟨b1, b2⟩ := toD_lst ej hy hk
  show eqD g (.obj i) (.obj j) S = _
  unfold eqD
  rw [a1, b1]
  simp only [a2, b2, and_self, if_true]
  show Res.ok (PV.bl (g (PyData.eqvAll (datsV xs) (datsV ys)))) S = _
  rw [datsV_eq k xs ys hx hy]
theorem okV_ints (ns : List Int) : (ns.map PV.int).all (okV 0) = true := by
  rw [List.all_eq_true]
  intro x hx
  obtain ⟨i, _, rfl⟩ := List.mem_map.mp hx
  rfl
theorem okV_tints (ns : List Int) : okV 1 (.tup (ns.map PV.int)) = true := okV_ints ns
/-- a comprehension over any target, its element leaves the store -/
theorem lcN_mapT {t : TT'} {te : CE PV} {f : PV → PV} {ck : Chk} {d : Nat} {ρ : Sl} {S : Store} (hd : d < S.length) (hck : ∀ zs, chk ck (S.set d (.lst zs))) :
    ∀ (xs acc : List PV), acc.length + xs.length ≤ sizeLine → (∀ x ∈ xs, ∃ ρ1, setT t x ρ = some ρ1 ∧ ∀ zs, te ρ1 (S.set d (.lst zs)) = .ok (f x) (S.set d (.lst zs))) →
    lcN t tYes' te ck d ρ xs (S.set d (.lst acc)) = .ok (.obj d) (S.set d (.lst (acc ++ xs.map f)))
  | [], acc, _, _ => by
    unfold lcN
    rw [if_pos (hck acc)]
    simp
  | x :: xs, acc, hl, h => by
    have ih := lcN_mapT hd hck xs (acc ++ [f x]) (by simp at hl ⊢; omega) fun y hy => h y (List.mem_cons_of_mem _ hy)
    obtain ⟨ρ1, e0, e1'⟩ := h x (List.mem_cons_self ..)
    have e1 := e1' acc
    have e2 : (S.set d (.lst acc))[d]? = some (.lst acc) := List.getElem?_set_self hd
    have hz : acc.length < sizeLine := by simp at hl; omega
    unfold lcN
    rw [if_pos (hck acc), e0]
    show (match (Res.ok true (S.set d (.lst acc)) : Res Bool) with
      | .ok q S1 => if q = true then match te ρ1 S1 with
        | .ok y S2 => match S2[d]? with
          | some (.lst acc) => if acc.length < sizeLine then lcN t tYes' te ck d ρ xs (S2.set d (.lst (acc ++ [y]))) else .stuck
          | _ => .stuck
        | _ => .stuck
        else lcN t tYes' te ck d ρ xs S1
      | _ => .stuck) = _
    simp only [e1, e2, if_true, hz, List.set_set]
    rw [ih]
    simp
theorem eLc_mapT {t : TT'} {te : CE PV} (f : PV → PV) {vs : List Nat} {it : CE (List PV × Chk)} {ρ : Sl} {S S1 : Store} {xs : List PV} {ck : Chk} (hi : it ρ S = .ok (xs, ck) S1) (hck : chk ck S1) (hl : xs.length ≤ sizeLine)
    (h : ∀ x ∈ xs, ∃ ρ1, setT t x (wipeP ρ vs) = some ρ1 ∧ ∀ zs, te ρ1 (S1 ++ [.lst zs]) = .ok (f x) (S1 ++ [.lst zs])) : eLc t it tYes' te vs ρ S = .ok (.obj S1.length) (S1 ++ [.lst (xs.map f)]) := by
  have es : ∀ zs : List PV, (S1 ++ [PO.lst []]).set S1.length (.lst zs) = S1 ++ [.lst zs] := by
    intro zs
    rw [List.set_append_right _ _ (Nat.le_refl _), Nat.sub_self]
    rfl
  have := lcN_mapT (t := t) (te := te) (f := f) (ck := ck) (d := S1.length) (ρ := wipeP ρ vs) (S := S1 ++ [.lst []]) (by simp) (by
    intro zs
    rw [es]
    exact fun p hp => get_app (hck p hp)) xs [] (by simpa using hl) (by
    intro x hx
    obtain ⟨ρ1, e0, e1⟩ := h x hx
    exact ⟨ρ1, e0, fun zs => by rw [es]; exact e1 zs⟩)
  unfold eLc
  rw [hi]
  show lcN t tYes' te ck S1.length (wipeP ρ vs) xs (S1 ++ [.lst []]) = _
  rw [es, es] at this
  rw [this]
  simp
theorem rngL_nat (n : Nat) : rngL 0 (n : Int) = (List.range n).map fun k : Nat => PV.int (k : Int) := by
  unfold rngL
  simp
theorem iRange1_nat {c : CE PV} {ρ : Sl} {S S1 : Store} {n : Nat} (h : c ρ S = .ok (.int (n : Int)) S1) (hn : n ≤ 1000000) : iRange1 c ρ S = .ok (rngL 0 (n : Int), []) S1 := by
  rw [iRange1_ap, h]
  have q : -(2 ^ 62) ≤ (n : Int) ∧ (n : Int) < 2 ^ 62 := ⟨by omega, by omega⟩
  rw [bind_ap]
  exact if_pos q
/-- [e for k in range(n)], ints -/
theorem eLc_rng {i : Nat} {te c : CE PV} (g : Nat → Int) {vs : List Nat} {ρ : Sl} {S : Store} {n : Nat} (hc : c ρ S = .ok (.int (n : Int)) S) (hl : n ≤ sizeLine) (hn : (n : Int) < 2 ^ 62)
    (h : ∀ k, k < n → ∀ zs, te ((wipeP ρ vs).set i (some (.int (k : Int)))) (S ++ [.lst zs]) = .ok (.int (g k)) (S ++ [.lst zs])) :
    eLc (.name i) (iRange1 c) tYes' te vs ρ S = .ok (.obj S.length) (S ++ [.lst (((List.range n).map g).map .int)]) := by
  have hi : iRange1 c ρ S = .ok (rngL 0 (n : Int), []) S := by
    rw [iRange1_ap, hc]
    have q : -(2 ^ 62) ≤ (n : Int) ∧ (n : Int) < 2 ^ 62 := ⟨by omega, hn⟩
    rw [bind_ap]
    exact if_pos q
  have := eLc_mapT (t := .name i) (te := te) (fun x => match x with | .int j => .int (g j.toNat) | x => x) (vs := vs) (ρ := ρ) hi (chk_nil S) (by simp; exact hl) (by
    intro x hx
    rw [rngL_nat] at hx
    obtain ⟨k, hk, rfl⟩ := List.mem_map.mp hx
    exact ⟨_, rfl, fun zs => by
      have := h k (List.mem_range.mp hk) zs
      simpa using this⟩)
  have e : ((fun x : PV => match x with | .int j => PV.int (g j.toNat) | x => x) ∘ fun k : Nat => PV.int (k : Int)) = (PV.int ∘ g) := by
    funext k
    simp
  rw [this, rngL_nat, List.map_map, List.map_map, e]
theorem cut_tail (xs : List PV) : cutP xs (some 1) none = xs.tail := by
  unfold cutP
  have h : HT.sIx xs.length 0 (some 1) = min 1 xs.length := HT.sIx_nat xs.length 0 1
  rw [h]
  cases xs with
  | nil => rfl
  | cons x xs =>
    show ((x :: xs).drop (min 1 (xs.length + 1))).take ((xs.length + 1) - min 1 (xs.length + 1)) = xs
    have h1 : min 1 (xs.length + 1) = 1 := by omega
    rw [h1]
    simp
theorem eGc_self {c : CE PV} {ρ : Sl} {S : Store} {x : PV} (h : c ρ S = .ok x S) : eGc c ρ S = .ok x S := by
  rw [eGc_ap, h, gc_self]
theorem cut_map (ns : List Int) (lo hi : Option Int) : ∃ cs : List Int, cutP (ns.map PV.int) lo hi = cs.map .int := by
  unfold cutP
  exact ⟨(ns.drop (HT.sIx (ns.map PV.int).length 0 lo)).take _, by rw [List.map_take, List.map_drop]⟩
theorem nat_of {z : Int} (h : 0 ≤ z) : ∃ n : Nat, z = n := Int.eq_ofNat_of_zero_le h
theorem mod_nat (z : Int) {b : Nat} (hb : 0 < b) : ∃ n : Nat, z.fmod (b : Int) = n ∧ n < b := by
  have h1 := Int.fmod_nonneg_of_pos z (b := (b : Int)) (by omega)
  have h2 := Int.fmod_lt_of_pos z (b := (b : Int)) (by omega)
  obtain ⟨n, e⟩ := nat_of h1
  exact ⟨n, e, by omega⟩
theorem tuple_obj {i : Nat} {xs : List PV} {S : Store} (h : S[i]? = some (.lst xs)) : tupleV [.obj i] S = .ok (.tup xs) S := by
  show (match lstOf (.obj i) S with | some ys => Res.ok (PV.tup ys) S | none => .stuck) = _
  unfold lstOf
  simp only [h]
theorem list_obj {i : Nat} {xs : List PV} {S : Store} (h : S[i]? = some (.lst xs)) : listV [.obj i] S = .ok (.obj S.length) (S ++ [.lst xs]) := by
  unfold listV
  simp only [h]
theorem sum_obj {i : Nat} {xs : List Int} {S : Store} (h : S[i]? = some (.lst (xs.map .int))) : sumV [.obj i] S = .ok (.int xs.sum) S := by
  unfold sumV lstOf
  simp only [h, Option.bind_some, intsOf_map]
theorem append_obj {i : Nat} {xs : List PV} {y : PV} {S : Store} (h : S[i]? = some (.lst xs)) (hl : xs.length < sizeLine) : appendV (.obj i) [y] S = .ok .non (S.set i (.lst (xs ++ [y]))) := by
  unfold appendV
  simp only [h, hl, if_true]
theorem isL_obj {i : Nat} {xs : List PV} {S : Store} (h : S[i]? = some (.lst xs)) : isL (.obj i) S = true := by
  unfold isL
  simp only [h]
theorem len_obj {i : Nat} {xs : List PV} {S : Store} (h : S[i]? = some (.lst xs)) : lenV [.obj i] S = .ok (.int xs.length) S := by
  unfold lenV
  simp only [h]
theorem items_obj {i : Nat} {xs : List PV} {S : Store} (h : S[i]? = some (.lst xs)) : itemsV (.obj i) S = .ok (xs, [(i, .lst xs)]) S := by
  unfold itemsV
  simp only [h]
theorem eM_append {i : Nat} {xs : List PV} {y : PV} {co c : CE PV} {ρ : Sl} {S : Store} (ho : co ρ S = .ok (.obj i) S) (h : S[i]? = some (.lst xs)) (hy : c ρ S = .ok y S) (hl : xs.length < sizeLine) :
    eM appendV co (aCons c aNil) ρ S = .ok .non (S.set i (.lst (xs ++ [y]))) := by
  rw [eM_ap, ho, bind_ap, if_pos (isL_obj h), aCons_ap, hy, bind_ap, aNil_ap, bind_ap, bind_ap]
  exact append_obj h hl
theorem nx_no {P : Sl → Store → Prop} {t : CE Bool} {a : CS} {ρ : Sl} {S S1 : Store} (h : t ρ S = .ok false S1) (p : P ρ S1) : Nx P (sIf t a sNext ρ S) := ⟨ρ, S1, by rw [sIf_ap, h]; rfl, p⟩
theorem eBin_of {f : F2} {a b : CE PV} {ρ : Sl} {S S1 S2 : Store} {x y : PV} {r : Res PV} (h1 : a ρ S = .ok x S1) (h2 : b ρ S1 = .ok y S2) (h3 : f x y S2 = r) : eBin f a b ρ S = r := by
  rw [eBin_ap, h1, bind_ap, h2, bind_ap]
  exact h3
theorem forN_nil {t : TT'} {b : CS} {ck : Chk} {ρ : Sl} {S : Store} (h : chk ck S) : forN t b ck [] ρ S = .next ρ S := by
  unfold forN
  rw [if_pos h]
theorem forN_next {t : TT'} {b : CS} {ck : Chk} {x : PV} {xs : List PV} {ρ ρ1 ρ' : Sl} {S S' : Store} (h : chk ck S) (e : setT t x ρ = some ρ1) (e2 : b ρ1 S = .next ρ' S') : forN t b ck (x :: xs) ρ S = forN t b ck xs ρ' S' := by
  rw [forN.eq_def]
  simp only [h, if_true, e, e2]
@[simp] theorem eSlc_ap (c : CE PV) (l h s : CE (Option Int)) (ρ : Sl) (S : Store) : eSlc c l h s ρ S = (c ρ S).bind fun x S1 => (l ρ S1).bind fun lo S2 => (h ρ S2).bind fun hi S3 => (s ρ S3).bind fun st S4 => match lstOf x S4 with
  | some xs => if st ≠ some 0 then .ok (.obj S4.length) (S4 ++ [.lst (pickP xs lo hi st)]) else .stuck
  | none => .stuck := rfl
end TL

set_option Elab.async false
set_option linter.all false
set_option maxRecDepth 100000
set_option maxHeartbeats 1000000
/-! TT3: dicts by their pairs, deep equality, comprehensions with a test. -/
namespace TL
open PySem PySem.Spec PyProof.Rows L2
/-! ### dicts with numbers and texts for keys -/
def KeysK (kvs : List (PV × PV)) : Prop := ∀ p ∈ kvs, (keyOf p.1).isSome = true
theorem KeysK.all {kvs : List (PV × PV)} (h : KeysK kvs) {k : PV} (hk : (keyOf k).isSome = true) : (kvs.all fun kv => (keyOf kv.1).isSome == (keyOf k).isSome) = true := by
  rw [List.all_eq_true]
  intro p hp
  rw [h p hp, hk]
  rfl
theorem dicAt_k {S : Store} {i : Nat} {kvs : List (PV × PV)} {k : PV} (e : S[i]? = some (.dic false kvs)) (h : KeysK kvs) (hk : (keyOf k).isSome = true) : dicAt S i k = some kvs := by
  unfold dicAt
  rw [e]
  simp only
  rw [if_pos]
  refine ⟨?_, h.all hk, fun z => by cases z⟩
  unfold isKey
  rw [hk]
  rfl
theorem getV_dic {S : Store} {i : Nat} {kvs : List (PV × PV)} {k v : PV} (e : S[i]? = some (.dic false kvs)) (h : KeysK kvs) (hk : (keyOf k).isSome = true) (hv : dget kvs k = some v) : getV (.obj i) k S = .ok v S := by
  unfold getV
  simp only [e]
  rw [dicAt_k e h hk]
  simp only [hv]
theorem inG_dic {S : Store} {i : Nat} {kvs : List (PV × PV)} {k : PV} (g : Bool → Bool) (e : S[i]? = some (.dic false kvs)) (h : KeysK kvs) (hk : (keyOf k).isSome = true) : inG g k (.obj i) S = .ok (.bl (g (dget kvs k).isSome)) S := by
  unfold inG
  simp only [e]
  rw [dicAt_k e h hk]
theorem setV_dic {S : Store} {i : Nat} {kvs : List (PV × PV)} {k v : PV} (e : S[i]? = some (.dic false kvs)) (h : KeysK kvs) (hk : (keyOf k).isSome = true) (hl : kvs.length < sizeLine) : setV (.obj i) k v S = some (S.set i (.dic false (dput kvs k v))) := by
  unfold setV
  simp only [e]
  rw [dicAt_k e h hk]
  simp only [hl, if_true]
theorem setV_lst {S : Store} {i : Nat} {xs : List PV} {j : Nat} {v : PV} (e : S[i]? = some (.lst xs)) (hj : j < xs.length) : setV (.obj i) (.int (j : Int)) v S = some (S.set i (.lst (xs.set j v))) := by
  unfold setV
  simp only [e]
  have h : ixN xs.length (j : Int) = some j := by
    unfold ixN
    simp
    omega
  rw [h]
theorem getV_lst {S : Store} {i : Nat} {xs : List PV} {j : Nat} {v : PV} (e : S[i]? = some (.lst xs)) (hj : xs[j]? = some v) : getV (.obj i) (.int (j : Int)) S = .ok v S := by
  unfold getV
  simp only [e]
  rw [atI_nat hj]
theorem getV_tup {S : Store} {xs : List PV} {j : Nat} {v : PV} (hj : xs[j]? = some v) : getV (.tup xs) (.int (j : Int)) S = .ok v S := by
  unfold getV
  simp only
  rw [atI_nat hj]
theorem dput_new {kvs : List (PV × PV)} {k v : PV} (h : ∀ p ∈ kvs, p.1 ≠ k) : dput kvs k v = kvs ++ [(k, v)] := by
  unfold dput
  rw [if_neg]
  rw [List.any_eq_true]
  rintro ⟨p, hp, e⟩
  exact h p hp (of_decide_eq_true e)
theorem dget_mem {kvs : List (PV × PV)} {k v : PV} (nd : (kvs.map (·.1)).Nodup) (h : (k, v) ∈ kvs) : dget kvs k = some v := by
  induction kvs with
  | nil => cases h
  | cons p kvs ih =>
    rw [List.map_cons, List.nodup_cons] at nd
    unfold dget
    rw [List.find?_cons]
    rcases List.mem_cons.mp h with e | e
    · subst e; simp
    · have hne : p.1 ≠ k := fun z => nd.1 (by rw [z]; exact List.mem_map_of_mem e)
      rw [decide_eq_false hne]
      exact ih nd.2 e
/-! ### deep equality -/
/-- none, truths, ints, texts, tuples of these, at most k deep -/
def okW : Nat → PV → Bool
  | _, .non => true
  | _, .bl _ => true
  | _, .int _ => true
  | _, .str x => PySem.PyData.strOk x
  | k + 1, .tup xs => xs.all (okW k)
  | _, _ => false
theorem toD_datW (S : Store) : ∀ (k : Nat) (x : PV), okW k x = true → ∀ l, k ≤ l → toD S l x = some (datV x) ∧ (datV x).canLay0 = true ∧ (datV x).depth ≤ k := by
  intro k
  induction k with
  | zero =>
    intro x h l _
    cases x with
    | non => cases l <;> exact ⟨rfl, rfl, Nat.zero_le _⟩
    | bl i => cases l <;> exact ⟨rfl, rfl, Nat.zero_le _⟩
    | int i => cases l <;> exact ⟨rfl, rfl, Nat.zero_le _⟩
    | str z => cases l <;> exact ⟨rfl, h, Nat.zero_le _⟩
    | _ => cases h
  | succ k ih =>
    intro x h l hl
    cases x with
    | non => cases l <;> exact ⟨rfl, rfl, Nat.zero_le _⟩
    | bl i => cases l <;> exact ⟨rfl, rfl, Nat.zero_le _⟩
    | int i => cases l <;> exact ⟨rfl, rfl, Nat.zero_le _⟩
    | str z => cases l <;> exact ⟨rfl, h, Nat.zero_le _⟩
    | tup xs =>
      cases l with
      | zero => omega
      | succ l =>
        have h' : xs.all (okW k) = true := h
        have all : ∀ ys : List PV, ys.all (okW k) = true → dList (toD S l) ys = some (datsV ys) ∧ PyData.canLayAll0 (datsV ys) = true ∧ PyData.depthAll (datsV ys) ≤ k := by
          intro ys
          induction ys with
          | nil => intro _; exact ⟨rfl, rfl, Nat.zero_le _⟩
          | cons y ys ihy =>
            intro hy
            have hy' := Bool.and_eq_true_iff.mp hy
            obtain ⟨a0, a1, a2⟩ := ih y hy'.1 l (by omega)
            obtain ⟨b0, b1, b2⟩ := ihy hy'.2
            refine ⟨?_, Bool.and_eq_true_iff.mpr ⟨a1, b1⟩, Nat.max_le.mpr ⟨a2, b2⟩⟩
            unfold dList
            rw [a0, b0]
            rfl
        obtain ⟨a0, a1, a2⟩ := all xs h'
        refine ⟨?_, a1, ?_⟩
        · show (dList (toD S l) xs).map PyData.tuple = _
          rw [a0]
          rfl
        · show PyData.depth (.tuple (datsV xs)) ≤ k + 1
          simp only [PyData.depth]
          omega
    | _ => cases h
theorem datB_refl {S : Store} {k : Nat} {x : PV} (h : okW k x = true) (hk : k ≤ 64) : datB S x x = true := by
  obtain ⟨a, b, c⟩ := toD_datW S k x h 66 (by omega)
  unfold datB
  rw [a]
  simp only [Bool.and_eq_true]
  exact ⟨Bool.and_eq_true_iff.mpr ⟨b, decide_eq_true (by omega)⟩, Bool.and_eq_true_iff.mpr ⟨b, decide_eq_true (by omega)⟩, SeqAt.eqv_refl _ b⟩
theorem deepB_dat {S : Store} {n k : Nat} {x : PV} (h : okW k x = true) (hk : k ≤ 64) : deepB S (n + 1) x x = true := by
  show (datB S x x || _) = true
  rw [datB_refl h hk]
  rfl
theorem all2_refl {f : PV → PV → Bool} : ∀ {xs : List PV}, (∀ x ∈ xs, f x x = true) → all2 f xs xs = true
  | [], _ => rfl
  | x :: xs, h => Bool.and_eq_true_iff.mpr ⟨h x (List.mem_cons_self ..), all2_refl fun y hy => h y (List.mem_cons_of_mem _ hy)⟩
theorem deepB_lst {S : Store} {n k i j : Nat} {xs : List PV} (ei : S[i]? = some (.lst xs)) (ej : S[j]? = some (.lst xs)) (h : ∀ x ∈ xs, okW k x = true) (hk : k ≤ 64) : deepB S (n + 2) (.obj i) (.obj j) = true := by
  show (datB S (.obj i) (.obj j) || (match S[i]?, S[j]? with
      | some (.lst xs), some (.lst ys) => all2 (deepB S (n + 1)) xs ys
      | some (.dic false ks), some (.dic false ls) => dicB (deepB S (n + 1)) ks ls
      | _, _ => false)) = true
  rw [ei, ej]
  simp only [Bool.or_eq_true]
  exact .inr (all2_refl fun x hx => deepB_dat (h x hx) hk)
theorem deepB_dic {S : Store} {n k i j : Nat} {kvs : List (PV × PV)} (ei : S[i]? = some (.dic false kvs)) (ej : S[j]? = some (.dic false kvs)) (h0 : kvs ≠ []) (hK : KeysK kvs) (nd : (kvs.map (·.1)).Nodup)
    (h : ∀ p ∈ kvs, okW k p.2 = true) (hk : k ≤ 64) : deepB S (n + 2) (.obj i) (.obj j) = true := by
  show (datB S (.obj i) (.obj j) || (match S[i]?, S[j]? with
      | some (.lst xs), some (.lst ys) => all2 (deepB S (n + 1)) xs ys
      | some (.dic false ks), some (.dic false ls) => dicB (deepB S (n + 1)) ks ls
      | _, _ => false)) = true
  rw [ei, ej]
  simp only [Bool.or_eq_true]
  refine .inr ?_
  unfold dicB
  rw [Bool.and_eq_true, Bool.and_eq_true, List.all_eq_true]
  refine ⟨by cases kvs with | nil => exact (h0 rfl).elim | cons _ _ => rfl, decide_eq_true rfl, fun p hp => ?_⟩
  rw [hK p hp, dget_mem (v := p.2) nd hp]
  exact deepB_dat (h p hp) hk
theorem eqW_lst {S : Store} {i j : Nat} {xs ys : List PV} (g : Bool → Bool) (ei : S[i]? = some (.lst xs)) (ej : S[j]? = some (.lst ys)) (h : all2 (deepB S 4) xs ys = true) : eqW g (.obj i) (.obj j) S = .ok (.bl (g true)) S := by
  unfold eqW
  simp only [ei, ej, h, if_true]
/-! ### [e for x in xs if t] -/
theorem lcN_flt {i : Nat} {te : CE PV} {tt : CE Bool} {f : PV → PV} {q : PV → Bool} {ck : Chk} {d : Nat} {ρ : Sl} {S : Store} (hd : d < S.length) (hck : ∀ zs, chk ck (S.set d (.lst zs))) :
    ∀ (xs acc : List PV), acc.length + xs.length ≤ sizeLine → (∀ x ∈ xs, ∀ zs, tt (ρ.set i (some x)) (S.set d (.lst zs)) = .ok (q x) (S.set d (.lst zs)) ∧ (q x = true → te (ρ.set i (some x)) (S.set d (.lst zs)) = .ok (f x) (S.set d (.lst zs)))) →
    lcN (.name i) tt te ck d ρ xs (S.set d (.lst acc)) = .ok (.obj d) (S.set d (.lst (acc ++ (xs.filter q).map f)))
  | [], acc, _, _ => by
    unfold lcN
    rw [if_pos (hck acc)]
    simp
  | x :: xs, acc, hl, h => by
    obtain ⟨e0, e1⟩ := h x (List.mem_cons_self ..) acc
    have e2 : (S.set d (.lst acc))[d]? = some (.lst acc) := List.getElem?_set_self hd
    have hz : acc.length < sizeLine := by simp at hl; omega
    cases hq : q x with
    | false =>
      have ih := lcN_flt hd hck xs acc (by simp at hl ⊢; omega) fun y hy => h y (List.mem_cons_of_mem _ hy)
      unfold lcN
      rw [if_pos (hck acc)]
      show (match tt (ρ.set i (some x)) (S.set d (.lst acc)) with
        | .ok q S1 => if q = true then match te (ρ.set i (some x)) S1 with
          | .ok y S2 => match S2[d]? with
            | some (.lst acc) => if acc.length < sizeLine then lcN (.name i) tt te ck d ρ xs (S2.set d (.lst (acc ++ [y]))) else .stuck
            | _ => .stuck
          | _ => .stuck
          else lcN (.name i) tt te ck d ρ xs S1
        | _ => .stuck) = _
      rw [e0, hq]
      simp only [Bool.false_eq_true, if_false]
      rw [ih, List.filter_cons, hq]
      rfl
    | true =>
      have ih := lcN_flt hd hck xs (acc ++ [f x]) (by simp at hl ⊢; omega) fun y hy => h y (List.mem_cons_of_mem _ hy)
      unfold lcN
      rw [if_pos (hck acc)]
      show (match tt (ρ.set i (some x)) (S.set d (.lst acc)) with
        | .ok q S1 => if q = true then match te (ρ.set i (some x)) S1 with
          | .ok y S2 => match S2[d]? with
            | some (.lst acc) => if acc.length < sizeLine then lcN (.name i) tt te ck d ρ xs (S2.set d (.lst (acc ++ [y]))) else .stuck
            | _ => .stuck
          | _ => .stuck
          else lcN (.name i) tt te ck d ρ xs S1
        | _ => .stuck) = _
      rw [e0, hq]
      simp only [e1 hq, e2, if_true, hz, List.set_set]
      rw [ih, List.filter_cons, hq]
      simp
theorem set_top (S : Store) (zs : List PV) : (S ++ [PO.lst []]).set S.length (.lst zs) = S ++ [.lst zs] := by
  rw [List.set_append_right _ _ (Nat.le_refl _), Nat.sub_self]
  rfl
theorem eLc_flt {i : Nat} {te : CE PV} {tt : CE Bool} {f : PV → PV} {q : PV → Bool} {vs : List Nat} {it : CE (List PV × Chk)} {ρ : Sl} {S S1 : Store} {xs : List PV} {ck : Chk} (hi : it ρ S = .ok (xs, ck) S1) (hck : chk ck S1) (hl : xs.length ≤ sizeLine)
    (h : ∀ x ∈ xs, ∀ zs, tt ((wipeP ρ vs).set i (some x)) (S1 ++ [.lst zs]) = .ok (q x) (S1 ++ [.lst zs]) ∧ (q x = true → te ((wipeP ρ vs).set i (some x)) (S1 ++ [.lst zs]) = .ok (f x) (S1 ++ [.lst zs]))) :
    eLc (.name i) it tt te vs ρ S = .ok (.obj S1.length) (S1 ++ [.lst ((xs.filter q).map f)]) := by
  have := lcN_flt (i := i) (te := te) (tt := tt) (f := f) (q := q) (ck := ck) (d := S1.length) (ρ := wipeP ρ vs) (S := S1 ++ [.lst []]) (by simp) (by
    intro zs
    rw [set_top]
    exact fun p hp => get_app (hck p hp)) xs [] (by simpa using hl) (by
    intro x hx zs
    rw [set_top]
    exact h x hx zs)
  unfold eLc
  rw [hi]
  show lcN (.name i) tt te ck S1.length (wipeP ρ vs) xs (S1 ++ [.lst []]) = _
  rw [set_top, set_top] at this
  rw [this]
  simp
/-- tuple([..]) of what has just been made -/
theorem tuple_of {c : CE PV} {ρ : Sl} {S : Store} {xs : List PV} (h : c ρ S = .ok (.obj S.length) (S ++ [.lst xs])) (hb : bnds S.length xs = true) : eGc (eB tupleV (aCons c aNil)) ρ S = .ok (.tup xs) S := by
  refine eGc_of (J := [.lst xs]) ?_ hb
  rw [eB_ap, aCons_ap, h, bind_ap, aNil_ap, bind_ap, bind_ap, tuple_obj get_last]
theorem eGc2 {c : CE PV} {ρ : Sl} {S : Store} {x : PV} (h : eGc c ρ S = .ok x S) : eGc (eGc c) ρ S = .ok x S := eGc_self h
@[simp] theorem sAugIx_ap (co ci : CE PV) (f : F2) (c : CE PV) (ρ : Sl) (S : Store) : sAugIx co ci f c ρ S = sb (co ρ S) ρ fun o S1 => sb (ci ρ S1) ρ fun k S2 => sb (getV o k S2) ρ fun x S3 => sb (c ρ S3) ρ fun y S4 => sb (f x y S4) ρ fun z S5 => match setV o k z S5 with
  | some S6 => .next ρ S6
  | none => .stuck := rfl
theorem nx_augIx {P : Sl → Store → Prop} {co ci c : CE PV} {f : F2} {ρ : Sl} {S S' : Store} {o k x y z : PV} (h1 : co ρ S = .ok o S) (h2 : ci ρ S = .ok k S) (h3 : getV o k S = .ok x S) (h4 : c ρ S = .ok y S) (h5 : f x y S = .ok z S) (h6 : setV o k z S = some S') (p : P ρ S') : Nx P (sAugIx co ci f c ρ S) :=
  ⟨ρ, S', by simp only [sAugIx_ap, h1, h2, h3, h4, h5, h6, sb_ap], p⟩
@[simp] theorem lenA_rol (xs : List PV) (S : Store) : lenA [.rol xs] S = .ok (.int xs.length) S := rfl
@[simp] theorem lenA_tup (xs : List PV) (S : Store) : lenA [.tup xs] S = .ok (.int xs.length) S := rfl
@[simp] theorem lenA_kup (xs : List PV) (S : Store) : lenA [.kup xs] S = .ok (.int xs.length) S := rfl
theorem lenA_lst {i : Nat} {xs : List PV} {S : Store} (e : S[i]? = some (.lst xs)) : lenA [.obj i] S = .ok (.int xs.length) S := by
  unfold lenA lenV
  simp only [e]
theorem lenA_dic {i : Nat} {kvs : List (PV × PV)} {S : Store} (e : S[i]? = some (.dic false kvs)) (h0 : kvs ≠ []) (hK : KeysK kvs) : lenA [.obj i] S = .ok (.int kvs.length) S := by
  unfold lenA
  simp only [e]
  cases kvs with
  | nil => exact (h0 rfl).elim
  | cons p kvs =>
    simp only [hK p (List.mem_cons_self ..), if_true, List.length_cons]
theorem dict_obj {i : Nat} {kvs : List (PV × PV)} {S : Store} (e : S[i]? = some (.dic false kvs)) (h0 : kvs ≠ []) (hK : KeysK kvs) : dictV' [.obj i] S = .ok (.obj S.length) (S ++ [.dic false kvs]) := by
  unfold dictV'
  simp only [e]
  cases kvs with
  | nil => exact (h0 rfl).elim
  | cons p kvs => simp only [hK p (List.mem_cons_self ..), if_true]
end TL
namespace TL
open PySem PySem.Spec PyProof.Rows L2
theorem iRange2_nat {ca cb : CE PV} {ρ : Sl} {S : Store} {a b : Nat} (h1 : ca ρ S = .ok (.int (a : Int)) S) (h2 : cb ρ S = .ok (.int (b : Int)) S) (ha : a ≤ 1000000) (hb : b ≤ 1000000) : iRange2 ca cb ρ S = .ok (rngL (a : Int) (b : Int), []) S := by
  rw [iRange2_ap, h1, bind_ap, h2, bind_ap]
  exact if_pos ⟨⟨by omega, by omega⟩, by omega, by omega⟩
theorem deepB_obj {S : Store} {n i j : Nat} {ks ls : List (PV × PV)} (ei : S[i]? = some (.dic false ks)) (ej : S[j]? = some (.dic false ls)) (h : dicB (deepB S n) ks ls = true) : deepB S (n + 1) (.obj i) (.obj j) = true := by
  show (datB S (.obj i) (.obj j) || (match S[i]?, S[j]? with
      | some (.lst xs), some (.lst ys) => all2 (deepB S n) xs ys
      | some (.dic false ks), some (.dic false ls) => dicB (deepB S n) ks ls
      | _, _ => false)) = true
  rw [ei, ej]
  simp only [Bool.or_eq_true]
  exact .inr h
end TL

set_option Elab.async false
set_option linter.all false
set_option maxRecDepth 100000
set_option maxHeartbeats 1000000
set_option exponentiation.threshold 40000
namespace K36
open PySem PySem.Spec PyProof.Rows L2 TL
/-! ### the greatest divisor -/
theorem fmod_gcd (h t : Nat) (ht : 0 < t) : ∃ r : Nat, Int.fmod (h : Int) (t : Int) = (r : Int) ∧ r < t ∧ Nat.gcd h t = Nat.gcd t r := by
  refine ⟨h % t, ?_, Nat.mod_lt _ ht, ?_⟩
  · rw [Int.fmod_eq_emod_of_nonneg _ (by omega)]
    rfl
  · rw [Nat.gcd_comm h t, Nat.gcd_rec t h, Nat.gcd_comm]
/-- two slots of the slots are walked down to a divisor -/
theorem gcd_loop (i j : Nat) (ρ : Sl) (S : Store) (hij : i ≠ j) (hi : i < ρ.length) (hj : j < ρ.length) : ∀ (t h : Nat), ρ[i]? = some (some (.int (h : Int))) → ρ[j]? = some (some (.int (t : Int))) →
    sWhile (tBl (eBin gtV (eVar j) (eK (.int 0)))) (sPar i j (eVar j) (eBin modV (eVar i) (eVar j))) ρ S = .next ((ρ.set i (some (.int (Nat.gcd h t : Nat)))).set j (some (.int 0))) S := by
  intro t
  induction t using Nat.strongRecOn generalizing ρ with
  | ind t ih =>
    intro h e1 e2
    rw [sWhile_unfold]
    by_cases h0 : t = 0
    · subst h0
      have es : (ρ.set i (some (.int ((Nat.gcd h 0 : Nat) : Int)))).set j (some (.int 0)) = ρ := by
        apply List.ext_getElem?
        intro k
        by_cases hk : j = k
        · subst hk
          rw [List.getElem?_set_self (by rw [List.length_set]; exact hj), e2]; rfl
        · rw [List.getElem?_set_ne hk]
          by_cases hk2 : i = k
          · subst hk2
            rw [List.getElem?_set_self hi, e1, Nat.gcd_zero_right]
          · rw [List.getElem?_set_ne hk2]
      rw [es]
      simp [e2]
    · have hp : 0 < t := Nat.pos_of_ne_zero h0
      obtain ⟨r, er, hr, eg⟩ := fmod_gcd h t hp
      have hgt : (0 : Int) < (t : Int) := by omega
      have hne : (t : Int) ≠ 0 := by omega
      have e3 : (ρ.set i (some (PV.int (t : Int)))).set j (some (.int (r : Int))) = (ρ.set i (some (PV.int (t : Int)))).set j (some (.int (r : Int))) := rfl
      have step := ih r hr ((ρ.set i (some (.int (t : Int)))).set j (some (.int (r : Int)))) (by simp; exact hi) (by simp; exact hj) t
        (by rw [List.getElem?_set_ne (Ne.symm hij), List.getElem?_set_self hi]) (by rw [List.getElem?_set_self (by rw [List.length_set]; exact hj)])
      simp only [tBl_ap, eBin_ap, eVar_ap, e1, e2, eK_ap, bind_ap, f2I_ap, sb_ap, hgt, decide_true, if_true, sPar_ap, f2C_ap, hne, ne_eq, not_false_eq_true, er]
      rw [step, eg]
      congr 1
      rw [List.set_comm _ _ hij, List.set_set, List.set_comm _ _ (Ne.symm hij), List.set_set]
theorem int_gcd_abs (a b : Int) : Int.gcd a b = Nat.gcd a.natAbs b.natAbs := rfl
theorem abs_nat (a : Int) : (if a < 0 then -a else a) = (a.natAbs : Int) := by split <;> omega

/-! ### ratios -/
theorem m_is_whole_eq (x : PV) (S : Store) {t : String} (h : tyP x S = some t) : m_is_whole [x] S = .ok (.bl (decide (t = "int"))) S := by
  have ht := tyP_mem h
  simp only [tyNames, List.mem_cons, List.not_mem_nil, or_false] at ht
  rcases ht with rfl | rfl | rfl | rfl | rfl | rfl | rfl <;> simp [m_is_whole, b_is_whole, isinstV, h, isSub]

theorem m_divisor_eq (a b : Int) (S : Store) : m_divisor [.int a, .int b] S = .ok (.int (Int.gcd a b)) S := by
  have e : sWhile (tBl (eBin gtV (eVar 3) (eK (.int 0)))) (sPar 2 3 (eVar 3) (eBin modV (eVar 2) (eVar 3))) [some (.int a), some (.int b), some (.int (a.natAbs : Int)), some (.int (b.natAbs : Int))] S = _ :=
    gcd_loop 2 3 _ S (by decide) (by simp) (by simp) b.natAbs a.natAbs rfl rfl
  simp only [m_divisor, b_divisor, runD_ap, startP_nil, List.map_cons, List.map_nil, List.length_cons, List.length_nil]
  simp [absV', abs_nat, e, int_gcd_abs]
/-- top and bottom in lowest terms, the bottom from 1 on -/
def rat (a b : Int) : Int × Int := let g : Int := if b < 0 then 0 - (Int.gcd a b : Int) else (Int.gcd a b : Int); (a.fdiv g, b.fdiv g)
def pr (p : Int × Int) : PV := .tup [.int p.1, .int p.2]
theorem fdiv_exact {a g : Int} (hg : g ≠ 0) (h : g ∣ a) : a.fdiv g * g = a := by
  obtain ⟨c, rfl⟩ := h
  rw [Int.mul_comm g c, Int.mul_fdiv_cancel c hg]
/-- what rat is: g times it are the two numbers -/
theorem rat_spec (a b : Int) (hb : b ≠ 0) : ∃ g : Int, g ≠ 0 ∧ (rat a b).1 * g = a ∧ (rat a b).2 * g = b ∧ 0 < (rat a b).2 ∧ Int.gcd (rat a b).1 (rat a b).2 = 1 ∧ g.natAbs = Int.gcd a b := by
  have hg : 0 < Int.gcd a b := Nat.pos_of_ne_zero fun z => hb (Int.gcd_eq_zero_iff.mp z).2
  have d1 : (Int.gcd a b : Int) ∣ a := Int.gcd_dvd_left ..
  have d2 : (Int.gcd a b : Int) ∣ b := Int.gcd_dvd_right ..
  have main : ∀ g : Int, g ≠ 0 → g ∣ a → g ∣ b → g.natAbs = Int.gcd a b → (0 < b → 0 < g) → (b < 0 → g < 0) → ∃ g' : Int, g' ≠ 0 ∧ a.fdiv g * g' = a ∧ b.fdiv g * g' = b ∧ 0 < b.fdiv g ∧ Int.gcd (a.fdiv g) (b.fdiv g) = 1 ∧ g'.natAbs = Int.gcd a b := by
    intro g h0 h1 h2 h3 h4 h5
    have e1 := fdiv_exact h0 h1
    have e2 := fdiv_exact h0 h2
    refine ⟨g, h0, e1, e2, ?_, ?_, h3⟩
    · rcases Int.lt_or_gt_of_ne hb with q | q
      · have hgn := h5 q
        rcases Int.lt_trichotomy (b.fdiv g) 0 with z | z | z
        · have := Int.mul_pos_of_neg_of_neg z hgn
          omega
        · rw [z, Int.zero_mul] at e2; omega
        · exact z
      · have hgp := h4 q
        rcases Int.lt_trichotomy (b.fdiv g) 0 with z | z | z
        · have := Int.mul_neg_of_neg_of_pos z hgp
          omega
        · rw [z, Int.zero_mul] at e2; omega
        · exact z
    · have e3 : Int.gcd (a.fdiv g * g) (b.fdiv g * g) = Int.gcd (a.fdiv g) (b.fdiv g) * g.natAbs := Int.gcd_mul_right ..
      rw [e1, e2, h3] at e3
      have hgz : 0 < Int.gcd a b := hg
      exact Nat.eq_of_mul_eq_mul_right hgz (by rw [← e3, Nat.one_mul])
  unfold rat
  by_cases hn : b < 0
  · simp only [hn, if_true]
    refine main _ (by omega) ?_ ?_ (by omega) (fun h => by omega) (fun _ => by omega)
    · rw [Int.zero_sub]; exact Int.neg_dvd.mpr d1
    · rw [Int.zero_sub]; exact Int.neg_dvd.mpr d2
  · simp only [hn, if_false]
    exact main _ (by omega) d1 d2 (by omega) (fun _ => by omega) (fun h => by omega)
theorem eqG_pr (g : Bool → Bool) (p q : Int × Int) (S : Store) : eqG g (pr p) (pr q) S = .ok (.bl (g (decide (p.1 = q.1) && decide (p.2 = q.2)))) S := by
  have e : ∀ p : Int × Int, toD S 66 (pr p) = some (.tuple [.int p.1, .int p.2]) := fun _ => rfl
  have e1 : ∀ p : Int × Int, SeqAt.shaped (.tuple [.int p.1, .int p.2]) = true := fun _ => rfl
  show eqD g (pr p) (pr q) S = _
  unfold eqD
  rw [e, e]
  simp only [e1, and_self, if_true]
  simp [PyData.eqv, PyData.eqvAll]
  try rfl
theorem ratio_same (p : Int × Int) (h0 : 0 < p.2) (h1 : Int.gcd p.1 p.2 = 1) : rat p.1 p.2 = p := by
  have hn : ¬ p.2 < 0 := by omega
  unfold rat
  rw [h1]
  simp [hn]
theorem rat_le (a b : Int) (hb : b ≠ 0) : (rat a b).1.natAbs ≤ a.natAbs ∧ (rat a b).2.natAbs ≤ b.natAbs := by
  obtain ⟨g, hg, e1, e2, _⟩ := rat_spec a b hb
  have z : 0 < g.natAbs := Int.natAbs_pos.mpr hg
  constructor
  · have h := congrArg Int.natAbs e1
    rw [Int.natAbs_mul] at h
    rw [← h]
    exact Nat.le_mul_of_pos_right _ z
  · have h := congrArg Int.natAbs e2
    rw [Int.natAbs_mul] at h
    rw [← h]
    exact Nat.le_mul_of_pos_right _ z
theorem rat_cross (a b : Int) (hb : b ≠ 0) : (rat a b).1 * b = a * (rat a b).2 := by
  obtain ⟨g, hg, e1, e2, _⟩ := rat_spec a b hb
  have h : (rat a b).1 * ((rat a b).2 * g) = (rat a b).1 * g * (rat a b).2 := by
    rw [Int.mul_assoc, Int.mul_comm g]
  rw [e1, e2] at h
  exact h
theorem rat_pos (a b : Int) (hb : b ≠ 0) : 0 < (rat a b).2 ∧ Int.gcd (rat a b).1 (rat a b).2 = 1 := by
  obtain ⟨g, hg, e1, e2, h1, h2, _⟩ := rat_spec a b hb
  exact ⟨h1, h2⟩
/-- a ratio of numbers below 2 ^ k -/
structure RB (k : Nat) (p : Int × Int) : Prop where
  t : p.1.natAbs < 2 ^ k
  b : p.2.natAbs < 2 ^ k
  p : 0 < p.2
theorem nat_mul_lt {a b i j : Nat} (h1 : i < 2 ^ a) (h2 : j < 2 ^ b) : i * j < 2 ^ (a + b) := by
  rw [Nat.pow_add]
  exact Nat.mul_lt_mul'' h1 h2
theorem mul_lt {a b : Nat} {i j : Int} (h1 : i.natAbs < 2 ^ a) (h2 : j.natAbs < 2 ^ b) : (i * j).natAbs < 2 ^ (a + b) := by
  rw [Int.natAbs_mul]
  exact nat_mul_lt h1 h2
theorem pos_of_lt {i a : Nat} {j : Int} (h : j.natAbs < 2 ^ a) (hj : 0 < j) : 0 < a := by
  rcases Nat.eq_zero_or_pos a with z | z
  · subst z
    simp at h
    omega
  · exact z
@[simp] theorem get_pr0 (p : Int × Int) (S : Store) : getV (pr p) (.int 0) S = .ok (.int p.1) S := rfl
@[simp] theorem get_pr1 (p : Int × Int) (S : Store) : getV (pr p) (.int 1) S = .ok (.int p.2) S := rfl
theorem gcd_le_right {a b : Int} (hb : b ≠ 0) : Int.gcd a b ≤ b.natAbs := by
  have d2 : (Int.gcd a b : Int) ∣ b := Int.gcd_dvd_right ..
  exact Nat.le_of_dvd (by omega) (Int.natAbs_dvd_natAbs.mpr d2 |> fun h => by simpa using h)
theorem m_ratio_eq (a b : Int) (S : Store) (hb : b ≠ 0) {k : Nat} (hk : b.natAbs < 2 ^ k) (h9 : k ≤ 9000) : m_ratio [.int a, .int b] S = .ok (pr (rat a b)) S := by
  have hg : 0 < Int.gcd a b := Nat.pos_of_ne_zero fun z => hb (Int.gcd_eq_zero_iff.mp z).2
  have hle : Int.gcd a b ≤ b.natAbs := gcd_le_right hb
  have hk0 : 0 < k := by
    rcases Nat.eq_zero_or_pos k with z | z
    · subst z
      simp at hk
      omega
    · exact z
  have w1 := m_is_whole_eq (.int a) S (t := "int") rfl
  have w2 := m_is_whole_eq (.int b) S (t := "int") rfl
  have dv := m_divisor_eq a b S
  have l2 : (2 : Nat) ≤ sizeLine := line2 (by decide)
  have dP : divOk (Int.gcd a b : Int) = true := divOk_of (b := k) (by omega) (by omega) hk0 h9
  have dN : divOk (0 - (Int.gcd a b : Int)) = true := divOk_of (b := k) (by omega) (by omega) hk0 h9
  simp only [m_ratio, b_ratio, runD_ap, startP_nil]
  by_cases hn : b < 0
  · rw [Int.zero_sub] at dN
    simp [w1, w2, dv, hb, hn, pr, rat, l2, dN]
  · simp [w1, w2, dv, hb, hn, pr, rat, l2, dP]
theorem m_ratio_zero (a : Int) (S : Store) : m_ratio [.int a, .int 0] S = .exc "NoRatio" none S := by
  have w1 := m_is_whole_eq (.int a) S (t := "int") rfl
  have w2 := m_is_whole_eq (.int 0) S (t := "int") rfl
  simp only [m_ratio, b_ratio, runD_ap, startP_nil]
  simp [w1, w2]
theorem m_ratio_notop (x y : PV) (S : Store) {t : String} (h : tyP x S = some t) (ht : t ≠ "int") : m_ratio [x, y] S = .exc "NoRatio" none S := by
  have w1 := m_is_whole_eq x S h
  simp only [m_ratio, b_ratio, runD_ap, startP_nil]
  simp [w1, ht]
theorem m_ratio_nobottom (a : Int) (y : PV) (S : Store) {t : String} (h : tyP y S = some t) (ht : t ≠ "int") : m_ratio [.int a, y] S = .exc "NoRatio" none S := by
  have w1 := m_is_whole_eq (.int a) S (t := "int") rfl
  have w2 := m_is_whole_eq y S h
  simp only [m_ratio, b_ratio, runD_ap, startP_nil]
  simp [w1, w2, ht]

/-! ### lines -/
def gi (L : List Int) (k : Nat) : Int := L.getD k 0
@[simp] theorem gi_zero (a : Int) (A : List Int) : gi (a :: A) 0 = a := rfl
@[simp] theorem gi_succ (a : Int) (A : List Int) (k : Nat) : gi (a :: A) (k + 1) = gi A k := rfl
def dot : List Int → List Int → Int
  | a :: A, b :: B => a * b + dot A B
  | _, _ => 0
@[simp] theorem dot_nil (B : List Int) : dot [] B = 0 := by cases B <;> rfl
@[simp] theorem dot_nil' (A : List Int) : dot A [] = 0 := by cases A <;> rfl
@[simp] theorem dot_cons (a b : Int) (A B : List Int) : dot (a :: A) (b :: B) = a * b + dot A B := rfl
def lineV (L zs : List Int) : Int := L.headD 0 + dot L.tail zs
def sumR (n : Nat) (f : Nat → Int) : Int := ((List.range n).map f).sum
theorem sumR_succ (n : Nat) (f : Nat → Int) : sumR (n + 1) f = sumR n f + f n := by
  unfold sumR
  rw [List.range_succ, List.map_append, List.sum_append]
  simp
theorem sumR_shift (n : Nat) (f : Nat → Int) : sumR (n + 1) f = f 0 + sumR n (fun k => f (k + 1)) := by
  unfold sumR
  rw [List.range_succ_eq_map, List.map_cons, List.sum_cons, List.map_map]
  rfl
theorem dot_sumR : ∀ (A B : List Int), A.length = B.length → dot A B = sumR A.length fun k => gi A k * gi B k
  | [], [], _ => rfl
  | a :: A, b :: B, h => by
    rw [dot_cons, dot_sumR A B (by simpa using h), List.length_cons, sumR_shift]
    rfl
theorem dot_zip (n : Int) : ∀ (A B zs : List Int), A.length = B.length → dot (List.zipWith (fun h t => h + n * t) A B) zs = dot A zs + n * dot B zs
  | [], [], zs, _ => by simp
  | a :: A, b :: B, [], _ => by simp
  | a :: A, b :: B, z :: zs, h => by
    rw [List.zipWith_cons_cons, dot_cons, dot_cons, dot_cons, dot_zip n A B zs (by simpa using h)]
    rw [Int.add_mul, Int.mul_add, Int.mul_assoc]
    omega
theorem lineV_zip (n : Int) : ∀ (A B zs : List Int), A.length = B.length → lineV (List.zipWith (fun h t => h + n * t) A B) zs = lineV A zs + n * lineV B zs
  | [], [], zs, _ => by simp [lineV]
  | a :: A, b :: B, zs, h => by
    unfold lineV
    show (a + n * b) + dot (List.zipWith _ A B) zs = (a + dot A zs) + n * (b + dot B zs)
    rw [dot_zip n A B zs (by simpa using h), Int.mul_add]
    omega
def laidF : List Int → List Int → List (List Int) → List Int
  | F, n :: ns, l :: ls => laidF (List.zipWith (fun h t => h + n * t) F l) ns ls
  | F, _, _ => F
@[simp] theorem laidF_nil (F : List Int) (ls : List (List Int)) : laidF F [] ls = F := by cases ls <;> rfl
@[simp] theorem laidF_nil' (F ns : List Int) : laidF F ns [] = F := by cases ns <;> rfl
@[simp] theorem laidF_cons (F ns : List Int) (n : Int) (l : List Int) (ls : List (List Int)) : laidF F (n :: ns) (l :: ls) = laidF (List.zipWith (fun h t => h + n * t) F l) ns ls := rfl
theorem laidF_len : ∀ (ns F : List Int) (ls : List (List Int)), (∀ l ∈ ls, l.length = F.length) → (laidF F ns ls).length = F.length
  | [], F, ls, _ => by simp
  | n :: ns, F, [], _ => by simp
  | n :: ns, F, l :: ls, h => by
    have h0 := h l (List.mem_cons_self ..)
    have e : (List.zipWith (fun h t => h + n * t) F l).length = F.length := by simp [h0]
    rw [laidF_cons, laidF_len ns _ ls (fun l' h' => by rw [e]; exact h l' (List.mem_cons_of_mem _ h')), e]
theorem laidF_line : ∀ (ns F : List Int) (ls : List (List Int)) (zs : List Int), (∀ l ∈ ls, l.length = F.length) → lineV (laidF F ns ls) zs = lineV F zs + dot ns (ls.map fun l => lineV l zs)
  | [], F, ls, zs, _ => by simp
  | n :: ns, F, [], zs, _ => by simp
  | n :: ns, F, l :: ls, zs, h => by
    have h0 := h l (List.mem_cons_self ..)
    have e : (List.zipWith (fun h t => h + n * t) F l).length = F.length := by simp [h0]
    rw [laidF_cons, laidF_line ns _ ls zs (fun l' h' => by rw [e]; exact h l' (List.mem_cons_of_mem _ h')), lineV_zip n F l zs h0.symm, List.map_cons, dot_cons]
    omega
theorem laidF_at : ∀ (ns F : List Int) (ls : List (List Int)) (j : Nat), (∀ l ∈ ls, l.length = F.length) → gi (laidF F ns ls) j = gi F j + dot ns (ls.map fun l => gi l j)
  | [], F, ls, j, _ => by simp
  | n :: ns, F, [], j, _ => by simp
  | n :: ns, F, l :: ls, j, h => by
    have h0 := h l (List.mem_cons_self ..)
    have e : (List.zipWith (fun h t => h + n * t) F l).length = F.length := by simp [h0]
    rw [laidF_cons, laidF_at ns _ ls j (fun l' h' => by rw [e]; exact h l' (List.mem_cons_of_mem _ h')), List.map_cons, dot_cons]
    have q : gi (List.zipWith (fun h t => h + n * t) F l) j = gi F j + n * gi l j := by
      unfold gi
      rw [List.getD_eq_getElem?_getD, List.getD_eq_getElem?_getD, List.getD_eq_getElem?_getD, List.getElem?_zipWith]
      by_cases hj : j < F.length
      · rw [List.getElem?_eq_getElem hj, List.getElem?_eq_getElem (by omega : j < l.length)]
        rfl
      · rw [List.getElem?_eq_none (by omega), List.getElem?_eq_none (by omega)]
        simp
    rw [q]
    omega
theorem dot_rep (m : Nat) (zs : List Int) : dot (List.replicate m 0) zs = 0 := by
  induction m generalizing zs with
  | zero => simp
  | succ m ih =>
    cases zs with
    | nil => simp
    | cons z zs => rw [List.replicate_succ, dot_cons, ih]; simp
def Bd (k : Nat) (L : List Int) : Prop := ∀ a ∈ L, a.natAbs < 2 ^ k
theorem Bd.mono {k l : Nat} {L : List Int} (h : Bd k L) (e : k ≤ l) : Bd l L := fun a ha => Nat.lt_of_lt_of_le (h a ha) (Nat.pow_le_pow_right (by decide) e)
theorem Bd.tail {k : Nat} {L : List Int} (h : Bd k L) : Bd k L.tail := fun a ha => h a (List.mem_of_mem_tail ha)
theorem Bd.getD {k : Nat} {L : List Int} (h : Bd k L) (j : Nat) : (gi L j).natAbs < 2 ^ k := by
  unfold gi
  rw [List.getD_eq_getElem?_getD]
  cases e : L[j]? with
  | none => exact Nat.pow_pos (by decide)
  | some a => exact h a (List.mem_of_getElem? e)
theorem dot_lt {k l : Nat} : ∀ (A B : List Int), Bd k A → Bd l B → (dot A B).natAbs ≤ A.length * 2 ^ (k + l)
  | [], B, _, _ => by simp
  | a :: A, [], _, _ => by simp
  | a :: A, b :: B, hA, hB => by
    have ih := dot_lt A B (fun x hx => hA x (List.mem_cons_of_mem _ hx)) (fun x hx => hB x (List.mem_cons_of_mem _ hx))
    have h1 : (a * b).natAbs < 2 ^ (k + l) := by
      rw [Int.natAbs_mul, Nat.pow_add]
      exact Nat.mul_lt_mul'' (hA a (List.mem_cons_self ..)) (hB b (List.mem_cons_self ..))
    rw [dot_cons, List.length_cons, Nat.succ_mul]
    omega

abbrev tI (L : List Int) : PV := .tup (L.map .int)
theorem at_ints {L : List Int} {j : Nat} (h : j < L.length) : atI (L.map PV.int) (j : Int) = some (.int (gi L j)) := atI_nat (by
  rw [List.getElem?_map, List.getElem?_eq_getElem h]
  simp [gi, List.getD, List.getElem?_eq_getElem h])
theorem getI_eq (L : List Int) (j : Nat) (S : Store) (h : j < L.length) : getV (tI L) (.int (j : Int)) S = .ok (.int (gi L j)) S := by
  unfold getV
  simp only [at_ints h]
theorem getO_eq {L : List Int} {j i : Nat} {S : Store} (e : S[i]? = some (.lst (L.map .int))) (h : j < L.length) : getV (.obj i) (.int (j : Int)) S = .ok (.int (gi L j)) S := by
  unfold getV
  simp only [e, at_ints h]
theorem tail_map (L : List Int) : (L.map PV.int).tail = L.tail.map .int := by cases L <;> rfl
theorem zipP_cons (x y : PV) (xs ys : List PV) : zipP (x :: xs) (y :: ys) = .tup [x, y] :: zipP xs ys := rfl
theorem zipP_nil (ys : List PV) : zipP [] ys = [] := rfl
theorem zipP_nil' (xs : List PV) : zipP xs [] = [] := by cases xs <;> rfl
theorem rep_flat (m : Nat) : (List.replicate m [PV.int 0]).flatten = (List.replicate m (0 : Int)).map .int := by
  induction m with
  | zero => rfl
  | succ m ih => rw [List.replicate_succ, List.flatten_cons, ih, List.replicate_succ]; rfl

/-! ### powers -/
def stepL (m : Nat) (c : Int) (L : List Int) : List Int := if (c.fmod ((m : Int) + 1)).toNat < m then L.set (c.fmod ((m : Int) + 1)).toNat (gi L (c.fmod ((m : Int) + 1)).toNat + 1) else L
def powC (m : Nat) (c : Int) : Nat → Int × List Int
  | 0 => (c, List.replicate m 0)
  | k + 1 => ((powC m c k).1.fdiv ((m : Int) + 1), stepL m (powC m c k).1 (powC m c k).2)
def powI (m : Nat) (c : Int) : List Int := (powC m c 3).2
structure Pw (m k : Nat) (L : List Int) : Prop where
  l : L.length = m
  p : ∀ a ∈ L, 0 ≤ a
  s : L.sum ≤ k
theorem sum_set : ∀ (L : List Int) (i : Nat) (z : Int), i < L.length → (L.set i z).sum = L.sum - gi L i + z
  | [], i, z, h => by simp at h
  | a :: L, 0, z, _ => by simp; omega
  | a :: L, i + 1, z, h => by
    rw [List.set_cons_succ, List.sum_cons, List.sum_cons, sum_set L i z (by simpa using h), gi_succ]
    omega
theorem gi_mem {L : List Int} {i : Nat} (h : i < L.length) : gi L i ∈ L := by
  unfold gi
  rw [List.getD_eq_getElem?_getD, List.getElem?_eq_getElem h]
  exact List.getElem_mem h
theorem Pw.step {m k : Nat} {L : List Int} (h : Pw m k L) (c : Int) : Pw m (k + 1) (stepL m c L) := by
  unfold stepL
  split
  · rename_i hi
    have hi' : (c.fmod ((m : Int) + 1)).toNat < L.length := by rw [h.l]; exact hi
    have h0 := h.p _ (gi_mem hi')
    refine ⟨by rw [List.length_set, h.l], fun a ha => ?_, ?_⟩
    · rcases List.mem_or_eq_of_mem_set ha with q | q
      · exact h.p a q
      · omega
    · rw [sum_set _ _ _ hi']
      have := h.s
      omega
  · exact ⟨h.l, h.p, by have := h.s; omega⟩
theorem pw_C (m : Nat) (c : Int) : ∀ k, Pw m k (powC m c k).2
  | 0 => ⟨by simp [powC], fun a ha => by simp [powC] at ha; omega, by
    show (List.replicate m (0 : Int)).sum ≤ _
    have : ∀ n, (List.replicate n (0 : Int)).sum = 0 := fun n => by
      induction n with
      | zero => rfl
      | succ n ih => rw [List.replicate_succ, List.sum_cons, ih]; rfl
    rw [this]; simp⟩
  | k + 1 => (pw_C m c k).step _
theorem powI_pw (m : Nat) (c : Int) : Pw m 3 (powI m c) := pw_C m c 3
theorem mem_le_sum : ∀ {L : List Int}, (∀ a ∈ L, 0 ≤ a) → 0 ≤ L.sum ∧ ∀ a ∈ L, a ≤ L.sum
  | [], _ => ⟨by simp, fun a ha => nomatch ha⟩
  | b :: L, h => by
    obtain ⟨i1, i2⟩ := mem_le_sum fun a ha => h a (List.mem_cons_of_mem _ ha)
    have hb := h b (List.mem_cons_self ..)
    rw [List.sum_cons]
    refine ⟨by omega, fun a ha => ?_⟩
    rcases List.mem_cons.mp ha with q | q
    · omega
    · have := i2 a q
      omega
theorem Pw.le {m k : Nat} {L : List Int} (h : Pw m k L) {a : Int} (ha : a ∈ L) : 0 ≤ a ∧ a ≤ k := ⟨h.p a ha, Int.le_trans ((mem_le_sum h.p).2 a ha) h.s⟩
theorem law_powers_eq (c : Int) (m q : Nat) (hm : m ≤ 1000) (hq : q ≤ 3) (S : Store) : gc S (m_law_powers [.int c, .int (m : Int), .int (q : Int)] S) = .ok (tI (powC m c q).2) S := by
  have main : Rv (tI (powC m c q).2) (fun S' => ∃ J, S' = S ++ J) (b_law_powers [some (.int c), some (.int (m : Int)), some (.int (q : Int)), none, none, none] S) := by
    unfold b_law_powers
    have l1 : (1 : Nat) ≤ sizeLine := line2 (by decide)
    have lw : m ≤ sizeLine := line2 (by omega)
    have q1 : -9223372036854775808 ≤ (m : Int) := by omega
    have q2 : (m : Int) < 9223372036854775808 := by omega
    refine st_set (.obj S.length) (S ++ [.lst ((powC m c 0).2.map .int)]) ?_ ?_
    · refine eGc_new (S := S) (J := [.lst [.int 0], .lst ((powC m c 0).2.map .int)]) (i := S.length + 1) ?_ (by omega) ?_ (bnds_ints _ _)
      · simp [l1, mulV, lw, q1, q2, rep_flat, powC]
      · rw [List.getElem?_append_right (by omega)]
        simp
    have hdv : divOk ((m : Int) + 1) = true := divOk_s (by omega) (by omega)
    have hm1 : (m : Int) + 1 ≠ 0 := by omega
    refine st_for (S1 := S ++ [.lst ((powC m c 0).2.map .int)]) (all := rngL 0 (q : Int)) (ck := []) (fun k ρ S' => (∃ a3 a4, ρ = [some (.int (powC m c k).1), some (.int (m : Int)), some (.int (q : Int)), some (.obj S.length), a3, a4]) ∧ S' = S ++ [.lst ((powC m c k).2.map .int)])
      (iRange1_nat (n := q) rfl (by omega)) ⟨⟨none, none, rfl⟩, rfl⟩ (fun _ _ _ _ => chk_nil _) ?_ ?_
    · rintro k x ρ S' hx ⟨⟨a3, a4, rfl⟩, rfl⟩
      obtain ⟨rfl, hk⟩ := rngL_get hx
      refine ⟨_, rfl, ?_⟩
      obtain ⟨n, hn, hn'⟩ := mod_nat (powC m c k).1 (b := m + 1) (by omega)
      push_cast at hn
      have pl := (pw_C m c k).l
      refine st_set (.int n) (S ++ [.lst ((powC m c k).2.map .int)]) (by simp [hdv, hn, hm1]) ?_
      refine st_set (.int (powC m c (k + 1)).1) (S ++ [.lst ((powC m c k).2.map .int)]) (by simp [hdv, powC, hm1]) ?_
      have e : (S ++ [PO.lst ((powC m c k).2.map .int)])[S.length]? = some (.lst ((powC m c k).2.map .int)) := get_last
      by_cases h : n < m
      · have h' : (n : Int) < (m : Int) := by omega
        have e2 : (powC m c (k + 1)).2 = (powC m c k).2.set n (gi (powC m c k).2 n + 1) := by
          show stepL m (powC m c k).1 (powC m c k).2 = _
          unfold stepL
          rw [hn]
          simp only [Int.toNat_natCast, h, if_true]
        refine ⟨_, S ++ [.lst ((powC m c (k + 1)).2.map .int)], ?_, ⟨⟨some (.int (0 + (k : Int))), some (.int (n : Int)), rfl⟩, rfl⟩⟩
        have g := getO_eq (j := n) e (by rw [pl]; exact h)
        have ixn : ixN (powC m c k).2.length (n : Int) = some n := by
          rw [pl]
          unfold ixN
          simp [h]
        simp [h', g, setV, ixn, e2, List.map_set]
      · have h' : ¬ (n : Int) < (m : Int) := by omega
        have e2 : (powC m c (k + 1)).2 = (powC m c k).2 := by
          show stepL m (powC m c k).1 (powC m c k).2 = _
          unfold stepL
          rw [hn]
          simp only [Int.toNat_natCast, h, if_false]
        refine ⟨_, S ++ [.lst ((powC m c k).2.map .int)], ?_, ⟨⟨some (.int (0 + (k : Int))), some (.int (n : Int)), rfl⟩, by rw [e2]⟩⟩
        simp [h']
    · rintro ρ' S' ⟨⟨a3, a4, rfl⟩, rfl⟩
      rw [rngL_len, Int.sub_zero, Int.toNat_natCast]
      refine st_ret (S ++ [.lst ((powC m c q).2.map .int)]) ?_ ⟨_, rfl⟩
      simp only [eB_ap, aCons_ap, aNil_ap, eVar_ap, bind_ap]
      exact tuple_obj get_last
  obtain ⟨S', e1, J, rfl⟩ := main
  show gc S (outS (b_law_powers [some (.int c), some (.int (m : Int)), some (.int (q : Int)), none, none, none] S)) = _
  rw [e1]
  exact gc_app (bnds_ints _ _)

end K36

set_option Elab.async false
set_option linter.all false
set_option maxRecDepth 100000
set_option maxHeartbeats 1000000
set_option exponentiation.threshold 40000
namespace K36
open PySem PySem.Spec PyProof.Rows L2 TL
/-! ### dicts of parts -/
abbrev Prt := List Int × (Int × Int)
def partV (p : Prt) : PV := .tup [tI p.1, pr p.2]
def kvV (p : Prt) : PV × PV := (tI p.1, pr p.2)
abbrev dicO (D : List Prt) : PO := .dic false (D.map kvV)
def dgetI (D : List Prt) (k : List Int) : Option (Int × Int) := (D.find? fun p => decide (p.1 = k)).map (·.2)
def dputI (D : List Prt) (k : List Int) (v : Int × Int) : List Prt := if (D.any fun p => decide (p.1 = k)) = true then D.map (fun p => if p.1 = k then (p.1, v) else p) else D ++ [(k, v)]
theorem ints_inj : ∀ {a b : List Int}, a.map PV.int = b.map PV.int → a = b
  | [], [], _ => rfl
  | [], _ :: _, h => nomatch h
  | _ :: _, [], h => nomatch h
  | x :: a, y :: b, h => by
    rw [List.map_cons, List.map_cons] at h
    injection h with h1 h2
    injection h1 with h1
    rw [h1, ints_inj h2]
theorem tI_inj {a b : List Int} (h : tI a = tI b) : a = b := by
  injection h with h
  exact ints_inj h
theorem tI_dec (a b : List Int) : decide (tI a = tI b) = decide (a = b) := by
  by_cases h : a = b
  · simp [h]
  · have : ¬ tI a = tI b := fun e => h (tI_inj e)
    simp [h, this]
theorem dget_D : ∀ (D : List Prt) (k : List Int), dget (D.map kvV) (tI k) = (dgetI D k).map pr
  | [], _ => rfl
  | p :: D, k => by
    have ih := dget_D D k
    unfold dget dgetI at ih ⊢
    rw [List.map_cons, List.find?_cons, List.find?_cons]
    have e : decide ((kvV p).1 = tI k) = decide (p.1 = k) := tI_dec p.1 k
    rw [e]
    by_cases h : p.1 = k
    · simp [h, kvV]
    · simp only [h, decide_false]
      exact ih
theorem dany_D (D : List Prt) (k : List Int) : ((D.map kvV).any fun kv => decide (kv.1 = tI k)) = D.any fun p => decide (p.1 = k) := by
  rw [List.any_map]
  congr 1
  funext p
  exact tI_dec p.1 k
theorem dput_D (D : List Prt) (k : List Int) (v : Int × Int) : dput (D.map kvV) (tI k) (pr v) = (dputI D k v).map kvV := by
  unfold dput dputI
  rw [dany_D]
  split
  · rw [List.map_map, List.map_map]
    congr 1
    funext p
    show (if tI p.1 = tI k then ((kvV p).1, pr v) else kvV p) = kvV (if p.1 = k then (p.1, v) else p)
    by_cases h : p.1 = k
    · simp [h, kvV]
    · have : ¬ tI p.1 = tI k := fun e => h (tI_inj e)
      simp only [h, this, if_false]
  · rw [List.map_append]
    rfl
theorem keysOf_ints : ∀ k : List Int, keysOf (k.map .int) = some (k.map Sum.inl)
  | [] => rfl
  | a :: k => by
    show (match keyOf (.int a), keysOf (k.map .int) with | some k, some ks => some (k :: ks) | _, _ => none) = _
    rw [keysOf_ints k]
    rfl
theorem dicAt_D {D : List Prt} {i : Nat} {S : Store} (e : S[i]? = some (dicO D)) (k : List Int) : dicAt S i (tI k) = some (D.map kvV) := by
  unfold dicAt
  rw [e]
  simp only
  have h1 : isKey (tI k) = true := by
    unfold isKey
    rw [Bool.or_eq_true]
    refine .inr ?_
    show (keysOf (k.map .int)).isSome = true
    rw [keysOf_ints]
    rfl
  have h2 : ((D.map kvV).all fun kv => (keyOf kv.1).isSome == (keyOf (tI k)).isSome) = true := by
    rw [List.all_eq_true]
    intro kv hkv
    obtain ⟨p, _, rfl⟩ := List.mem_map.mp hkv
    rfl
  rw [if_pos ⟨h1, h2, fun z => nomatch z⟩]
theorem isDic_D {D : List Prt} {i : Nat} {S : Store} (e : S[i]? = some (dicO D)) : isDic (.obj i) S = true := by
  unfold isDic
  simp only [e]
theorem getV_D {D : List Prt} {i : Nat} {S : Store} (e : S[i]? = some (dicO D)) {k : List Int} {v : Int × Int} (h : dgetI D k = some v) : getV (.obj i) (tI k) S = .ok (pr v) S := by
  unfold getV
  simp only [e, dicAt_D e k, dget_D, h, Option.map_some]
theorem getDV_D {D : List Prt} {i : Nat} {S : Store} (e : S[i]? = some (dicO D)) (k : List Int) (z : Int × Int) : getDV (.obj i) (tI k) (pr z) S = .ok (pr ((dgetI D k).getD z)) S := by
  unfold getDV
  simp only [dicAt_D e k, dget_D]
  cases dgetI D k <;> rfl
theorem inG_D {D : List Prt} {i : Nat} {S : Store} (e : S[i]? = some (dicO D)) (g : Bool → Bool) (k : List Int) : inG g (tI k) (.obj i) S = .ok (.bl (g (dgetI D k).isSome)) S := by
  unfold inG
  simp only [e, dicAt_D e k, dget_D]
  cases dgetI D k <;> rfl
theorem setV_D {D : List Prt} {i : Nat} {S : Store} (e : S[i]? = some (dicO D)) (k : List Int) (v : Int × Int) (hl : D.length < 1000000) : setV (.obj i) (tI k) (pr v) S = some (S.set i (dicO (dputI D k v))) := by
  have hz : (D.map kvV).length < sizeLine := by rw [List.length_map]; exact Nat.lt_of_lt_of_le hl (by decide)
  unfold setV
  simp only [e, dicAt_D e k, hz, if_true, dput_D]
/-- a part of it -/
theorem dgetI_mem {D : List Prt} {k : List Int} {v : Int × Int} (h : dgetI D k = some v) : (k, v) ∈ D := by
  unfold dgetI at h
  cases q : D.find? (fun p => decide (p.1 = k)) with
  | none => rw [q] at h; cases h
  | some p =>
    rw [q] at h
    have h1 := List.mem_of_find?_eq_some q
    have h2 := List.find?_some q
    have h3 : p.1 = k := of_decide_eq_true h2
    have h4 : p.2 = v := Option.some.inj h
    rw [← h3, ← h4]
    exact h1
theorem dgetI_none {D : List Prt} {k : List Int} : dgetI D k = none ↔ k ∉ D.map (·.1) := by
  unfold dgetI
  rw [Option.map_eq_none_iff, List.find?_eq_none]
  constructor
  · intro h hm
    obtain ⟨p, hp, e⟩ := List.mem_map.mp hm
    exact h p hp (decide_eq_true e)
  · intro h p hp e
    exact h (List.mem_map.mpr ⟨p, hp, of_decide_eq_true e⟩)
theorem dgetI_isSome {D : List Prt} {k : List Int} : (dgetI D k).isSome = true ↔ k ∈ D.map (·.1) := by
  rw [Option.isSome_iff_ne_none, ne_eq, dgetI_none]
  exact Classical.not_not
theorem dputI_new {D : List Prt} {k : List Int} {v : Int × Int} (h : k ∉ D.map (·.1)) : dputI D k v = D ++ [(k, v)] := by
  unfold dputI
  rw [if_neg]
  intro z
  rw [List.any_eq_true] at z
  obtain ⟨p, hp, e⟩ := z
  exact h (List.mem_map.mpr ⟨p, hp, of_decide_eq_true e⟩)
theorem keysI_D (D : List Prt) : keysI ((D.map kvV).map (·.1)) = some (D.map (·.1)) := by
  rw [List.map_map]
  have : (D.map ((fun x => x.1) ∘ kvV)) = (D.map (·.1)).map fun k => .tup (k.map .int) := by
    rw [List.map_map]
    rfl
  rw [this, keysI_map]
structure Kok (m : Nat) (ks : List (List Int)) : Prop where
  n : ks.length < 64
  u : ks.Nodup
  k : ∀ k ∈ ks, k.length = m ∧ ∀ a ∈ k, 0 ≤ a
theorem Kok.okT {m : Nat} {ks : List (List Int)} (h : Kok m ks) : okT ks = true := by
  unfold TL.okT
  rw [Bool.and_eq_true, Bool.and_eq_true, Bool.and_eq_true, Bool.or_eq_true]
  have hd : ∀ k ∈ ks, (ks.headD []).length = k.length := fun k hk => by
    cases ks with
    | nil => cases hk
    | cons a l =>
      show a.length = _
      rw [(h.k a (List.mem_cons_self ..)).1, (h.k k hk).1]
  refine ⟨⟨⟨decide_eq_true h.n, ?_⟩, ?_⟩, ?_⟩
  · rcases Nat.lt_or_ge ks.length 2 with q | q
    · exact .inl (decide_eq_true q)
    · refine .inr (decide_eq_true ?_)
      have hm : 1 ≤ m := by
        rcases Nat.eq_zero_or_pos m with z | z
        · cases ks with
          | nil => simp at q
          | cons a l =>
            cases l with
            | nil => simp at q
            | cons b l =>
              have e1 := (h.k a (List.mem_cons_self ..)).1
              have e2 := (h.k b (List.mem_cons_of_mem _ (List.mem_cons_self ..))).1
              have f1 : a = [] := List.length_eq_zero_iff.mp (by omega)
              have f2 : b = [] := List.length_eq_zero_iff.mp (by omega)
              subst f1 f2
              exact absurd (List.mem_cons_self ..) (List.nodup_cons.mp h.u).1
        · exact z
      cases ks with
      | nil => simp at q
      | cons a l =>
        show 1 ≤ a.length
        rw [(h.k a (List.mem_cons_self ..)).1]
        exact hm
  · rw [List.all_eq_true]
    intro k hk
    exact beq_iff_eq.mpr (hd k hk).symm
  · rw [List.all_eq_true]
    intro k hk
    rw [List.all_eq_true]
    intro a ha
    exact decide_eq_true ((h.k k hk).2 a ha)
theorem sorted_D {D : List Prt} {m i : Nat} {S : Store} (e : S[i]? = some (dicO D)) (h : Kok m (D.map (·.1))) : sortedV [.obj i] S = .ok (.obj S.length) (S ++ [.lst ((srt (D.map (·.1))).map tI)]) := by
  unfold sortedV
  simp only [e, keysI_D, h.okT, if_true]
  rfl

/-! ### a law's sum -/
abbrev sumT (P : List Prt) : PV := .tup (P.map partV)
structure LQ (k : Nat) (q : Int × Int) : Prop where
  t : q.1.natAbs < 2 ^ k
  b : q.2.natAbs < 2 ^ k
  p : 0 < q.2
  g : Int.gcd q.1 q.2 = 1
theorem lq_rat {k : Nat} {t b : Int} (ht : t.natAbs < 2 ^ k) (hb : b.natAbs < 2 ^ k) (h0 : 0 < b) : LQ k (rat t b) := by
  obtain ⟨h1, h2⟩ := rat_le t b (by omega)
  obtain ⟨h3, h4⟩ := rat_pos t b (by omega)
  exact ⟨by omega, by omega, h3, h4⟩
/-- what a sum's parts are -/
structure Sm (m k : Nat) (D : List Prt) : Prop where
  u : (D.map (·.1)).Nodup
  w : ∀ p ∈ D, Pw m 3 p.1
  q : ∀ p ∈ D, LQ k p.2
theorem Sm.kok {m k : Nat} {D : List Prt} (h : Sm m k D) (hl : D.length < 64) : Kok m (D.map (·.1)) := by
  refine ⟨by rw [List.length_map]; exact hl, h.u, fun x hx => ?_⟩
  obtain ⟨p, hp, rfl⟩ := List.mem_map.mp hx
  exact ⟨(h.w p hp).l, (h.w p hp).p⟩
theorem keyI_tI (k : List Int) : keyI (tI k) = some k := by
  show intsOf (k.map .int) = some k
  induction k with
  | nil => rfl
  | cons a k ih => show (intsOf (k.map .int)).map (a :: ·) = _; rw [ih]; rfl
/-- a dict's parts, by sorted keys -/
def told (D : List Prt) : List Prt := (srt (D.map (·.1))).map fun k => (k, (dgetI D k).getD (0, 1))
theorem dgetI_of {D : List Prt} (hu : (D.map (·.1)).Nodup) : ∀ p ∈ D, dgetI D p.1 = some p.2 := by
  induction D with
  | nil => intro p hp; cases hp
  | cons a D ih =>
    intro p hp
    rw [List.map_cons, List.nodup_cons] at hu
    unfold dgetI
    rw [List.find?_cons]
    by_cases e : a.1 = p.1
    · have hpa : p = a := by
        rcases List.mem_cons.mp hp with z | z
        · exact z
        · exact absurd (List.mem_map.mpr ⟨p, z, e.symm⟩) hu.1
      subst hpa
      simp
    · have hpD : p ∈ D := by
        rcases List.mem_cons.mp hp with z | z
        · rw [z] at e; exact absurd rfl e
        · exact z
      simp only [e, decide_false]
      exact ih hu.2 p hpD
theorem told_perm {D : List Prt} (hu : (D.map (·.1)).Nodup) : (told D).Perm D := by
  unfold told
  refine ((srt_perm (D.map (·.1))).map _).trans ?_
  rw [List.map_map]
  have : D.map ((fun k => (k, (dgetI D k).getD (0, 1))) ∘ fun x => x.1) = D := by
    conv => rhs; rw [← List.map_id D]
    refine List.map_congr_left fun p hp => ?_
    show (p.1, (dgetI D p.1).getD (0, 1)) = p
    rw [dgetI_of hu p hp]
    rfl
  rw [this]
theorem told_keys (D : List Prt) : (told D).map (·.1) = srt (D.map (·.1)) := by
  unfold told
  rw [List.map_map]
  exact List.map_id _
theorem Sm.perm {m k : Nat} {D E : List Prt} (h : Sm m k D) (e : E.Perm D) : Sm m k E :=
  ⟨(e.map (·.1)).nodup_iff.mpr h.u, fun p hp => h.w p (e.mem_iff.mp hp), fun p hp => h.q p (e.mem_iff.mp hp)⟩
/-- tuple([(k, d[k]) for k in sorted(d)]) -/
theorem told_eq {D : List Prt} {m s : Nat} {v : Nat} {ρ : Sl} {S : Store} (e : S[s]? = some (dicO D)) (h : Kok m (D.map (·.1))) {ce : Nat} (hv : ρ[ce]? = some (some (.obj s))) (hne : ce ≠ v) (hlv : v < ρ.length) :
    eGc (eB tupleV (aCons (eLc (.name v) (iAny (eB sortedV (aCons (eVar ce) aNil))) tYes' (eTup (aCons (eVar v) (aCons (eBin getV (eVar ce) (eVar v)) aNil))) [v]) aNil)) ρ S = .ok (.tup ((told D).map partV)) S := by
  have so := sorted_D e h
  have l2 : (2 : Nat) ≤ sizeLine := line2 (by decide)
  have lc := eLc_map (i := v) (te := eTup (aCons (eVar v) (aCons (eBin getV (eVar ce) (eVar v)) aNil))) (f := fun x => match keyI x with
    | some k => partV (k, (dgetI D k).getD (0, 1))
    | none => x) (vs := [v]) (it := iAny (eB sortedV (aCons (eVar ce) aNil))) (ρ := ρ) (S := S) (S1 := S ++ [.lst ((srt (D.map (·.1))).map tI)]) (xs := (srt (D.map (·.1))).map tI) (ck := [(S.length, .lst ((srt (D.map (·.1))).map tI))])
    (by simp [hv, so, items_obj]) (chk_one get_last) (line2 (by rw [List.length_map, srt_len]; have := h.n; omega)) (by
      intro x hx zs
      obtain ⟨k, hk, rfl⟩ := List.mem_map.mp hx
      rw [srt_mem] at hk
      obtain ⟨p, hp⟩ := Option.isSome_iff_exists.mp (dgetI_isSome.mpr hk)
      have e3 : ((S ++ [PO.lst ((srt (D.map (·.1))).map tI)]) ++ [.lst zs])[s]? = some (dicO D) := get_app (get_app e)
      have g := getV_D e3 hp
      have r1 : ((wipeP ρ [v]).set v (some (tI k)))[v]? = some (some (tI k)) := List.getElem?_set_self (by
        show v < (ρ.set v none).length
        rw [List.length_set]
        exact hlv)
      have r2 : ((wipeP ρ [v]).set v (some (tI k)))[ce]? = some (some (.obj s)) := by
        rw [List.getElem?_set_ne (Ne.symm hne)]
        show (ρ.set v none)[ce]? = _
        rw [List.getElem?_set_ne (Ne.symm hne)]
        exact hv
      simp only [eTup_ap, aCons_ap, aNil_ap, eVar_ap, eBin_ap, r1, r2, bind_ap, g, keyI_tI, hp]
      simp [l2, partV])
  have em : ((srt (D.map (·.1))).map tI).map (fun x => match keyI x with
    | some k => partV (k, (dgetI D k).getD (0, 1))
    | none => x) = (told D).map partV := by
    unfold told
    rw [List.map_map, List.map_map]
    refine List.map_congr_left fun k hk => ?_
    show (match keyI (tI k) with | some k => _ | none => _) = _
    rw [keyI_tI]
    rfl
  rw [em] at lc
  refine eGc_of (J := [.lst ((srt (D.map (·.1))).map tI), .lst ((told D).map partV)]) ?_ ?_
  · simp only [eB_ap, aCons_ap, aNil_ap, lc, bind_ap]
    rw [show S ++ [PO.lst ((srt (D.map (·.1))).map tI), PO.lst ((told D).map partV)] = S ++ [PO.lst ((srt (D.map (·.1))).map tI)] ++ [PO.lst ((told D).map partV)] from by simp]
    exact tuple_obj get_last
  · show bnds _ _ = true
    refine bnds_all.mpr fun x hx => ?_
    obtain ⟨p, _, rfl⟩ := List.mem_map.mp hx
    show bnds _ [tI p.1, pr p.2] = true
    simp [pr]

end K36

set_option Elab.async false
set_option linter.all false
set_option maxRecDepth 100000
set_option maxHeartbeats 1000000
set_option exponentiation.threshold 40000
namespace K36
open PySem PySem.Spec PyProof.Rows L2 TL
/-! ### sums of powers 0 to 3 over one size, by differences -/
def T2 : Nat → Int
  | 0 => 0
  | n + 1 => T2 n + n
def T3 : Nat → Int
  | 0 => 0
  | n + 1 => T3 n + T2 n
theorem T2_mul (n : Nat) : (n : Int) * ((n : Int) - 1) = T2 n * 2 := by
  induction n with
  | zero => rfl
  | succ n ih =>
    show ((n + 1 : Nat) : Int) * (((n + 1 : Nat) : Int) - 1) = (T2 n + n) * 2
    push_cast
    grind
theorem T3_mul (n : Nat) : T2 n * ((n : Int) - 2) = T3 n * 3 := by
  induction n with
  | zero => rfl
  | succ n ih =>
    have h := T2_mul n
    show (T2 n + n) * (((n + 1 : Nat) : Int) - 2) = (T3 n + T2 n) * 3
    push_cast
    grind
theorem T2_div (n : Nat) : ((n : Int) * ((n : Int) - 1)).fdiv 2 = T2 n := by
  rw [T2_mul, Int.mul_fdiv_cancel _ (by decide)]
theorem T3_div (n : Nat) : (T2 n * ((n : Int) - 2)).fdiv 3 = T3 n := by
  rw [T3_mul, Int.mul_fdiv_cancel _ (by decide)]
theorem T2_bd (n : Nat) : 0 ≤ T2 n ∧ T2 n ≤ n * n := by
  induction n with
  | zero => exact ⟨by decide, by decide⟩
  | succ n ih =>
    show 0 ≤ T2 n + n ∧ T2 n + n ≤ ((n + 1 : Nat) : Int) * ((n + 1 : Nat) : Int)
    have e : ((n + 1 : Nat) : Int) * ((n + 1 : Nat) : Int) = (n : Int) * n + 2 * n + 1 := by push_cast; grind
    rw [e]
    omega
theorem T3_bd (n : Nat) : 0 ≤ T3 n ∧ T3 n ≤ (n : Int) * n * n := by
  induction n with
  | zero => exact ⟨by decide, by decide⟩
  | succ n ih =>
    show 0 ≤ T3 n + T2 n ∧ T3 n + T2 n ≤ ((n + 1 : Nat) : Int) * ((n + 1 : Nat) : Int) * ((n + 1 : Nat) : Int)
    have e : ((n + 1 : Nat) : Int) * ((n + 1 : Nat) : Int) * ((n + 1 : Nat) : Int) = (n : Int) * n * n + 3 * ((n : Int) * n) + 3 * n + 1 := by push_cast; grind
    have h2 := T2_bd n
    have h3 : 0 ≤ (n : Int) * n := Int.mul_nonneg (by omega) (by omega)
    rw [e]
    omega
/-- a list of coins at a size -/
def P (c : List Int) (n : Nat) : Int := gi c 0 + gi c 1 * n + gi c 2 * T2 n + gi c 3 * T3 n
theorem gi_tail (c : List Int) (k : Nat) : gi c.tail k = gi c (k + 1) := by
  cases c with
  | nil => rfl
  | cons a c => rfl
theorem gi_far {c : List Int} {k : Nat} (h : c.length ≤ k) : gi c k = 0 := by
  unfold gi
  rw [List.getD_eq_getElem?_getD, List.getElem?_eq_none h]
  rfl
theorem P_step {c : List Int} (h : c.length ≤ 4) (n : Nat) : P c (n + 1) = P c n + P c.tail n := by
  unfold P
  rw [gi_tail, gi_tail, gi_tail, gi_tail, gi_far (k := 4) h]
  show _ + _ * ((n + 1 : Nat) : Int) + _ * (T2 n + n) + _ * (T3 n + T2 n) = _
  push_cast
  grind
/-- rising and falling -/
theorem up_of {f : Nat → Int} {a b : Nat} (hab : a ≤ b) (h : ∀ n, a ≤ n → n < b → f n ≤ f (n + 1)) : f a ≤ f b := by
  induction b with
  | zero =>
    have : a = 0 := by omega
    rw [this]
    exact Int.le_refl _
  | succ b ih =>
    by_cases e : a = b + 1
    · rw [e]; exact Int.le_refl _
    · exact Int.le_trans (ih (by omega) fun n h1 h2 => h n h1 (by omega)) (h b (by omega) (by omega))
theorem down_of {f : Nat → Int} {a b : Nat} (hab : a ≤ b) (h : ∀ n, a ≤ n → n < b → f (n + 1) ≤ f n) : f b ≤ f a := by
  have := up_of (f := fun n => - f n) hab (fun n h1 h2 => by have := h n h1 h2; omega)
  omega
/-- between two places where a bent-down sequence is above 0 it is above 0 -/
theorem bent_pos {f g : Nat → Int} {a b : Nat} (hs : ∀ n, f (n + 1) = f n + g n) (hg : ∀ n, a ≤ n → n + 1 < b → g (n + 1) ≤ g n) (ha : 0 < f a) (hb : 0 < f b) : ∀ n, a ≤ n → n ≤ b → 0 < f n := by
  intro n h1 h2
  by_cases hn : n = b
  · rw [hn]; exact hb
  by_cases ha' : n = a
  · rw [ha']; exact ha
  have mono : ∀ i j, a ≤ i → i ≤ j → j < b → g j ≤ g i := fun i j h1 h2 h3 => down_of (f := g) h2 fun k q1 q2 => hg k (by omega) (by omega)
  by_cases h0 : 0 ≤ g n
  · have : f a ≤ f n := up_of (by omega) fun k q1 q2 => by
      rw [hs k]
      have := mono k n q1 (by omega) (by omega)
      omega
    omega
  · have : f b ≤ f n := down_of (by omega) fun k q1 q2 => by
      rw [hs k]
      have := mono n k h1 q1 (by omega)
      omega
    omega
/-- the first place from low on where f is above 0 -/
def FF (f : Nat → Int) (low h : Nat) : Prop := low ≤ h ∧ 0 < f h ∧ (h = low ∨ f (h - 1) ≤ 0)
structure Bent (f : Nat → Int) (b l : Nat) : Prop where
  le : b ≤ l
  conc : ∀ n, n + 1 < b → f (n + 2) - f (n + 1) ≤ f (n + 1) - f n
  down : ∀ n, b ≤ n → n < l → f (n + 1) ≤ f n
  up : ∀ n, l ≤ n → f n ≤ f (n + 1)
/-- what comes is above for good -/
structure Good (f : Nat → Int) (h : Nat) : Prop where
  pos : ∀ n, h ≤ n → 0 < f n
  first : h = 0 ∨ f (h - 1) ≤ 0
theorem good_from {f : Nat → Int} {b l h : Nat} (B : Bent f b l) (h0 : f l ≤ 0) (F : FF f l h) : Good f h := by
  obtain ⟨f1, f2, f3⟩ := F
  have hl : h ≠ l := fun e => by rw [e] at f2; omega
  refine ⟨fun n hn => ?_, .inr (f3.resolve_left hl)⟩
  have := up_of (f := f) hn fun k q1 q2 => B.up k (by omega)
  omega
theorem pos_from {f : Nat → Int} {b l : Nat} (B : Bent f b l) (h0 : 0 < f l) : ∀ n, b ≤ n → 0 < f n := by
  intro n hn
  by_cases q : n ≤ l
  · have := down_of (f := f) q fun k q1 q2 => B.down k (by omega) q2
    omega
  · have := up_of (f := f) (show l ≤ n by omega) fun k q1 q2 => B.up k q1
    omega
theorem bent_mid {f : Nat → Int} {b l a : Nat} (B : Bent f b l) (h0 : 0 < f l) (ha : 0 < f a) : ∀ n, a ≤ n → 0 < f n := by
  intro n hn
  by_cases q : b ≤ n
  · exact pos_from B h0 n q
  · exact bent_pos (f := f) (g := fun n => f (n + 1) - f n) (a := a) (b := b) (fun n => by omega) (fun k q1 q2 => B.conc k q2) ha (pos_from B h0 b (Nat.le_refl _)) n hn (by omega)
theorem good_zero {f : Nat → Int} {b l : Nat} (B : Bent f b l) (h0 : 0 < f l) (hz : 0 < f 0) : Good f 0 := ⟨fun n _ => bent_mid B h0 hz n (Nat.zero_le _), .inl rfl⟩
theorem good_between {f : Nat → Int} {b l h : Nat} (B : Bent f b l) (h0 : 0 < f l) (h1 : 0 < f h) (h2 : f (h - 1) ≤ 0) : Good f h := ⟨fun n hn => bent_mid B h0 h1 n hn, .inr h2⟩

/-! ### ways to take some out of many -/
def W (n : Nat) : Nat → Int
  | 0 => 1
  | 1 => n
  | 2 => T2 n
  | 3 => T3 n
  | _ => 0
theorem W_mul (n k : Nat) (hk : k < 3) : W n k * ((n : Int) - (k : Int)) = W n (k + 1) * ((k : Int) + 1) := by
  rcases (by omega : k = 0 ∨ k = 1 ∨ k = 2) with rfl | rfl | rfl
  · show 1 * ((n : Int) - ((0 : Nat) : Int)) = (n : Int) * (((0 : Nat) : Int) + 1)
    omega
  · exact T2_mul n
  · exact T3_mul n
theorem W_step (n k : Nat) (hk : k < 3) : (W n k * ((n : Int) - (k : Int))).fdiv ((k : Int) + 1) = W n (k + 1) := by
  rw [W_mul n k hk, Int.mul_fdiv_cancel _ (by omega)]
theorem T3_cub (n k : Nat) (h : n < 2 ^ k) : (n : Int) * n * n < 2 ^ (3 * k) := by
  have h1 : n * n < 2 ^ (k + k) := by rw [Nat.pow_add]; exact Nat.mul_lt_mul'' h h
  have h2 : n * n * n < 2 ^ (k + k + k) := by rw [Nat.pow_add (2) (k + k)]; exact Nat.mul_lt_mul'' h1 h
  have h3 : k + k + k = 3 * k := by omega
  rw [h3] at h2
  exact_mod_cast h2
theorem W_bd {n k : Nat} (s : Nat) (h : n < 2 ^ k) : 0 ≤ W n s ∧ (W n s).natAbs ≤ 2 ^ (3 * k) := by
  have p3 : (1 : Nat) ≤ 2 ^ (3 * k) := Nat.one_le_two_pow
  have pk : (2 : Nat) ^ k ≤ 2 ^ (3 * k) := Nat.pow_le_pow_right (by decide) (by omega)
  match s with
  | 0 => exact ⟨by show (0 : Int) ≤ 1; decide, by show (1 : Int).natAbs ≤ _; simpa using p3⟩
  | 1 => exact ⟨by show (0 : Int) ≤ (n : Int); omega, by show ((n : Int)).natAbs ≤ _; omega⟩
  | 2 =>
    obtain ⟨h1, h2⟩ := T2_bd n
    refine ⟨h1, ?_⟩
    have q1 : n * n < 2 ^ (k + k) := by rw [Nat.pow_add]; exact Nat.mul_lt_mul'' h h
    have q2 : (2 : Nat) ^ (k + k) ≤ 2 ^ (3 * k) := Nat.pow_le_pow_right (by decide) (by omega)
    have q3 : ((n * n : Nat) : Int) = (n : Int) * n := by push_cast; rfl
    show (T2 n).natAbs ≤ _
    omega
  | 3 =>
    obtain ⟨h1, h2⟩ := T3_bd n
    refine ⟨h1, ?_⟩
    have q1 : n * n < 2 ^ (k + k) := by rw [Nat.pow_add]; exact Nat.mul_lt_mul'' h h
    have q2 : n * n * n < 2 ^ (k + k + k) := by rw [Nat.pow_add (2) (k + k)]; exact Nat.mul_lt_mul'' q1 h
    have q4 : k + k + k = 3 * k := by omega
    rw [q4] at q2
    have q3 : ((n * n * n : Nat) : Int) = (n : Int) * n * n := by push_cast; rfl
    show (T3 n).natAbs ≤ _
    omega
  | s + 4 => exact ⟨by show (0 : Int) ≤ 0; decide, by show (0 : Int).natAbs ≤ _; simp⟩
theorem m_ways_out_eq {n k : Nat} (s : Nat) (hs : s ≤ 3) (hn : n < 2 ^ k) (hk : k ≤ 100000) (S : Store) : m_ways_out [.int (n : Int), .int (s : Int)] S = .ok (.int (W n s)) S := by
  have main : Rv (.int (W n s)) (fun S' => S' = S) (b_ways_out [some (.int (n : Int)), some (.int (s : Int)), none, none] S) := by
    unfold b_ways_out
    refine st_set (.int 1) S rfl ?_
    refine st_for (S1 := S) (all := rngL 0 (s : Int)) (ck := []) (fun j ρ S' => S' = S ∧ ∃ a3, ρ = [some (.int (n : Int)), some (.int (s : Int)), some (.int (W n j)), a3])
      (iRange1_nat rfl (by omega)) ⟨rfl, none, rfl⟩ (fun _ _ _ _ => chk_nil _) ?_ ?_
    · rintro j x ρ S' hx ⟨rfl, a3, rfl⟩
      obtain ⟨rfl, hj⟩ := rngL_get hx
      have hj3 : j < 3 := by omega
      refine ⟨_, rfl, nx_set (.int (W n (j + 1))) S' ?_ ⟨rfl, some (.int (0 + (j : Int))), rfl⟩⟩
      obtain ⟨w1, w2⟩ := W_bd j hn
      have p3 : 0 < 2 ^ (3 * k) := Nat.pow_pos (by decide)
      have m1 : mulOk (W n j) ((n : Int) - (j : Int)) = true := mulOk_of (a := 3 * k + 1) (b := k + 2) (by rw [Nat.pow_succ]; omega) (by rw [Nat.pow_add]; omega) (by omega) (by omega) (by omega)
      have d1 : divOk ((j : Int) + 1) = true := divOk_s (by omega) (by omega)
      have z1 : ¬ ((j : Int) + 1 = 0) := by omega
      simp [m1, d1, W_step n j hj3]
    · rintro ρ' S' ⟨rfl, a3, rfl⟩
      refine st_ret S' ?_ rfl
      simp
  obtain ⟨S', e1, rfl⟩ := main
  show outS (b_ways_out [some (.int (n : Int)), some (.int (s : Int)), none, none] S') = _
  rw [e1]
  rfl
def factI (s : Nat) : Int := gi [1, 1, 2, 6] s
theorem fact_step (k : Nat) (hk : k < 3) : factI (k + 1) = factI k * ((k : Int) + 1) := by
  rcases (by omega : k = 0 ∨ k = 1 ∨ k = 2) with rfl | rfl | rfl <;> rfl

/-! ### a sum's value -/
def botF : List Prt → Int → Int
  | [], f => f
  | p :: P, f => botF P ((f * p.2.2).fdiv (Int.gcd f p.2.2))
theorem pos_r {a b : Int} (ha : 0 < a) (h : 0 < a * b) : 0 < b := by
  rcases Int.lt_trichotomy b 0 with q | q | q
  · have := Int.mul_neg_of_pos_of_neg ha q
    omega
  · rw [q, Int.mul_zero] at h; omega
  · exact q
theorem lcm_step {f b : Int} (hf : 0 < f) (hb : 0 < b) : 0 < (f * b).fdiv (Int.gcd f b) ∧ f ∣ (f * b).fdiv (Int.gcd f b) ∧ b ∣ (f * b).fdiv (Int.gcd f b) ∧ (f * b).fdiv (Int.gcd f b) ≤ f * b := by
  have hg : 0 < Int.gcd f b := Nat.pos_of_ne_zero fun z => by have := (Int.gcd_eq_zero_iff.mp z).2; omega
  obtain ⟨f', ef⟩ : (Int.gcd f b : Int) ∣ f := Int.gcd_dvd_left ..
  obtain ⟨b', eb⟩ : (Int.gcd f b : Int) ∣ b := Int.gcd_dvd_right ..
  generalize Int.gcd f b = g at *
  have hg' : (0 : Int) < (g : Int) := by omega
  have e : (f * b).fdiv (g : Int) = f * b' := by
    have : f * b = f * b' * g := by rw [eb]; grind
    rw [this, Int.mul_fdiv_cancel _ (by omega)]
  have e2 : f * b' = f' * b := by rw [eb]; conv => lhs; rw [ef]
                                  grind
  have hb' : 0 < b' := by
    rw [eb] at hb
    exact pos_r hg' hb
  rw [e]
  refine ⟨Int.mul_pos hf hb', ⟨b', rfl⟩, ⟨f', by rw [e2, Int.mul_comm]⟩, ?_⟩
  refine Int.mul_le_mul_of_nonneg_left ?_ (by omega)
  rw [eb]
  have : (1 : Int) * b' ≤ g * b' := Int.mul_le_mul_of_nonneg_right (by omega) (by omega)
  omega
theorem botF_ok {w : Nat} : ∀ (P : List Prt) (f : Int) (k : Nat), 0 < f → f.natAbs < 2 ^ k → (∀ p ∈ P, LQ w p.2) → 0 < botF P f ∧ f ∣ botF P f ∧ (∀ p ∈ P, p.2.2 ∣ botF P f) ∧ (botF P f).natAbs < 2 ^ (k + w * P.length)
  | [], f, k, h, hk, _ => ⟨h, Int.dvd_refl _, (fun p hp => nomatch hp), by show f.natAbs < _; simpa using hk⟩
  | p :: P, f, k, h, hk, hP => by
    have hp := hP p (List.mem_cons_self ..)
    obtain ⟨a1, a2, a3, a4⟩ := lcm_step h hp.p
    have q1 := mul_lt hk hp.b
    have q2 : ((f * p.2.2).fdiv (Int.gcd f p.2.2)).natAbs < 2 ^ (k + w) := by omega
    obtain ⟨i1, i2, i3, i4⟩ := botF_ok P _ (k + w) a1 q2 fun x hx => hP x (List.mem_cons_of_mem _ hx)
    refine ⟨i1, Int.dvd_trans a2 i2, fun x hx => ?_, ?_⟩
    · rcases List.mem_cons.mp hx with z | z
      · rw [z]; exact Int.dvd_trans a3 i2
      · exact i3 x z
    · have e : k + w + w * P.length = k + w * (p :: P).length := by rw [List.length_cons, Nat.mul_succ]; omega
      rw [← e]
      exact i4
theorem get_pr (p : Int × Int) (S : Store) : getV (pr p) (.int 1) S = .ok (.int p.2) S := rfl
theorem bot_loop {w : Nat} (hw : 0 < w) (o : PV) (S : Store) : ∀ (P : List Prt) (f : Int) (k : Nat) (a2 a3 : Option PV), 0 < f → f.natAbs < 2 ^ k → k + w * P.length ≤ 9000 → (∀ p ∈ P, LQ w p.2) →
    ∃ b2 b3, forN (.tup [2, 3]) (sSet 1 (eBin fdivV (eBin mulV (eVar 1) (eBin getV (eVar 3) (eK (.int 1)))) (eCall 2 m_divisor (aCons (eVar 1) (aCons (eBin getV (eVar 3) (eK (.int 1))) aNil))))) [] (P.map partV) [some o, some (.int f), a2, a3] S
      = .next [some o, some (.int (botF P f)), b2, b3] S
  | [], f, k, a2, a3, _, _, _, _ => ⟨a2, a3, by rw [List.map_nil, forN_nil (chk_nil _)]; rfl⟩
  | p :: P, f, k, a2, a3, h, hk, h9, hP => by
    have hp := hP p (List.mem_cons_self ..)
    rw [List.length_cons, Nat.mul_succ] at h9
    obtain ⟨a1, _, _, a4⟩ := lcm_step h hp.p
    have q1 := mul_lt hk hp.b
    have q2 : ((f * p.2.2).fdiv (Int.gcd f p.2.2)).natAbs < 2 ^ (k + w) := by omega
    obtain ⟨b2, b3, e⟩ := bot_loop hw o S P _ (k + w) (some (tI p.1)) (some (pr p.2)) a1 q2 (by omega) fun x hx => hP x (List.mem_cons_of_mem _ hx)
    refine ⟨b2, b3, ?_⟩
    have hk0 := pos_of_lt (i := 0) hk h
    have m1 : mulOk f p.2.2 = true := mulOk_of hk hp.b hk0 hw (by omega)
    have hg : 0 < Int.gcd f p.2.2 := Nat.pos_of_ne_zero fun z => by have := (Int.gcd_eq_zero_iff.mp z).1; omega
    have hle := gcd_le_right (a := f) (b := p.2.2) (by have := hp.p; omega)
    have hb := hp.b
    have d1 : divOk (Int.gcd f p.2.2 : Int) = true := divOk_of (b := w) (by omega) (by omega) hw (by omega)
    have z1 : ¬ ((Int.gcd f p.2.2 : Int) = 0) := by omega
    rw [List.map_cons, forN_next (chk_nil _) (ρ1 := [some o, some (.int f), some (tI p.1), some (pr p.2)]) (ρ' := [some o, some (.int ((f * p.2.2).fdiv (Int.gcd f p.2.2))), some (tI p.1), some (pr p.2)]) (S' := S) rfl ?_, e]
    · rfl
    · simp [m_divisor_eq, m1, d1, z1]
theorem m_one_bottom_eq {w : Nat} (hw : 0 < w) (P : List Prt) (hl : 1 + w * P.length ≤ 9000) (hP : ∀ p ∈ P, LQ w p.2) (S : Store) : m_one_bottom [sumT P] S = .ok (.int (botF P 1)) S := by
  obtain ⟨b2, b3, e⟩ := bot_loop hw (sumT P) S P 1 1 none none (by decide) (by decide) hl hP
  show outS (b_one_bottom [some (sumT P), none, none, none] S) = _
  unfold b_one_bottom
  rw [seq_set (x := .int 1) (S1 := S) rfl]
  show outS (sSeq _ _ [some (sumT P), some (.int 1), none, none] S) = _
  rw [seq_for (S1 := S) (all := P.map partV) (ck := []) (ρ' := [some (sumT P), some (.int (botF P 1)), b2, b3]) (S' := S) rfl e]
  rfl
/-- the ways of a part's powers -/
def wz : List Int → List Int → Int
  | z :: zs, k :: ks => W z.toNat k.toNat * wz zs ks
  | _, _ => 1
def topF (P : List Prt) (zs : List Int) (B : Int) : Int := (P.map fun p => p.2.1 * B.fdiv p.2.2 * wz zs p.1).sum
structure Zs (k : Nat) (zs : List Int) : Prop where
  p : ∀ z ∈ zs, 0 ≤ z ∧ z.natAbs < 2 ^ k
theorem Zs.tail {k : Nat} {z : Int} {zs : List Int} (h : Zs k (z :: zs)) : Zs k zs := ⟨fun x hx => h.p x (List.mem_cons_of_mem _ hx)⟩
theorem wz_bd {k : Nat} : ∀ (zs ks : List Int), Zs k zs → (wz zs ks).natAbs ≤ 2 ^ (3 * k * zs.length) ∧ 0 ≤ wz zs ks
  | [], ks, _ => by
    have : wz [] ks = 1 := by cases ks <;> rfl
    rw [this]; simp
  | z :: zs, [], _ => ⟨by show (1 : Int).natAbs ≤ _; exact Nat.one_le_two_pow, by show (0 : Int) ≤ 1; decide⟩
  | z :: zs, a :: ks, h => by
    obtain ⟨i1, i2⟩ := wz_bd zs ks h.tail
    obtain ⟨z0, z1⟩ := h.p z (List.mem_cons_self ..)
    obtain ⟨w1, w2⟩ := W_bd (k := k) (n := z.toNat) a.toNat (by omega)
    refine ⟨?_, Int.mul_nonneg w1 i2⟩
    show (W z.toNat a.toNat * wz zs ks).natAbs ≤ _
    rw [Int.natAbs_mul, List.length_cons, Nat.mul_succ, Nat.add_comm, Nat.pow_add]
    exact Nat.mul_le_mul w2 i1
/-- part = part * ways, over sizes and powers -/
theorem ways_loop {ck : Chk} {S : Store} (hc : chk ck S) {k : Nat} (hk : k ≤ 1000) {t : TT'} {wf : DF} (x y z : Nat) (hw : ∀ (n s : Nat) (S : Store), s ≤ 3 → n < 2 ^ k → wf [.int (n : Int), .int (s : Int)] S = .ok (.int (W n s)) S)
    (hxy : x ≠ y) (hxz : x ≠ z) (hyz : y ≠ z) : ∀ (zs ks : List Int) (a : Int) (ρ : Sl) (l : Nat), Zs k zs → (∀ s ∈ ks, 0 ≤ s ∧ s ≤ 3) → a.natAbs < 2 ^ l → 0 < l → l + 3 * k * zs.length + 3 * k ≤ 400000 → x < ρ.length → y < ρ.length → z < ρ.length → ρ[x]? = some (some (.int a)) →
    ∃ ρ', forN (.tup [y, z]) (sSet x (eBin mulV (eVar x) (eCall 2 wf (aCons (eVar y) (aCons (eVar z) aNil))))) ck (zipP (zs.map .int) (ks.map .int)) ρ S = .next ρ' S ∧ ρ'.length = ρ.length ∧ ρ'[x]? = some (some (.int (a * wz zs ks))) ∧ ∀ j, j ≠ x → j ≠ y → j ≠ z → ρ'[j]? = ρ[j]?
  | [], ks, a, ρ, l, _, _, _, _, _, _, _, _, e => ⟨ρ, by rw [List.map_nil, zipP_nil, forN_nil hc], rfl, by
      have : wz [] ks = 1 := by cases ks <;> rfl
      rw [this, Int.mul_one]; exact e, fun _ _ _ _ => rfl⟩
  | u :: zs, [], a, ρ, l, _, _, _, _, _, _, _, _, e => ⟨ρ, by rw [List.map_nil, zipP_nil', forN_nil hc], rfl, by
      show _ = some (some (PV.int (a * 1)))
      rw [Int.mul_one]; exact e, fun _ _ _ _ => rfl⟩
  | u :: zs, s :: ks, a, ρ, l, hz, hs, ha, h0, hl, hx, hy, hzl, e => by
    obtain ⟨u0, u1⟩ := hz.p u (List.mem_cons_self ..)
    obtain ⟨s0, s3⟩ := hs s (List.mem_cons_self ..)
    obtain ⟨n, rfl⟩ := nat_of u0
    obtain ⟨q, rfl⟩ := nat_of s0
    rw [List.length_cons, Nat.mul_succ] at hl
    have hn : n < 2 ^ k := by omega
    obtain ⟨w1, w2⟩ := W_bd (k := k) (n := n) q hn
    have w3 : (W n q).natAbs < 2 ^ (3 * k + 1) := by
      have p3 : 0 < 2 ^ (3 * k) := Nat.pow_pos (by decide)
      rw [Nat.pow_succ]; omega
    have m1 : mulOk a (W n q) = true := mulOk_of ha w3 h0 (by omega) (by omega)
    have ha' : (a * W n q).natAbs < 2 ^ (l + 3 * k) := by
      rw [Int.natAbs_mul, Nat.pow_add]
      exact Nat.lt_of_le_of_lt (Nat.mul_le_mul_left _ w2) (Nat.mul_lt_mul_of_pos_right ha (Nat.pow_pos (by decide)))
    have hlen : (((ρ.set y (some (PV.int (n : Int)))).set z (some (.int (q : Int)))).set x (some (.int (a * W n q)))).length = ρ.length := by simp
    obtain ⟨ρ', i1, i2, i3, i4⟩ := ways_loop hc hk (t := t) x y z hw hxy hxz hyz zs ks (a * W n q) (((ρ.set y (some (PV.int (n : Int)))).set z (some (.int (q : Int)))).set x (some (.int (a * W n q)))) (l + 3 * k) hz.tail (fun r hr => hs r (List.mem_cons_of_mem _ hr)) ha' (by omega) (by omega)
      (by rw [hlen]; exact hx) (by rw [hlen]; exact hy) (by rw [hlen]; exact hzl) (List.getElem?_set_self (by simp; exact hx))
    refine ⟨ρ', ?_, i2.trans hlen, ?_, fun j j1 j2 j3 => ?_⟩
    · rw [List.map_cons, List.map_cons, zipP_cons, forN_next hc (ρ1 := (ρ.set y (some (PV.int (n : Int)))).set z (some (.int (q : Int)))) (ρ' := ((ρ.set y (some (PV.int (n : Int)))).set z (some (.int (q : Int)))).set x (some (.int (a * W n q)))) (S' := S) rfl ?_, i1]
      have g1 : ((ρ.set y (some (PV.int (n : Int)))).set z (some (.int (q : Int))))[x]? = some (some (.int a)) := by
        rw [List.getElem?_set_ne (Ne.symm hxz), List.getElem?_set_ne (Ne.symm hxy)]; exact e
      have g2 : ((ρ.set y (some (PV.int (n : Int)))).set z (some (.int (q : Int))))[y]? = some (some (.int (n : Int))) := by
        rw [List.getElem?_set_ne (Ne.symm hyz), List.getElem?_set_self hy]
      have g3 : ((ρ.set y (some (PV.int (n : Int)))).set z (some (.int (q : Int))))[z]? = some (some (.int (q : Int))) := List.getElem?_set_self (by rw [List.length_set]; exact hzl)
      simp only [sSet_ap, eBin_ap, eVar_ap, eCall_ap, aCons_ap, aNil_ap, g1, g2, g3, bind_ap]
      simp [hw n q S (by omega) hn, m1]
    · show _ = some (some (PV.int (a * (W ((n : Int)).toNat ((q : Int)).toNat * wz zs ks))))
      rw [i3, Int.toNat_natCast, Int.toNat_natCast, Int.mul_assoc]
    · rw [i4 j j1 j2 j3, List.getElem?_set_ne (Ne.symm j1), List.getElem?_set_ne (Ne.symm j3), List.getElem?_set_ne (Ne.symm j2)]
theorem topF_cons (p : Prt) (P : List Prt) (zs : List Int) (B : Int) : topF (p :: P) zs B = p.2.1 * B.fdiv p.2.2 * wz zs p.1 + topF P zs B := by
  unfold topF
  rw [List.map_cons, List.sum_cons]
theorem fdiv_le {B b : Int} (hB : 0 < B) (hb : 0 < b) (h : b ∣ B) : 0 < B.fdiv b ∧ (B.fdiv b).natAbs ≤ B.natAbs := by
  obtain ⟨c, rfl⟩ := h
  have e : (b * c).fdiv b = c := by rw [Int.mul_comm, Int.mul_fdiv_cancel _ (by omega)]
  have hc : 0 < c := pos_r hb hB
  rw [e]
  refine ⟨hc, ?_⟩
  rw [Int.natAbs_mul]
  exact Nat.le_mul_of_pos_left _ (by omega)

theorem list9 {α : Type} {l : List α} (h : l.length = 9) : ∃ a b c d e f g i j, l = [a, b, c, d, e, f, g, i, j] := by
  rcases l with _ | ⟨a, _ | ⟨b, _ | ⟨c, _ | ⟨d, _ | ⟨e, _ | ⟨f, _ | ⟨g, _ | ⟨i, _ | ⟨j, _ | ⟨k, l⟩⟩⟩⟩⟩⟩⟩⟩⟩⟩ <;> simp at h
  exact ⟨a, b, c, d, e, f, g, i, j, rfl⟩
theorem pw3 {m : Nat} {L : List Int} (h : Pw m 3 L) : ∀ s ∈ L, 0 ≤ s ∧ s ≤ 3 := fun s hs => by
  have := h.le hs
  omega
theorem top_loop {w k m : Nat} (hw : 0 < w) (hw9 : w ≤ 9000) (hk : k ≤ 1000) (o s : PV) {d : Kd} {zs : List Int} {ck : Chk} {S : Store} (hs : seqC s S = some (d, zs.map .int, ck)) (hc : chk ck S) (hz : Zs k zs) (hzl : zs.length ≤ 20) {B : Int} (hB : 0 < B) (hB9 : B.natAbs < 2 ^ 9000) :
    ∀ (P : List Prt) (tot : Int) (a4 a5 a6 a7 a8 : Option PV), (∀ p ∈ P, LQ w p.2 ∧ Pw m 3 p.1 ∧ p.2.2 ∣ B) →
    ∃ b4 b5 b6 b7 b8, forN (.tup [4, 5]) (sSeq (sSet 6 (eBin mulV (eBin getV (eVar 5) (eK (.int 0))) (eBin fdivV (eVar 2) (eBin getV (eVar 5) (eK (.int 1))))))
      (sSeq (sFor (.tup [7, 8]) (iZipP (eVar 1) (eVar 4)) (sSet 6 (eBin mulV (eVar 6) (eCall 2 m_ways_out (aCons (eVar 7) (aCons (eVar 8) aNil))))))
      (sAug 3 iaddV (eVar 6)))) [] (P.map partV) [some o, some s, some (.int B), some (.int tot), a4, a5, a6, a7, a8] S
      = .next [some o, some s, some (.int B), some (.int (tot + topF P zs B)), b4, b5, b6, b7, b8] S
  | [], tot, a4, a5, a6, a7, a8, _ => ⟨a4, a5, a6, a7, a8, by rw [List.map_nil, forN_nil (chk_nil _)]; simp [topF]⟩
  | p :: P, tot, a4, a5, a6, a7, a8, hP => by
    obtain ⟨hp, pw, pd⟩ := hP p (List.mem_cons_self ..)
    obtain ⟨f1, f2⟩ := fdiv_le hB hp.p pd
    have m1 : mulOk p.2.1 (B.fdiv p.2.2) = true := mulOk_of (a := w) (b := 9000) hp.t (by omega) hw (by decide) (by omega)
    have d1 : divOk p.2.2 = true := divOk_of (b := w) (by have := hp.p; omega) hp.b hw hw9
    have z1 : ¬ (p.2.2 = 0) := by have := hp.p; omega
    have bq : (p.2.1 * B.fdiv p.2.2).natAbs < 2 ^ (w + 9000) := mul_lt hp.t (by omega)
    have big : w + 9000 + 3 * k * zs.length + 3 * k ≤ 400000 := by
      have h1 : k * zs.length ≤ 1000 * 20 := Nat.mul_le_mul hk hzl
      have h2 : 3 * k * zs.length = 3 * (k * zs.length) := Nat.mul_assoc ..
      omega
    obtain ⟨ρ', i1, i2, i3, i4⟩ := ways_loop (ck := ck) hc hk (t := .tup [7, 8]) (wf := m_ways_out) 6 7 8 (fun n s S h1 h2 => m_ways_out_eq s h1 h2 (by omega) S) (by decide) (by decide) (by decide) zs p.1 (p.2.1 * B.fdiv p.2.2)
      [some o, some s, some (.int B), some (.int tot), some (tI p.1), some (pr p.2), some (.int (p.2.1 * B.fdiv p.2.2)), a7, a8] (w + 9000) hz (pw3 pw) bq (by omega) big (by simp) (by simp) (by simp) rfl
    obtain ⟨c0, c1, c2, c3, c4, c5, c6, c7, c8, rfl⟩ := list9 (by rw [i2]; rfl)
    have e0 := i4 0 (by decide) (by decide) (by decide)
    have e1 := i4 1 (by decide) (by decide) (by decide)
    have e2 := i4 2 (by decide) (by decide) (by decide)
    have e3 := i4 3 (by decide) (by decide) (by decide)
    simp only [List.getElem?_cons_zero, List.getElem?_cons_succ, Option.some.injEq] at e0 e1 e2 e3 i3
    subst e0 e1 e2 e3 i3
    obtain ⟨b4, b5, b6, b7, b8, ih⟩ := top_loop hw hw9 hk o s hs hc hz hzl hB hB9 P (tot + p.2.1 * B.fdiv p.2.2 * wz zs p.1) c4 c5 (some (.int (p.2.1 * B.fdiv p.2.2 * wz zs p.1))) c7 c8 fun x hx => hP x (List.mem_cons_of_mem _ hx)
    refine ⟨b4, b5, b6, b7, b8, ?_⟩
    rw [List.map_cons, forN_next (chk_nil _) (ρ1 := [some o, some s, some (.int B), some (.int tot), some (tI p.1), some (pr p.2), a6, a7, a8]) (ρ' := [some o, some s, some (.int B), some (.int (tot + p.2.1 * B.fdiv p.2.2 * wz zs p.1)), c4, c5, some (.int (p.2.1 * B.fdiv p.2.2 * wz zs p.1)), c7, c8]) (S' := S) rfl ?_, ih]
    · rw [topF_cons, Int.add_assoc]
    · have z2 := iZipP_eq (ca := eVar 1) (cb := eVar 4) (ρ := [some o, some s, some (.int B), some (.int tot), some (tI p.1), some (pr p.2), some (.int (p.2.1 * B.fdiv p.2.2)), a7, a8]) (S := S) (S1 := S) (S2 := S) (x := s) (y := tI p.1) rfl rfl hs (seqC_tup _ _) (by simpa using hc)
      rw [List.append_nil] at z2
      rw [seq_set (x := .int (p.2.1 * B.fdiv p.2.2)) (S1 := S) (by simp [m1, d1, z1])]
      show sSeq (sFor _ _ _) _ [some o, some s, some (.int B), some (.int tot), some (tI p.1), some (pr p.2), some (.int (p.2.1 * B.fdiv p.2.2)), a7, a8] S = _
      rw [seq_for z2 i1]
      rfl
theorem m_top_at_eq {w k m : Nat} (hw : 0 < w) (hw9 : w ≤ 9000) (hk : k ≤ 1000) (P : List Prt) (s : PV) {d : Kd} {zs : List Int} {ck : Chk} {S : Store} (hs : seqC s S = some (d, zs.map .int, ck)) (hc : chk ck S) (hz : Zs k zs) (hzl : zs.length ≤ 20) {B : Int} (hB : 0 < B) (hB9 : B.natAbs < 2 ^ 9000) (hP : ∀ p ∈ P, LQ w p.2 ∧ Pw m 3 p.1 ∧ p.2.2 ∣ B) :
    m_top_at [sumT P, s, .int B] S = .ok (.int (topF P zs B)) S := by
  obtain ⟨b4, b5, b6, b7, b8, e⟩ := top_loop hw hw9 hk (sumT P) s hs hc hz hzl hB hB9 P 0 none none none none none hP
  show outS (b_top_at [some (sumT P), some s, some (.int B), none, none, none, none, none, none] S) = _
  unfold b_top_at
  rw [seq_set (x := .int 0) (S1 := S) rfl]
  show outS (sSeq _ _ [some (sumT P), some s, some (.int B), some (.int 0), none, none, none, none, none] S) = _
  rw [seq_for (S1 := S) (all := P.map partV) (ck := []) rfl e, Int.zero_add]
  rfl
theorem topF_bd {w k m b : Nat} (hw : 0 < w) {zs : List Int} (hz : Zs k zs) {B : Int} (hB : 0 < B) (hB9 : B.natAbs < 2 ^ b) : ∀ (P : List Prt), (∀ p ∈ P, LQ w p.2 ∧ Pw m 3 p.1 ∧ p.2.2 ∣ B) → (topF P zs B).natAbs ≤ P.length * 2 ^ (w + b + 3 * k * zs.length)
  | [], _ => by simp [topF]
  | p :: P, hP => by
    obtain ⟨hp, pw, pd⟩ := hP p (List.mem_cons_self ..)
    obtain ⟨f1, f2⟩ := fdiv_le hB hp.p pd
    have bq : (p.2.1 * B.fdiv p.2.2).natAbs < 2 ^ (w + b) := mul_lt hp.t (by omega)
    obtain ⟨w1, w2⟩ := wz_bd zs p.1 hz
    have ih := topF_bd hw hz hB hB9 P fun x hx => hP x (List.mem_cons_of_mem _ hx)
    have h1 : (p.2.1 * B.fdiv p.2.2 * wz zs p.1).natAbs ≤ 2 ^ (w + b + 3 * k * zs.length) := by
      rw [Int.natAbs_mul, Nat.pow_add 2 (w + b)]
      exact Nat.mul_le_mul (Nat.le_of_lt bq) w1
    rw [topF_cons, List.length_cons, Nat.succ_mul]
    omega

theorem botF_bd {u : Nat} : ∀ (P : List Prt) (f : Int) (k : Nat), 0 < f → f.natAbs < 2 ^ k → (∀ p ∈ P, 0 < p.2.2 ∧ p.2.2.natAbs < 2 ^ u) → (botF P f).natAbs < 2 ^ (k + u * P.length)
  | [], f, k, _, hk, _ => by show f.natAbs < _; simpa using hk
  | p :: P, f, k, h, hk, hP => by
    obtain ⟨p1, p2⟩ := hP p (List.mem_cons_self ..)
    obtain ⟨a1, _, _, a4⟩ := lcm_step h p1
    have q1 := mul_lt hk p2
    have q2 : ((f * p.2.2).fdiv (Int.gcd f p.2.2)).natAbs < 2 ^ (k + u) := by omega
    have ih := botF_bd P _ (k + u) a1 q2 fun x hx => hP x (List.mem_cons_of_mem _ hx)
    have e : k + u + u * P.length = k + u * (p :: P).length := by rw [List.length_cons, Nat.mul_succ]; omega
    rw [← e]
    exact ih

theorem line_loop (l s : PV) (ck : Chk) (S : Store) (hc : chk ck S) {k : Nat} (k0 : 0 < k) (k9 : k ≤ 4000) : ∀ (A B : List Int) (acc : Int) (a3 a4 : Option PV), Bd k A → Bd k B → ∃ b3 b4,
    forN (.tup [3, 4]) (sAug 2 iaddV (eBin mulV (eVar 3) (eVar 4))) ck (zipP (A.map .int) (B.map .int)) [some l, some s, some (.int acc), a3, a4] S = .next [some l, some s, some (.int (acc + dot A B)), b3, b4] S
  | [], B, acc, a3, a4, _, _ => ⟨a3, a4, by rw [List.map_nil, zipP_nil, forN_nil hc]; simp⟩
  | a :: A, [], acc, a3, a4, _, _ => ⟨a3, a4, by rw [List.map_nil, zipP_nil', forN_nil hc]; simp⟩
  | a :: A, b :: B, acc, a3, a4, hA, hB => by
    have m1 : mulOk a b = true := mulOk_of (hA a (List.mem_cons_self ..)) (hB b (List.mem_cons_self ..)) k0 k0 (by omega)
    obtain ⟨b3, b4, e⟩ := line_loop l s ck S hc k0 k9 A B (acc + a * b) (some (.int a)) (some (.int b)) (fun x hx => hA x (List.mem_cons_of_mem _ hx)) (fun x hx => hB x (List.mem_cons_of_mem _ hx))
    refine ⟨b3, b4, ?_⟩
    rw [List.map_cons, List.map_cons, zipP_cons, forN_next hc (ρ1 := [some l, some s, some (.int acc), some (.int a), some (.int b)]) (ρ' := [some l, some s, some (.int (acc + a * b)), some (.int a), some (.int b)]) (S' := S) rfl (by simp [m1]), e, dot_cons, Int.add_assoc]
theorem m_line_at_eq {k : Nat} (k0 : 0 < k) (k9 : k ≤ 4000) (L zs : List Int) (s : PV) (d : Kd) (ck : Chk) (S : Store) (hL : L ≠ []) (hs : seqC s S = some (d, zs.map .int, ck)) (hc : chk ck S) (b1 : Bd k L) (b2 : Bd k zs) : m_line_at [tI L, s] S = .ok (.int (lineV L zs)) S := by
  obtain ⟨a, A, rfl⟩ := List.exists_cons_of_ne_nil hL
  obtain ⟨b3, b4, e⟩ := line_loop (tI (a :: A)) s ([] ++ ck) S hc k0 k9 A zs a none none b1.tail b2
  have hz : iZipP (eSlice (eVar 0) (oSome (eK (.int 1))) oNone) (eVar 1) [some (tI (a :: A)), some s, some (.int a), none, none] S = .ok (zipP (A.map .int) (zs.map .int), [] ++ ck) S :=
    iZipP_eq (d := .t) (S1 := S) (x := .tup (A.map .int)) (y := s) (by simp [sliceV, cut_tail]) (by simp) rfl hs hc
  have g0 : getV (tI (a :: A)) (.int 0) S = .ok (.int a) S := getI_eq (a :: A) 0 S (by simp)
  show outS (b_line_at [some (tI (a :: A)), some s, none, none, none] S) = _
  unfold b_line_at
  rw [seq_set (x := .int a) (S1 := S) (by simp [g0])]
  show outS (sSeq _ _ [some (tI (a :: A)), some s, some (.int a), none, none] S) = _
  rw [seq_for hz e]
  simp [lineV]

end K36

set_option Elab.async false
set_option linter.all false
set_option maxRecDepth 100000
set_option maxHeartbeats 1000000
set_option exponentiation.threshold 40000
namespace K36
open PySem PySem.Spec PyProof.Rows L2 TL
/-! ### sums gathered -/
def qv (p : Int × Int) : Rat := Rat.divInt p.1 p.2
theorem qv_rat {a b : Int} (hb : b ≠ 0) : qv (rat a b) = Rat.divInt a b := by
  have h := (rat_pos a b hb).1
  exact (Rat.divInt_eq_divInt_iff (by omega) hb).mpr (rat_cross a b hb)
theorem low_dvd {a b x : Int} (g : Int.gcd a b = 1) (h : b ∣ a * x) : b ∣ x := by
  have h1 : b.natAbs ∣ a.natAbs * x.natAbs := by
    have := Int.natAbs_dvd_natAbs.mpr h
    rwa [Int.natAbs_mul] at this
  have c : Nat.Coprime b.natAbs a.natAbs := by
    rw [Nat.coprime_comm]
    exact g
  exact Int.natAbs_dvd_natAbs.mp (c.dvd_of_dvd_mul_left h1)
theorem low_inj {p q : Int × Int} (hp : 0 < p.2) (hq : 0 < q.2) (gp : Int.gcd p.1 p.2 = 1) (gq : Int.gcd q.1 q.2 = 1) (h : p.1 * q.2 = q.1 * p.2) : p = q := by
  have d1 : p.2 ∣ q.2 := low_dvd gp ⟨q.1, by rw [h, Int.mul_comm]⟩
  have d2 : q.2 ∣ p.2 := low_dvd gq ⟨p.1, by rw [← h, Int.mul_comm]⟩
  have e2 : p.2 = q.2 := Int.le_antisymm (Int.le_of_dvd hq d1) (Int.le_of_dvd hp d2)
  rw [e2] at h
  have e1 : p.1 = q.1 := Int.eq_of_mul_eq_mul_right (by omega) h
  exact Prod.ext e1 e2
theorem qv_inj {p q : Int × Int} (hp : 0 < p.2) (hq : 0 < q.2) (gp : Int.gcd p.1 p.2 = 1) (gq : Int.gcd q.1 q.2 = 1) (h : qv p = qv q) : p = q :=
  low_inj hp hq gp gq ((Rat.divInt_eq_divInt_iff (by omega) (by omega)).mp h)
theorem qv_zero {p : Int × Int} (hp : 0 < p.2) : qv p = 0 ↔ p.1 = 0 := by
  have e : (0 : Rat) = Rat.divInt 0 1 := (Rat.zero_divInt 1).symm
  rw [e]
  unfold qv
  rw [Rat.divInt_eq_divInt_iff (by omega) (by decide)]
  omega
def dv (D : List Prt) (k : List Int) : Int × Int := (dgetI D k).getD (0, 1)
def qd (D : List Prt) (k : List Int) : Rat := qv (dv D k)
def sumQ : List Prt → List Int → Rat
  | [], _ => 0
  | p :: L, k => (if p.1 = k then qv p.2 else 0) + sumQ L k
theorem sumQ_append (A B : List Prt) (k : List Int) : sumQ (A ++ B) k = sumQ A k + sumQ B k := by
  induction A with
  | nil => show sumQ B k = 0 + sumQ B k; grind
  | cons a A ih => show (if a.1 = k then qv a.2 else 0) + sumQ (A ++ B) k = ((if a.1 = k then qv a.2 else 0) + sumQ A k) + sumQ B k; rw [ih]; grind
theorem sumQ_perm {A B : List Prt} (h : A.Perm B) (k : List Int) : sumQ A k = sumQ B k := by
  induction h with
  | nil => rfl
  | cons x _ ih => show _ + sumQ _ k = _ + sumQ _ k; rw [ih]
  | swap x y l => show (if y.1 = k then qv y.2 else 0) + ((if x.1 = k then qv x.2 else 0) + sumQ l k) = (if x.1 = k then qv x.2 else 0) + ((if y.1 = k then qv y.2 else 0) + sumQ l k); grind
  | trans _ _ i1 i2 => exact i1.trans i2
structure DI (s : Nat) (c : List Int → Nat) (D : List Prt) : Prop where
  u : (D.map (·.1)).Nodup
  b : ∀ k, RB (s * c k + 1) (dv D k)
  g : ∀ k, Int.gcd (dv D k).1 (dv D k).2 = 1
theorem dv_nil (k : List Int) : dv [] k = (0, 1) := rfl
theorem rb01 (k : Nat) : RB (k + 1) (0, 1) := ⟨by show (0 : Int).natAbs < _; exact Nat.pow_pos (by decide), by show (1 : Int).natAbs < _; rw [Nat.pow_succ]; have : 0 < 2 ^ k := Nat.pow_pos (by decide); omega, by show (0 : Int) < 1; decide⟩
theorem DI.nil (s : Nat) : DI s (fun _ => 0) [] := ⟨List.nodup_nil, fun k => rb01 _, fun k => by rw [dv_nil]; rfl⟩
theorem dput_keys {D : List Prt} {k : List Int} {v : Int × Int} : (dputI D k v).map (·.1) = if k ∈ D.map (·.1) then D.map (·.1) else D.map (·.1) ++ [k] := by
  unfold dputI
  by_cases h : k ∈ D.map (·.1)
  · have e : (D.any fun p => decide (p.1 = k)) = true := by
      rw [List.any_eq_true]
      obtain ⟨p, hp, e⟩ := List.mem_map.mp h
      exact ⟨p, hp, decide_eq_true e⟩
    rw [if_pos e, if_pos h, List.map_map]
    refine List.map_congr_left fun p hp => ?_
    show (if p.1 = k then (p.1, v) else p).1 = p.1
    split <;> rfl
  · have e : ¬ (D.any fun p => decide (p.1 = k)) = true := by
      intro z
      rw [List.any_eq_true] at z
      obtain ⟨p, hp, e⟩ := z
      exact h (List.mem_map.mpr ⟨p, hp, of_decide_eq_true e⟩)
    rw [if_neg e, if_neg h, List.map_append]
    rfl
theorem dget_dput (D : List Prt) (k : List Int) (v : Int × Int) (j : List Int) : dgetI (dputI D k v) j = if k = j then some v else dgetI D j := by
  unfold dputI
  split
  · rename_i h
    induction D with
    | nil => simp at h
    | cons a D ih =>
      unfold dgetI at ih ⊢
      rw [List.map_cons, List.find?_cons, List.find?_cons]
      by_cases ha : a.1 = k
      · by_cases hj : k = j
        · subst hj
          simp [ha]
        · have : ¬ a.1 = j := fun e => hj (ha.symm.trans e)
          simp only [ha, if_true, hj, decide_false, if_false]
          by_cases h2 : (D.any fun p => decide (p.1 = k)) = true
          · have := ih h2
            simp only [hj, if_false] at this
            exact this
          · congr 1
            have e : D.map (fun p => if p.1 = k then (p.1, v) else p) = D := by
              conv => rhs; rw [← List.map_id D]
              refine List.map_congr_left fun p hp => ?_
              have : ¬ p.1 = k := fun e => h2 (List.any_eq_true.mpr ⟨p, hp, decide_eq_true e⟩)
              simp [this]
            rw [e]
      · have h2 : (D.any fun p => decide (p.1 = k)) = true := by
          rw [List.any_cons] at h
          simpa [ha] using h
        have := ih h2
        simp only [ha, if_false]
        by_cases hj : a.1 = j
        · have : ¬ k = j := fun e => ha (hj.trans e.symm)
          simp [hj, this]
        · simp only [hj, decide_false]
          exact this
  · rename_i h
    have hn : k ∉ D.map (·.1) := fun z => by
      obtain ⟨p, hp, e⟩ := List.mem_map.mp z
      exact h (List.any_eq_true.mpr ⟨p, hp, decide_eq_true e⟩)
    unfold dgetI
    rw [List.find?_append]
    cases q : D.find? (fun p => decide (p.1 = j)) with
    | none =>
      by_cases hj : k = j
      · simp [hj]
      · simp [hj]
    | some p =>
      have h3 : p.1 = j := of_decide_eq_true (List.find?_some (p := fun p : Prt => decide (p.1 = j)) q)
      have hm := List.mem_of_find?_eq_some q
      have : ¬ k = j := fun e => hn (by rw [e, ← h3]; exact List.mem_map.mpr ⟨p, hm, rfl⟩)
      simp [this]
theorem dput_len (D : List Prt) (k : List Int) (v : Int × Int) : (dputI D k v).length ≤ D.length + 1 := by
  have h := congrArg List.length (dput_keys (D := D) (k := k) (v := v))
  rw [List.length_map] at h
  rw [h]
  split
  · rw [List.length_map]; omega
  · rw [List.length_append, List.length_map]; simp
/-- one share more -/
def addQ (v q : Int × Int) : Int × Int := rat (v.1 * q.2 + q.1 * v.2) (v.2 * q.2)
def putQ (D : List Prt) (p : Prt) : List Prt := dputI D p.1 (addQ (dv D p.1) p.2)
theorem qv_add {v q : Int × Int} (hv : 0 < v.2) (hq : 0 < q.2) : qv (addQ v q) = qv v + qv q := by
  have h := Int.mul_pos hv hq
  unfold addQ
  rw [qv_rat (by omega)]
  exact (Rat.divInt_add_divInt v.1 q.1 (by omega) (by omega)).symm
def bump (c : List Int → Nat) (k : List Int) : List Int → Nat := fun j => if k = j then c j + 1 else c j
theorem dv_put (D : List Prt) (p : Prt) (j : List Int) : dv (putQ D p) j = if p.1 = j then addQ (dv D p.1) p.2 else dv D j := by
  unfold putQ dv
  rw [dget_dput]
  split <;> rfl
theorem DI.put {s t : Nat} {c : List Int → Nat} {D : List Prt} (h : DI s c D) {p : Prt} (hp : RB t p.2) (ht : t + 1 ≤ s) : DI s (bump c p.1) (putQ D p) := by
  have hb := h.b p.1
  have h2 := Int.mul_pos hb.p hp.p
  refine ⟨?_, fun k => ?_, fun k => ?_⟩
  · unfold putQ
    rw [dput_keys]
    split
    · exact h.u
    · rename_i hn
      rw [List.nodup_append]
      refine ⟨h.u, by simp, fun a ha b hb => ?_⟩
      have hb' : b = p.1 := by simpa using hb
      intro e
      rw [e, hb'] at ha
      exact hn ha
  · rw [dv_put]
    by_cases e : p.1 = k
    · subst e
      have ec : s * bump c p.1 p.1 + 1 = (s * c p.1 + 1) + s := by
        unfold bump
        rw [if_pos rfl, Nat.mul_add]
        omega
      rw [if_pos rfl, ec]
      obtain ⟨l1, l2⟩ := rat_le ((dv D p.1).1 * p.2.2 + p.2.1 * (dv D p.1).2) ((dv D p.1).2 * p.2.2) (by omega)
      have q1 := mul_lt hb.t hp.b
      have q2 := mul_lt hp.t hb.b
      have q3 := mul_lt hb.b hp.b
      rw [Nat.add_comm t] at q2
      have up : (2 : Nat) ^ (s * c p.1 + 1 + t) * 2 ≤ 2 ^ (s * c p.1 + 1 + s) := by
        rw [← Nat.pow_succ]
        exact Nat.pow_le_pow_right (by decide) (by omega)
      exact ⟨by show (addQ _ _).1.natAbs < _; unfold addQ; omega, by show (addQ _ _).2.natAbs < _; unfold addQ; omega, (rat_pos _ _ (by omega)).1⟩
    · rw [if_neg e]
      have : bump c p.1 k = c k := by unfold bump; rw [if_neg e]
      rw [this]
      exact h.b k
  · rw [dv_put]
    split
    · exact (rat_pos _ _ (by omega)).2
    · exact h.g k
theorem qd_put {s : Nat} {c : List Int → Nat} {D : List Prt} (h : DI s c D) {p : Prt} {t : Nat} (hp : RB t p.2) (k : List Int) : qd (putQ D p) k = qd D k + if p.1 = k then qv p.2 else 0 := by
  unfold qd
  rw [dv_put]
  split
  · rename_i e
    rw [qv_add (h.b p.1).p hp.p, e]
  · grind
def cnt (L : List Prt) (k : List Int) : Nat := (L.filter fun p => decide (p.1 = k)).length
theorem cnt_le (L : List Prt) (k : List Int) : cnt L k ≤ L.length := List.length_filter_le ..
theorem cnt_cons (p : Prt) (L : List Prt) (k : List Int) : cnt (p :: L) k = (if p.1 = k then 1 else 0) + cnt L k := by
  unfold cnt
  rw [List.filter_cons]
  by_cases e : p.1 = k
  · simp [e]; omega
  · simp [e]
def foldQ (D : List Prt) : List Prt → List Prt
  | [] => D
  | p :: L => foldQ (putQ D p) L
theorem foldQ_ok {s t : Nat} (ht : t + 1 ≤ s) : ∀ (L D : List Prt) (c : List Int → Nat), DI s c D → (∀ p ∈ L, RB t p.2) → DI s (fun k => c k + cnt L k) (foldQ D L) ∧ (∀ k, qd (foldQ D L) k = qd D k + sumQ L k) ∧ (∀ k ∈ (foldQ D L).map (·.1), k ∈ D.map (·.1) ∨ k ∈ L.map (·.1)) ∧ (foldQ D L).length ≤ D.length + L.length
  | [], D, c, h, _ => ⟨h, fun k => by show qd D k = qd D k + 0; grind, fun k hk => .inl hk, by show D.length ≤ _; simp⟩
  | p :: L, D, c, h, hL => by
    have hp := hL p (List.mem_cons_self ..)
    obtain ⟨i1, i2, i3, i4⟩ := foldQ_ok ht L (putQ D p) (bump c p.1) (h.put hp ht) fun x hx => hL x (List.mem_cons_of_mem _ hx)
    refine ⟨?_, fun k => ?_, fun k hk => ?_, ?_⟩
    · have e : (fun k => bump c p.1 k + cnt L k) = fun k => c k + cnt (p :: L) k := by
        funext k
        rw [cnt_cons]
        unfold bump
        by_cases q : p.1 = k
        · simp [q]; omega
        · simp [q]
      rw [← e]
      exact i1
    · rw [show foldQ D (p :: L) = foldQ (putQ D p) L from rfl, i2, qd_put h hp]
      show _ = qd D k + ((if p.1 = k then qv p.2 else 0) + sumQ L k)
      grind
    · rcases i3 k hk with z | z
      · unfold putQ at z
        rw [dput_keys] at z
        split at z
        · exact .inl z
        · rcases List.mem_append.mp z with y | y
          · exact .inl y
          · exact .inr (by rw [List.mem_singleton.mp y]; exact List.mem_cons_self ..)
      · exact .inr (List.mem_cons_of_mem _ z)
    · have := dput_len D p.1 (addQ (dv D p.1) p.2)
      show (foldQ (putQ D p) L).length ≤ _
      rw [List.length_cons]
      unfold putQ at i4 ⊢
      omega
/-- the keys with something at them, in order, with it -/
def nzK (D : List Prt) : List (List Int) := (srt (D.map (·.1))).filter fun k => decide ((dv D k).1 ≠ 0)
def toldz (D : List Prt) : List Prt := (nzK D).map fun k => (k, dv D k)
theorem nzK_mem {s : Nat} {c : List Int → Nat} {D : List Prt} (h : DI s c D) (k : List Int) : k ∈ nzK D ↔ qd D k ≠ 0 := by
  unfold nzK qd
  rw [List.mem_filter, srt_mem]
  constructor
  · rintro ⟨_, z⟩ y
    exact of_decide_eq_true z ((qv_zero (h.b k).p).mp y)
  · intro z'
    have z : ¬ (dv D k).1 = 0 := fun y => z' ((qv_zero (h.b k).p).mpr y)
    refine ⟨?_, decide_eq_true z⟩
    by_cases q : k ∈ D.map (·.1)
    · exact q
    · have : dgetI D k = none := dgetI_none.mpr q
      unfold dv at z
      rw [this] at z
      exact absurd rfl z
theorem nzK_nodup {D : List Prt} (h : (D.map (·.1)).Nodup) : (nzK D).Nodup := List.Pairwise.filter _ ((srt_perm _).nodup_iff.mpr h)
theorem nzK_pw (D : List Prt) : (nzK D).Pairwise (fun a b => lexLe a b = true) := List.Pairwise.filter _ (srt_pw _)
theorem toldz_eq {s s' : Nat} {c c' : List Int → Nat} {D E : List Prt} (h : DI s c D) (h' : DI s' c' E) (e : ∀ k, qd D k = qd E k) : toldz D = toldz E := by
  have ek : nzK D = nzK E := List.Perm.eq_of_pairwise (fun a b _ _ h1 h2 => lexLe_anti a b h1 h2) (nzK_pw D) (nzK_pw E) ((List.perm_ext_iff_of_nodup (nzK_nodup h.u) (nzK_nodup h'.u)).mpr fun k => by rw [nzK_mem h, nzK_mem h', e])
  unfold toldz
  rw [ek]
  refine List.map_congr_left fun k hk => ?_
  rw [qv_inj (h.b k).p (h'.b k).p (h.g k) (h'.g k) (e k)]
theorem sumQ_map (g : List Int → Int × Int) (k : List Int) : ∀ ks : List (List Int), ks.Nodup → sumQ (ks.map fun j => (j, g j)) k = if k ∈ ks then qv (g k) else 0
  | [], _ => by simp [sumQ]
  | j :: ks, hn => by
    rw [List.nodup_cons] at hn
    rw [List.map_cons]
    show (if j = k then qv (g j) else 0) + sumQ (ks.map fun j => (j, g j)) k = _
    rw [sumQ_map g k ks hn.2]
    by_cases e : j = k
    · subst e
      simp [hn.1]
      grind
    · have : ¬ k = j := fun z => e z.symm
      simp [e, this]
      split <;> grind
theorem sumQ_told {s : Nat} {c : List Int → Nat} {D : List Prt} (h : DI s c D) (k : List Int) : sumQ (toldz D) k = qd D k := by
  unfold toldz
  rw [sumQ_map (dv D) k _ (nzK_nodup h.u)]
  by_cases e : k ∈ nzK D
  · rw [if_pos e]; rfl
  · rw [if_neg e]
    exact (Classical.not_not.mp fun z => e ((nzK_mem h k).mpr z)).symm
theorem toldz_cnt (D : List Prt) (h : (D.map (·.1)).Nodup) (k : List Int) : cnt (toldz D) k ≤ 1 := by
  unfold toldz
  have hn := nzK_nodup h
  generalize nzK D = ks at hn
  induction ks with
  | nil => simp [cnt]
  | cons a ks ih =>
    rw [List.nodup_cons] at hn
    rw [List.map_cons, cnt_cons]
    by_cases e : a = k
    · subst e
      have z : cnt (ks.map fun k => (k, dv D k)) a = 0 := by
        unfold cnt
        rw [List.length_eq_zero_iff, List.filter_eq_nil_iff]
        intro p hp q
        obtain ⟨j, hj, rfl⟩ := List.mem_map.mp hp
        have e2 : j = a := of_decide_eq_true q
        rw [e2] at hj
        exact hn.1 hj
      rw [z]
      simp
    · have := ih hn.2
      simp only [e, if_false]
      omega
theorem toldz_mem {D : List Prt} {p : Prt} (h : p ∈ toldz D) : p.2 = dv D p.1 ∧ p.1 ∈ D.map (·.1) := by
  unfold toldz at h
  obtain ⟨k, hk, rfl⟩ := List.mem_map.mp h
  unfold nzK at hk
  exact ⟨rfl, srt_mem.mp (List.mem_filter.mp hk).1⟩

end K36

set_option Elab.async false
set_option linter.all false
set_option maxRecDepth 100000
set_option maxHeartbeats 1000000
set_option exponentiation.threshold 40000
namespace K36
open PySem PySem.Spec PyProof.Rows L2 TL
/-! ### the mathematics of laying lines in: ways to take out, their differences -/
def bin : Nat → Nat → Nat
  | _, 0 => 1
  | 0, _ + 1 => 0
  | n + 1, k + 1 => bin n k + bin n (k + 1)
@[simp] theorem bin_z (n : Nat) : bin n 0 = 1 := by cases n <;> rfl
@[simp] theorem bin_0s (k : Nat) : bin 0 (k + 1) = 0 := rfl
theorem bin_ss (n k : Nat) : bin (n + 1) (k + 1) = bin n k + bin n (k + 1) := rfl
theorem bin_1 : ∀ n : Nat, bin n 1 = n
  | 0 => rfl
  | n + 1 => by rw [bin_ss, bin_z, bin_1 n]; omega
theorem W_bin : ∀ (n k : Nat), k ≤ 3 → W n k = (bin n k : Int)
  | n, 0, _ => by rw [bin_z]; rfl
  | n, 1, _ => by rw [bin_1]; rfl
  | 0, 2, _ => rfl
  | n + 1, 2, _ => by
    have ih := W_bin n 2 (by omega)
    show T2 n + (n : Int) = _
    rw [show T2 n = W n 2 from rfl, ih, bin_ss, bin_1]
    push_cast
    omega
  | 0, 3, _ => rfl
  | n + 1, 3, _ => by
    have ih := W_bin n 3 (by omega)
    have ih2 := W_bin n 2 (by omega)
    show T3 n + T2 n = _
    rw [show T3 n = W n 3 from rfl, show T2 n = W n 2 from rfl, ih, ih2, bin_ss]
    push_cast
    omega
/-- one size, L differences taken -/
def lv (L n k : Nat) : Int := if min n L ≤ k then (bin (n - min n L) (k - min n L) : Int) else 0
theorem lv_0 (n k : Nat) : lv 0 n k = (bin n k : Int) := by unfold lv; simp
theorem lv_lt {L n k : Nat} (h : n ≤ L) : lv (L + 1) n k = lv L n k := by
  unfold lv
  rw [show min n (L + 1) = n by omega, show min n L = n by omega]
theorem lv_step {L n k : Nat} (h : L ≤ n) : lv L (n + 1) k - lv L n k = lv (L + 1) (n + 1) k := by
  unfold lv
  rw [show min (n + 1) L = L by omega, show min n L = L by omega, show min (n + 1) (L + 1) = L + 1 by omega]
  by_cases h1 : L + 1 ≤ k
  · rw [if_pos (by omega), if_pos (by omega), if_pos h1]
    obtain ⟨j, rfl⟩ : ∃ j, k = L + 1 + j := ⟨k - (L + 1), by omega⟩
    rw [show n + 1 - L = (n - L) + 1 by omega, show L + 1 + j - L = j + 1 by omega, show n + 1 - (L + 1) = n - L by omega, show L + 1 + j - (L + 1) = j by omega, bin_ss]
    push_cast
    omega
  · rw [if_neg h1]
    by_cases h2 : L ≤ k
    · rw [if_pos h2, if_pos h2, show k - L = 0 by omega, bin_z, bin_z]
      rfl
    · rw [if_neg h2, if_neg h2]
      rfl
theorem lv_far {L n k : Nat} (h : n ≤ L) : lv L n k = if n = k then 1 else 0 := by
  unfold lv
  rw [show min n L = n by omega, Nat.sub_self]
  by_cases h1 : n ≤ k
  · rw [if_pos h1]
    by_cases h2 : n = k
    · rw [if_pos h2, h2, Nat.sub_self]; rfl
    · rw [if_neg h2]
      obtain ⟨j, hj⟩ : ∃ j, k - n = j + 1 := ⟨k - n - 1, by omega⟩
      rw [hj]; rfl
  · rw [if_neg h1, if_neg (by omega)]
/-- the ways of powers -/
def plain : List Nat → List Nat → Int
  | n :: ns, k :: ks => (bin n k : Int) * plain ns ks
  | _, _ => 1
/-- the same, the sizes ahead of t done, at t L differences taken -/
def bas : Nat → Nat → List Nat → List Nat → Int
  | 0, L, n :: ns, k :: ks => lv L n k * plain ns ks
  | t + 1, L, n :: ns, k :: ks => (if n = k then 1 else 0) * bas t L ns ks
  | _, _, _, _ => 1
theorem bas_0 (ns ks : List Nat) : bas 0 0 ns ks = plain ns ks := by
  cases ns with
  | nil => cases ks <;> rfl
  | cons n ns =>
    cases ks with
    | nil => rfl
    | cons k ks =>
      show lv 0 n k * plain ns ks = _
      rw [lv_0]
      rfl
theorem bas_next {L : Nat} : ∀ {t : Nat} {ns ks : List Nat}, (∀ n ∈ ns, n ≤ L) → bas t L ns ks = bas (t + 1) 0 ns ks
  | 0, [], ks, _ => by cases ks <;> rfl
  | 0, n :: ns, [], _ => rfl
  | 0, n :: ns, k :: ks, h => by
    show lv L n k * plain ns ks = (if n = k then 1 else 0) * bas 0 0 ns ks
    rw [lv_far (h n (List.mem_cons_self ..)), bas_0]
  | t + 1, [], ks, _ => by cases ks <;> rfl
  | t + 1, n :: ns, [], _ => rfl
  | t + 1, n :: ns, k :: ks, h => by
    show (if n = k then 1 else 0) * bas t L ns ks = (if n = k then 1 else 0) * bas (t + 1) 0 ns ks
    rw [bas_next fun x hx => h x (List.mem_cons_of_mem _ hx)]
theorem bas_done : ∀ {t : Nat} {ns ks : List Nat}, ns.length = ks.length → ns.length ≤ t → bas t 0 ns ks = if ns = ks then 1 else 0
  | 0, [], [], _, _ => rfl
  | t + 1, [], [], _, _ => rfl
  | t, [], k :: ks, h, _ => by simp at h
  | t, n :: ns, [], h, _ => by simp at h
  | 0, n :: ns, k :: ks, _, h => by simp at h
  | t + 1, n :: ns, k :: ks, h, h2 => by
    show (if n = k then 1 else 0) * bas t 0 ns ks = _
    rw [bas_done (by simpa using h) (by simpa using h2)]
    by_cases h1 : n = k <;> by_cases h3 : ns = ks <;> simp [h1, h3]
/-- one less at a place -/
def dec (t : Nat) (s : List Nat) : List Nat := s.set t (s.getD t 0 - 1)
theorem bas_pass {L : Nat} : ∀ {t : Nat} {ns ks : List Nat}, ns.length = ks.length → L + 1 ≤ ns.getD t 0 → bas t L ns ks - bas t L (dec t ns) ks = bas t (L + 1) ns ks
  | t, [], ks, _, h => by simp at h
  | t, n :: ns, [], h, _ => by simp at h
  | 0, n :: ns, k :: ks, _, h => by
    have h' : L + 1 ≤ n := h
    obtain ⟨m, rfl⟩ : ∃ m, n = m + 1 := ⟨n - 1, by omega⟩
    show lv L (m + 1) k * plain ns ks - lv L (m + 1 - 1) k * plain ns ks = lv (L + 1) (m + 1) k * plain ns ks
    rw [← lv_step (by omega), Int.sub_mul]
    rfl
  | t + 1, n :: ns, k :: ks, hl, h => by
    have ih := bas_pass (L := L) (t := t) (ns := ns) (ks := ks) (by simpa using hl) h
    show (if n = k then 1 else 0) * bas t L ns ks - (if n = k then 1 else 0) * bas t L (dec t ns) ks = (if n = k then 1 else 0) * bas t (L + 1) ns ks
    rw [← Int.mul_sub, ih]
theorem bas_keep {L : Nat} : ∀ {t : Nat} {ns ks : List Nat}, ns.getD t 0 ≤ L → bas t (L + 1) ns ks = bas t L ns ks
  | 0, [], ks, _ => by cases ks <;> rfl
  | t + 1, [], ks, _ => by cases ks <;> rfl
  | 0, n :: ns, [], _ => rfl
  | t + 1, n :: ns, [], _ => rfl
  | 0, n :: ns, k :: ks, h => by
    have h' : n ≤ L := h
    show lv (L + 1) n k * plain ns ks = lv L n k * plain ns ks
    rw [lv_lt h']
  | t + 1, n :: ns, k :: ks, h => by
    show (if n = k then 1 else 0) * bas t (L + 1) ns ks = (if n = k then 1 else 0) * bas t L ns ks
    rw [bas_keep (t := t) (ns := ns) (ks := ks) h]
/-! ### told by coefficients -/
abbrev Co := List (List Nat × Int)
def isum {α : Type} (f : α → Int) : List α → Int
  | [] => 0
  | x :: xs => f x + isum f xs
theorem isum_app {α : Type} (f : α → Int) : ∀ xs ys : List α, isum f (xs ++ ys) = isum f xs + isum f ys
  | [], ys => by show isum f ys = 0 + isum f ys; omega
  | x :: xs, ys => by
    show f x + isum f (xs ++ ys) = f x + isum f xs + isum f ys
    rw [isum_app f xs ys]; omega
theorem isum_congr {α : Type} {f g : α → Int} : ∀ {xs : List α}, (∀ x ∈ xs, f x = g x) → isum f xs = isum g xs
  | [], _ => rfl
  | x :: xs, h => by
    show f x + isum f xs = g x + isum g xs
    rw [h x (List.mem_cons_self ..), isum_congr fun y hy => h y (List.mem_cons_of_mem _ hy)]
theorem isum_sub {α : Type} (f g : α → Int) : ∀ xs : List α, isum f xs - isum g xs = isum (fun x => f x - g x) xs
  | [] => rfl
  | x :: xs => by
    show f x + isum f xs - (g x + isum g xs) = f x - g x + isum (fun x => f x - g x) xs
    rw [← isum_sub f g xs]; omega
theorem isum_add {α : Type} (f g : α → Int) : ∀ xs : List α, isum f xs + isum g xs = isum (fun x => f x + g x) xs
  | [] => rfl
  | x :: xs => by
    show f x + isum f xs + (g x + isum g xs) = f x + g x + isum (fun x => f x + g x) xs
    rw [← isum_add f g xs]; omega
theorem isum_mul {α : Type} (f : α → Int) (c : Int) : ∀ xs : List α, c * isum f xs = isum (fun x => c * f x) xs
  | [] => Int.mul_zero _
  | x :: xs => by
    show c * (f x + isum f xs) = c * f x + isum (fun x => c * f x) xs
    rw [← isum_mul f c xs, Int.mul_add]
theorem isum_map {α β : Type} (f : β → Int) (g : α → β) : ∀ xs : List α, isum f (xs.map g) = isum (fun x => f (g x)) xs
  | [] => rfl
  | x :: xs => by
    show f (g x) + isum f (xs.map g) = _
    rw [isum_map f g xs]; rfl
theorem isum_zero {α : Type} {f : α → Int} : ∀ {xs : List α}, (∀ x ∈ xs, f x = 0) → isum f xs = 0
  | [], _ => rfl
  | x :: xs, h => by
    show f x + isum f xs = 0
    rw [h x (List.mem_cons_self ..), isum_zero fun y hy => h y (List.mem_cons_of_mem _ hy)]; rfl
theorem isum_swap {α β : Type} (f : α → β → Int) : ∀ (xs : List α) (ys : List β), isum (fun x => isum (f x) ys) xs = isum (fun y => isum (fun x => f x y) xs) ys
  | [], ys => (isum_zero fun _ _ => rfl).symm
  | x :: xs, ys => by
    show isum (f x) ys + isum (fun x => isum (f x) ys) xs = isum (fun y => f x y + isum (fun x => f x y) xs) ys
    rw [isum_swap f xs ys, isum_add]
theorem isum_nn {α : Type} {f : α → Int} : ∀ {xs : List α}, (∀ x ∈ xs, 0 ≤ f x) → 0 ≤ isum f xs
  | [], _ => Int.le_refl _
  | x :: xs, h => Int.add_nonneg (h x (List.mem_cons_self ..)) (isum_nn fun y hy => h y (List.mem_cons_of_mem _ hy))
theorem isum_sum {α : Type} (f : α → Int) : ∀ xs : List α, (xs.map f).sum = isum f xs
  | [] => rfl
  | x :: xs => by rw [List.map_cons, List.sum_cons, isum_sum f xs]; rfl
/-- the one that is x, of unlike ones -/
theorem isum_one {α : Type} [DecidableEq α] {f : α → Int} : ∀ {xs : List α} {x : α}, xs.Nodup → x ∈ xs → isum (fun y => if y = x then f y else 0) xs = f x
  | [], x, _, h => by cases h
  | y :: ys, x, nd, h => by
    rw [List.nodup_cons] at nd
    show (if y = x then f y else 0) + isum _ ys = f x
    by_cases e : y = x
    · subst e
      rw [if_pos rfl, isum_zero]
      · omega
      · intro z hz
        rw [if_neg]
        intro e
        exact nd.1 (e ▸ hz)
    · rw [if_neg e, isum_one nd.2 ((List.mem_cons.mp h).resolve_left (Ne.symm e))]
      omega
def val (C : Co) (t L : Nat) (s : List Nat) : Int := isum (fun p : List Nat × Int => p.2 * bas t L s p.1) C
def coef (C : Co) (s : List Nat) : Int := isum (fun p : List Nat × Int => if p.1 = s then p.2 else 0) C
def valC (C : Co) (s : List Nat) : Int := isum (fun p : List Nat × Int => p.2 * plain s p.1) C
/-! ### the passes -/
def updF (T : List Nat → Int) (s : List Nat) (v : Int) : List Nat → Int := fun r => if r = s then v else T r
def step1 (t L : Nat) (T : List Nat → Int) (s : List Nat) : List Nat → Int := if L ≤ s.getD t 0 then updF T s (T s - T (dec t s)) else T
def new1 (t L : Nat) (T : List Nat → Int) (s : List Nat) : Int := if L ≤ s.getD t 0 then T s - T (dec t s) else T s
theorem step1_at {t L : Nat} {T : List Nat → Int} {s : List Nat} : step1 t L T s s = new1 t L T s := by
  unfold step1 new1
  split
  · unfold updF; rw [if_pos rfl]
  · rfl
theorem step1_ne {t L : Nat} {T : List Nat → Int} {s r : List Nat} (h : r ≠ s) : step1 t L T s r = T r := by
  unfold step1
  split
  · unfold updF; rw [if_neg h]
  · rfl
theorem pass_ok (t L : Nat) : ∀ (rs : List (List Nat)) (T : List Nat → Int), rs.Pairwise (fun x y => y ≠ x ∧ (L ≤ y.getD t 0 → dec t y ≠ x)) →
    (∀ s ∈ rs, rs.foldl (step1 t L) T s = new1 t L T s) ∧ ∀ s, s ∉ rs → rs.foldl (step1 t L) T s = T s
  | [], T, _ => ⟨fun s hs => (nomatch hs), fun s _ => rfl⟩
  | x :: rs, T, h => by
    rw [List.pairwise_cons] at h
    obtain ⟨i1, i2⟩ := pass_ok t L rs (step1 t L T x) h.2
    refine ⟨fun s hs => ?_, fun s hs => ?_⟩
    · show rs.foldl (step1 t L) (step1 t L T x) s = _
      rcases List.mem_cons.mp hs with e | e
      · subst e
        rw [i2 s (fun z => (h.1 s z).1 rfl), step1_at]
      · rw [i1 s e]
        obtain ⟨h1, h2⟩ := h.1 s e
        unfold new1
        rw [step1_ne h1]
        by_cases q : L ≤ s.getD t 0
        · rw [if_pos q, if_pos q, step1_ne (h2 q)]
        · rw [if_neg q, if_neg q]
    · show rs.foldl (step1 t L) (step1 t L T x) s = _
      rw [List.mem_cons, not_or] at hs
      rw [i2 s hs.2, step1_ne hs.1]
/-- the spots: powers that come to d at most -/
structure Spots (m d : Nat) (ss : List (List Nat)) : Prop where
  mem : ∀ s, s ∈ ss ↔ s.length = m ∧ s.sum ≤ d
  lex : ss.Pairwise (fun a b => a < b)
theorem lex_irr {a : List Nat} : ¬ a < a := List.lt_irrefl a
theorem dec_lt : ∀ {t : Nat} {s : List Nat}, 1 ≤ s.getD t 0 → dec t s < s
  | t, [], h => by simp at h
  | 0, n :: s, h => by
    have h' : 1 ≤ n := h
    show (n - 1) :: s < n :: s
    exact List.Lex.rel (Nat.sub_lt h' (by decide))
  | t + 1, n :: s, h => by
    show n :: dec t s < n :: s
    exact List.Lex.cons (dec_lt (t := t) (s := s) h)
theorem sum_set_dec : ∀ {t : Nat} {s : List Nat}, 1 ≤ s.getD t 0 → (dec t s).sum + 1 = s.sum
  | t, [], h => by simp at h
  | 0, n :: s, h => by
    have h' : 1 ≤ n := h
    show ((n - 1) :: s).sum + 1 = _
    rw [List.sum_cons, List.sum_cons]
    omega
  | t + 1, n :: s, h => by
    show (n :: dec t s).sum + 1 = _
    rw [List.sum_cons, List.sum_cons, Nat.add_assoc, sum_set_dec (t := t) (s := s) h]
theorem Spots.decs {m d t : Nat} {ss : List (List Nat)} (h : Spots m d ss) {s : List Nat} (hs : s ∈ ss) (ht : 1 ≤ s.getD t 0) : dec t s ∈ ss := by
  obtain ⟨h1, h2⟩ := (h.mem s).mp hs
  have h3 : (dec t s).length = m := by
    show (s.set _ _).length = m
    rw [List.length_set]
    exact h1
  have := sum_set_dec ht
  exact (h.mem _).mpr ⟨h3, by omega⟩
theorem lex_tr {a b c : List Nat} (h : a < b) (k : b < c) : a < c := List.lt_trans h k
theorem Spots.rev {m d : Nat} {ss : List (List Nat)} (h : Spots m d ss) (t L : Nat) : ss.reverse.Pairwise (fun x y => y ≠ x ∧ (L + 1 ≤ y.getD t 0 → dec t y ≠ x)) := by
  rw [List.pairwise_reverse]
  refine h.lex.imp fun {a b} hab => ⟨fun e => lex_irr (e ▸ hab), fun ht e => ?_⟩
  have := dec_lt (t := t) (s := a) (by omega)
  rw [e] at this
  exact lex_irr (lex_tr this hab)
/-- levels 1 to n of a size -/
def lvls (ss : List (List Nat)) (t n : Nat) (T : List Nat → Int) : List Nat → Int := (List.range n).foldl (fun T L => ss.reverse.foldl (step1 t (L + 1)) T) T
def axes (ss : List (List Nat)) (m n : Nat) (T : List Nat → Int) : List Nat → Int := (List.range m).foldl (fun T t => lvls ss t n T) T
theorem lvls_ok {m d : Nat} {ss : List (List Nat)} (h : Spots m d ss) {C : Co} (hC : ∀ p ∈ C, p.1.length = m) (t : Nat) (T : List Nat → Int) (h0 : ∀ s ∈ ss, T s = val C t 0 s) : ∀ n : Nat, ∀ s ∈ ss, lvls ss t n T s = val C t n s
  | 0, s, hs => h0 s hs
  | n + 1, s, hs => by
    have ih := lvls_ok h hC t T h0 n
    unfold lvls
    rw [List.range_succ, List.foldl_append]
    show ss.reverse.foldl (step1 t (n + 1)) (lvls ss t n T) s = _
    rw [(pass_ok t (n + 1) ss.reverse _ (h.rev t n)).1 s (List.mem_reverse.mpr hs)]
    have hl := ((h.mem s).mp hs).1
    unfold new1
    by_cases q : n + 1 ≤ s.getD t 0
    · rw [if_pos q, ih s hs, ih _ (h.decs hs (by omega))]
      unfold val
      rw [isum_sub]
      refine isum_congr fun p hp => ?_
      rw [← Int.mul_sub, bas_pass (by rw [hl, hC p hp]) q]
    · rw [if_neg q, ih s hs]
      unfold val
      refine isum_congr fun p hp => ?_
      rw [bas_keep (by omega)]
theorem le_sum : ∀ {s : List Nat} {n : Nat}, n ∈ s → n ≤ s.sum
  | x :: s, n, h => by
    rw [List.sum_cons]
    rcases List.mem_cons.mp h with e | e
    · omega
    · have := le_sum e; omega
theorem axes_ok {m d : Nat} {ss : List (List Nat)} (h : Spots m d ss) {C : Co} (hC : ∀ p ∈ C, p.1.length = m) (T : List Nat → Int) (h0 : ∀ s ∈ ss, T s = valC C s) : ∀ n : Nat, ∀ s ∈ ss, axes ss n d T s = val C n 0 s
  | 0, s, hs => by
    show T s = _
    rw [h0 s hs]
    exact isum_congr fun p _ => by rw [bas_0]
  | n + 1, s, hs => by
    have ih := axes_ok h hC T h0 n
    unfold axes
    rw [List.range_succ, List.foldl_append]
    show lvls ss n d (axes ss n d T) s = _
    rw [lvls_ok h hC n _ ih d s hs]
    refine isum_congr fun p _ => ?_
    rw [bas_next]
    intro x hx
    have := ((h.mem s).mp hs).2
    have := le_sum hx
    omega
/-- what is left at the end: the coefficients -/
theorem axes_coef {m d : Nat} {ss : List (List Nat)} (h : Spots m d ss) {C : Co} (hC : ∀ p ∈ C, p.1.length = m) (T : List Nat → Int) (h0 : ∀ s ∈ ss, T s = valC C s) (s : List Nat) (hs : s ∈ ss) : axes ss m d T s = coef C s := by
  rw [axes_ok h hC T h0 m s hs]
  have hl := ((h.mem s).mp hs).1
  refine isum_congr fun p hp => ?_
  rw [bas_done (by rw [hl, hC p hp]) (by omega)]
  by_cases q : p.1 = s
  · rw [if_pos q, if_pos q.symm, Int.mul_one]
  · rw [if_neg q, if_neg (Ne.symm q), Int.mul_zero]
theorem Spots.nd {m d : Nat} {ss : List (List Nat)} (h : Spots m d ss) : ss.Nodup := h.lex.imp fun {a b} hab => fun (e : a = b) => lex_irr (e ▸ hab)
/-- a sum by its coefficients -/
theorem val_coef {m d : Nat} {ss : List (List Nat)} (h : Spots m d ss) {C : Co} (hC : ∀ p ∈ C, p.1.length = m ∧ p.1.sum ≤ d) (n : List Nat) : isum (fun s => coef C s * plain n s) ss = valC C n := by
  have e1 : isum (fun s => coef C s * plain n s) ss = isum (fun s => isum (fun p : List Nat × Int => if p.1 = s then p.2 * plain n p.1 else 0) C) ss := by
    refine isum_congr fun s _ => ?_
    unfold coef
    rw [Int.mul_comm, isum_mul]
    refine isum_congr fun p _ => ?_
    by_cases q : p.1 = s
    · rw [if_pos q, if_pos q, q, Int.mul_comm]
    · rw [if_neg q, if_neg q, Int.mul_zero]
  rw [e1, isum_swap]
  refine isum_congr fun p hp => ?_
  have hm := (h.mem p.1).mpr (hC p hp)
  have := isum_one (f := fun _ : List Nat => p.2 * plain n p.1) h.nd hm
  refine Eq.trans (isum_congr fun s _ => ?_) this
  by_cases q : p.1 = s
  · simp only [if_pos q, if_pos q.symm]
  · simp only [if_neg q, if_neg (Ne.symm q)]
/-! ### what has coefficients -/
def P1 (d : Nat) (f : Nat → Nat) : Prop := ∃ C : List (Nat × Nat), (∀ p ∈ C, p.1 ≤ d) ∧ ∀ n, (f n : Int) = isum (fun p : Nat × Nat => (p.2 : Int) * (bin n p.1 : Int)) C
theorem P1.add {d : Nat} {f g : Nat → Nat} (h : P1 d f) (k : P1 d g) : P1 d fun n => f n + g n := by
  obtain ⟨C, c1, c2⟩ := h
  obtain ⟨D, d1, d2⟩ := k
  refine ⟨C ++ D, fun p hp => (List.mem_append.mp hp).elim (c1 p) (d1 p), fun n => ?_⟩
  rw [isum_app, ← c2, ← d2]
  push_cast
  rfl
theorem P1.mono {d e : Nat} {f : Nat → Nat} (h : P1 d f) (hd : d ≤ e) : P1 e f := by
  obtain ⟨C, c1, c2⟩ := h
  exact ⟨C, fun p hp => Nat.le_trans (c1 p hp) hd, c2⟩
theorem P1.up {d : Nat} {f g : Nat → Nat} (h : P1 d g) (e : ∀ n, f (n + 1) = f n + g n) : P1 (d + 1) f := by
  obtain ⟨C, c1, c2⟩ := h
  refine ⟨(0, f 0) :: C.map fun p => (p.1 + 1, p.2), ?_, ?_⟩
  · intro p hp
    rcases List.mem_cons.mp hp with z | z
    · rw [z]; exact Nat.zero_le _
    · obtain ⟨q, hq, rfl⟩ := List.mem_map.mp z
      exact Nat.succ_le_succ (c1 q hq)
  · intro n
    show _ = (f 0 : Int) * (bin n 0 : Int) + isum _ (C.map _)
    rw [isum_map, bin_z]
    induction n with
    | zero =>
      rw [isum_zero]
      · show (f 0 : Int) = f 0 * ((1 : Nat) : Int) + 0
        omega
      · intro p _
        show (p.2 : Int) * ((bin 0 (p.1 + 1) : Nat) : Int) = 0
        rw [bin_0s]
        exact Int.mul_zero _
    | succ n ih =>
      rw [e n]
      push_cast
      rw [ih, c2 n, Int.add_assoc, isum_add]
      congr 1
      refine isum_congr fun p _ => ?_
      show (p.2 : Int) * (bin n (p.1 + 1) : Int) + (p.2 : Int) * (bin n p.1 : Int) = (p.2 : Int) * ((bin (n + 1) (p.1 + 1) : Nat) : Int)
      rw [bin_ss]
      push_cast
      rw [← Int.mul_add, Int.add_comm]
theorem P1.bins (k : Nat) : P1 k fun n => bin n k := ⟨[(k, 1)], fun p hp => by rw [List.mem_singleton.mp hp]; exact Nat.le_refl _, fun n => by
  show (bin n k : Int) = ((1 : Nat) : Int) * (bin n k : Int) + 0
  omega⟩
theorem P1.mul : ∀ (N a b : Nat), a + b ≤ N → P1 (a + b) fun n => bin n a * bin n b
  | N, 0, b, _ => by
    have := P1.bins b
    simpa using this
  | N, a + 1, 0, _ => by
    have := P1.bins (a + 1)
    simpa using this
  | 0, a + 1, b + 1, h => by omega
  | N + 1, a + 1, b + 1, h => by
    have h1 := P1.mul N a b (by omega)
    have h2 := P1.mul N a (b + 1) (by omega)
    have h3 := P1.mul N (a + 1) b (by omega)
    have h4 := ((h1.mono (e := a + (b + 1)) (by omega)).add h2).add (h3.mono (e := a + (b + 1)) (by omega))
    have := h4.up (f := fun n => bin n (a + 1) * bin n (b + 1)) fun n => by
      show bin (n + 1) (a + 1) * bin (n + 1) (b + 1) = _
      rw [bin_ss, bin_ss]
      grind
    exact this.mono (by omega)
/-- over m sizes, of power d, the coefficients with pr -/
def Pm (pr : Int → Prop) (m d : Nat) (F : List Nat → Int) : Prop := ∃ C : Co, (∀ p ∈ C, p.1.length = m ∧ p.1.sum ≤ d ∧ pr p.2) ∧ ∀ n, n.length = m → F n = valC C n
/-- what the coefficients are: closed under sums and products -/
structure Cl (pr : Int → Prop) : Prop where
  m : ∀ a b, pr a → pr b → pr (a * b)
  n : ∀ a : Nat, pr (a : Int)
theorem cl_any : Cl fun _ => True := ⟨fun _ _ _ _ => trivial, fun _ => trivial⟩
theorem cl_nn : Cl fun x => 0 ≤ x := ⟨fun _ _ h k => Int.mul_nonneg h k, fun a => by omega⟩
theorem Pm.add {pr : Int → Prop} {m d : Nat} {F G : List Nat → Int} (h : Pm pr m d F) (k : Pm pr m d G) : Pm pr m d fun n => F n + G n := by
  obtain ⟨C, c1, c2⟩ := h
  obtain ⟨D, d1, d2⟩ := k
  refine ⟨C ++ D, fun p hp => (List.mem_append.mp hp).elim (c1 p) (d1 p), fun n hn => ?_⟩
  show F n + G n = isum _ _
  rw [isum_app, c2 n hn, d2 n hn]
  rfl
theorem Pm.mono {pr : Int → Prop} {m d e : Nat} {F : List Nat → Int} (h : Pm pr m d F) (hd : d ≤ e) : Pm pr m e F := by
  obtain ⟨C, c1, c2⟩ := h
  exact ⟨C, fun p hp => ⟨(c1 p hp).1, Nat.le_trans (c1 p hp).2.1 hd, (c1 p hp).2.2⟩, c2⟩
theorem Pm.congr {pr : Int → Prop} {m d : Nat} {F G : List Nat → Int} (h : Pm pr m d F) (e : ∀ n, n.length = m → G n = F n) : Pm pr m d G := by
  obtain ⟨C, c1, c2⟩ := h
  exact ⟨C, c1, fun n hn => (e n hn).trans (c2 n hn)⟩
theorem Pm.zero {pr : Int → Prop} {m d : Nat} : Pm pr m d fun _ => 0 := ⟨[], (fun p hp => nomatch hp), fun _ _ => rfl⟩
theorem Pm.smul {pr : Int → Prop} (hp : Cl pr) {m d : Nat} {F : List Nat → Int} {c : Int} (hc : pr c) (h : Pm pr m d F) : Pm pr m d fun n => c * F n := by
  obtain ⟨C, c1, c2⟩ := h
  refine ⟨C.map fun p => (p.1, c * p.2), fun p hp' => ?_, fun n hn => ?_⟩
  · obtain ⟨q, hq, rfl⟩ := List.mem_map.mp hp'
    exact ⟨(c1 q hq).1, (c1 q hq).2.1, hp.m _ _ hc (c1 q hq).2.2⟩
  · show c * F n = isum _ (C.map _)
    rw [c2 n hn, isum_map]
    unfold valC
    rw [isum_mul]
    exact isum_congr fun p _ => by rw [Int.mul_assoc]
theorem Pm.sums {pr : Int → Prop} {m d : Nat} {α : Type} {f : α → List Nat → Int} : ∀ {xs : List α}, (∀ x ∈ xs, Pm pr m d (f x)) → Pm pr m d fun n => isum (fun x => f x n) xs
  | [], _ => Pm.zero
  | x :: xs, h => Pm.add (h x (List.mem_cons_self ..)) (Pm.sums fun y hy => h y (List.mem_cons_of_mem _ hy))
theorem plain_mul {pr : Int → Prop} (hp : Cl pr) : ∀ (m : Nat) (k l : List Nat), k.length = m → l.length = m → Pm pr m (k.sum + l.sum) fun n => plain n k * plain n l
  | 0, [], [], _, _ => ⟨[([], 1)], fun p hp' => by rw [List.mem_singleton.mp hp']; exact ⟨rfl, Nat.le_refl _, hp.n 1⟩, fun n hn => by
      have : n = [] := List.length_eq_zero_iff.mp hn
      subst this
      rfl⟩
  | 0, _ :: _, _, h, _ => by simp at h
  | 0, [], _ :: _, _, h => by simp at h
  | m + 1, [], _, h, _ => by simp at h
  | m + 1, _ :: _, [], _, h => by simp at h
  | m + 1, a :: k, b :: l, h1, h2 => by
    obtain ⟨C, c1, c2⟩ := plain_mul hp m k l (by simpa using h1) (by simpa using h2)
    obtain ⟨D, d1, d2⟩ := P1.mul (a + b) a b (Nat.le_refl _)
    refine ⟨D.flatMap fun q => C.map fun p => (q.1 :: p.1, (q.2 : Int) * p.2), ?_, ?_⟩
    · intro p hp'
      obtain ⟨q, hq, hp2⟩ := List.mem_flatMap.mp hp'
      obtain ⟨r, hr, rfl⟩ := List.mem_map.mp hp2
      obtain ⟨r1, r2, r3⟩ := c1 r hr
      have q1 := d1 q hq
      refine ⟨by show r.1.length + 1 = m + 1; omega, ?_, hp.m _ _ (hp.n _) r3⟩
      show (q.1 :: r.1).sum ≤ (a :: k).sum + (b :: l).sum
      rw [List.sum_cons, List.sum_cons, List.sum_cons]
      omega
    · intro n hn
      cases n with
      | nil => simp at hn
      | cons x n =>
        have e1 := c2 n (by simpa using hn)
        have e2 := d2 x
        have fl : ∀ D : List (Nat × Nat), valC (D.flatMap fun q => C.map fun p => (q.1 :: p.1, (q.2 : Int) * p.2)) (x :: n) = isum (fun q : Nat × Nat => (q.2 : Int) * (bin x q.1 : Int)) D * valC C n := by
          intro D
          induction D with
          | nil => exact (Int.zero_mul _).symm
          | cons q D ih =>
            rw [List.flatMap_cons]
            show isum _ (_ ++ _) = ((q.2 : Int) * (bin x q.1 : Int) + isum _ D) * valC C n
            rw [isum_app, Int.add_mul]
            have ih' : isum (fun p : List Nat × Int => p.2 * plain (x :: n) p.1) (D.flatMap fun q => C.map fun p => (q.1 :: p.1, (q.2 : Int) * p.2)) = _ := ih
            rw [ih']
            congr 1
            rw [isum_map]
            unfold valC
            rw [isum_mul]
            refine isum_congr fun p _ => ?_
            show (q.2 : Int) * p.2 * ((bin x q.1 : Int) * plain n p.1) = (q.2 : Int) * (bin x q.1 : Int) * (p.2 * plain n p.1)
            grind
        rw [fl]
        show (bin x a : Int) * plain n k * ((bin x b : Int) * plain n l) = _
        rw [← e1, ← e2]
        push_cast
        grind
theorem Pm.mul {pr : Int → Prop} (hp : Cl pr) {m d e : Nat} {F G : List Nat → Int} (h : Pm pr m d F) (k : Pm pr m e G) : Pm pr m (d + e) fun n => F n * G n := by
  obtain ⟨C, c1, c2⟩ := h
  obtain ⟨D, d1, d2⟩ := k
  have q : Pm pr m (d + e) fun n => isum (fun p : List Nat × Int => isum (fun q : List Nat × Int => (p.2 * q.2) * (plain n p.1 * plain n q.1)) D) C := by
    refine Pm.sums fun p hp' => Pm.sums fun q hq => ?_
    have := plain_mul hp m p.1 q.1 (c1 p hp').1 (d1 q hq).1
    exact (this.mono (Nat.add_le_add (c1 p hp').2.1 (d1 q hq).2.1)).smul hp (hp.m _ _ (c1 p hp').2.2 (d1 q hq).2.2)
  refine q.congr fun n hn => ?_
  show F n * G n = _
  rw [c2 n hn, d2 n hn]
  unfold valC
  rw [Int.mul_comm, isum_mul]
  refine isum_congr fun p _ => ?_
  rw [Int.mul_comm, isum_mul]
  refine isum_congr fun r _ => ?_
  grind
/-- of each power a function's ways have coefficients -/
def Ln (pr : Int → Prop) (m : Nat) (f : List Nat → Nat) : Prop := ∀ q, Pm pr m q fun n => (bin (f n) q : Int)
theorem plain_zeros : ∀ (m : Nat) (n : List Nat), plain n (List.replicate m 0) = 1
  | 0, n => by cases n <;> rfl
  | m + 1, [] => rfl
  | m + 1, x :: n => by
    rw [List.replicate_succ]
    show (bin x 0 : Int) * plain n _ = 1
    rw [plain_zeros m n, bin_z]
    rfl
theorem sum_zeros : ∀ m : Nat, (List.replicate m 0).sum = 0
  | 0 => rfl
  | m + 1 => by rw [List.replicate_succ, List.sum_cons, sum_zeros m]
theorem Ln.const {pr : Int → Prop} (hp : Cl pr) {m : Nat} (c : Nat) : Ln pr m fun _ => c := fun q =>
  ⟨[(List.replicate m 0, (bin c q : Int))], fun p hp' => by
    rw [List.mem_singleton.mp hp']
    exact ⟨List.length_replicate, by rw [sum_zeros]; exact Nat.zero_le _, hp.n _⟩, fun n _ => by
    show (bin c q : Int) = (bin c q : Int) * plain n (List.replicate m 0) + 0
    rw [plain_zeros]
    omega⟩
def unit (m i q : Nat) : List Nat := (List.replicate m 0).set i q
theorem plain_unit : ∀ (m i q : Nat) (n : List Nat), i < m → n.length = m → plain n (unit m i q) = (bin (n.getD i 0) q : Int)
  | 0, i, q, n, h, _ => by omega
  | m + 1, i, q, [], _, h => by simp at h
  | m + 1, 0, q, x :: n, _, h => by
    show (bin x q : Int) * plain n (List.replicate m 0) = _
    rw [plain_zeros, Int.mul_one]
    rfl
  | m + 1, i + 1, q, x :: n, h, h2 => by
    show (bin x 0 : Int) * plain n (unit m i q) = _
    rw [plain_unit m i q n (by omega) (by simpa using h2), bin_z]
    exact Int.one_mul _
theorem sum_unit : ∀ (m i q : Nat), (unit m i q).sum ≤ q
  | 0, i, q => by show ([] : List Nat).sum ≤ q; exact Nat.zero_le _
  | m + 1, 0, q => by
    show (q :: List.replicate m 0).sum ≤ q
    rw [List.sum_cons, sum_zeros]
    omega
  | m + 1, i + 1, q => by
    show (0 :: unit m i q).sum ≤ q
    have := sum_unit m i q
    rw [List.sum_cons]
    omega
theorem Ln.coord {pr : Int → Prop} (hp : Cl pr) {m i : Nat} (hi : i < m) : Ln pr m fun n => n.getD i 0 := fun q =>
  ⟨[(unit m i q, 1)], fun p hp' => by
    rw [List.mem_singleton.mp hp']
    exact ⟨by show ((List.replicate m 0).set i q).length = m; rw [List.length_set, List.length_replicate], sum_unit m i q, hp.n 1⟩, fun n hn => by
    show (bin (n.getD i 0) q : Int) = 1 * plain n (unit m i q) + 0
    rw [plain_unit m i q n hi hn]
    omega⟩
/-- to take q out of x and y together -/
def vsum (x y : Nat) : Nat → Nat → Int
  | 0, b => (bin x 0 : Int) * (bin y b : Int)
  | a + 1, b => (bin x (a + 1) : Int) * (bin y b : Int) + vsum x y a (b + 1)
def vdm (x y q : Nat) : Int := isum (fun i : Nat => (bin x i : Int) * (bin y (q - i) : Int)) (List.range (q + 1))
theorem vdm_0 (y q : Nat) : vdm 0 y q = (bin y q : Int) := by
  unfold vdm
  rw [List.range_succ_eq_map]
  show (bin 0 0 : Int) * (bin y (q - 0) : Int) + isum _ (List.map _ _) = _
  rw [isum_map, isum_zero]
  · show ((1 : Nat) : Int) * (bin y q : Int) + 0 = _
    omega
  · intro i _
    show ((bin 0 (i + 1) : Nat) : Int) * _ = 0
    rw [bin_0s]
    exact Int.zero_mul _
theorem vdm_s (x y q : Nat) : vdm (x + 1) y (q + 1) = vdm x y q + vdm x y (q + 1) := by
  unfold vdm
  rw [List.range_succ_eq_map (n := q + 1)]
  show (bin (x + 1) 0 : Int) * (bin y (q + 1 - 0) : Int) + isum _ (List.map _ _) = _ + ((bin x 0 : Int) * (bin y (q + 1 - 0) : Int) + isum _ (List.map _ _))
  rw [isum_map, isum_map, bin_z, bin_z]
  have e : isum (fun i : Nat => ((bin (x + 1) i.succ : Nat) : Int) * (bin y (q + 1 - i.succ) : Int)) (List.range (q + 1)) = isum (fun i : Nat => (bin x i : Int) * (bin y (q - i) : Int)) (List.range (q + 1)) + isum (fun i : Nat => ((bin x i.succ : Nat) : Int) * (bin y (q + 1 - i.succ) : Int)) (List.range (q + 1)) := by
    rw [isum_add]
    refine isum_congr fun i _ => ?_
    show ((bin (x + 1) (i + 1) : Nat) : Int) * ((bin y (q + 1 - (i + 1)) : Nat) : Int) = (bin x i : Int) * (bin y (q - i) : Int) + ((bin x (i + 1) : Nat) : Int) * ((bin y (q + 1 - (i + 1)) : Nat) : Int)
    rw [bin_ss, show q + 1 - (i + 1) = q - i by omega]
    push_cast
    rw [Int.add_mul]
  rw [e]
  omega
theorem vdm_ok : ∀ (x y q : Nat), (bin (x + y) q : Int) = vdm x y q
  | 0, y, q => by rw [vdm_0, Nat.zero_add]
  | x + 1, y, 0 => by
    rw [bin_z]
    show ((1 : Nat) : Int) = ((bin (x + 1) 0 : Nat) : Int) * ((bin y 0 : Nat) : Int) + 0
    rw [bin_z, bin_z]
    rfl
  | x + 1, y, q + 1 => by
    rw [vdm_s, ← vdm_ok x y q, ← vdm_ok x y (q + 1), show x + 1 + y = (x + y) + 1 by omega, bin_ss]
    push_cast
    rfl
theorem Ln.add {pr : Int → Prop} (hp : Cl pr) {m : Nat} {f g : List Nat → Nat} (h : Ln pr m f) (k : Ln pr m g) : Ln pr m fun n => f n + g n := fun q => by
  have : Pm pr m q fun n => isum (fun i : Nat => (bin (f n) i : Int) * (bin (g n) (q - i) : Int)) (List.range (q + 1)) := by
    refine Pm.sums fun i hi => ?_
    have := (h i).mul hp (k (q - i))
    have hi' := List.mem_range.mp hi
    rw [show i + (q - i) = q by omega] at this
    exact this
  exact this.congr fun n _ => vdm_ok (f n) (g n) q
theorem Ln.mulc {pr : Int → Prop} (hp : Cl pr) {m : Nat} {f : List Nat → Nat} (h : Ln pr m f) : ∀ a : Nat, Ln pr m fun n => a * f n
  | 0 => by
    have := Ln.const hp (m := m) 0
    simpa using this
  | a + 1 => by
    have := (Ln.mulc hp h a).add hp h
    simpa [Nat.succ_mul] using this
def lin : List Nat → List Nat → Nat
  | a :: as, x :: xs => a * x + lin as xs
  | _, _ => 0
theorem lin_get : ∀ (as xs : List Nat), lin as xs = lin as xs := fun _ _ => rfl
/-- a line's value -/
def lineN (l : List Nat) (n : List Nat) : Nat := match l with
  | [] => 0
  | a :: as => a + lin as n
theorem Ln.linr {pr : Int → Prop} (hp : Cl pr) {m : Nat} : ∀ (as : List Nat) (j : Nat), as.length + j = m → Ln pr m fun n => lin as (n.drop j)
  | [], j, _ => by
    have := Ln.const hp (m := m) 0
    exact fun q => (this q).congr fun n _ => rfl
  | a :: as, j, h => by
    have h' : as.length + (j + 1) = m := by rw [List.length_cons] at h; omega
    have ih := Ln.linr hp as (j + 1) h'
    have hc := ((Ln.coord hp (m := m) (i := j) (by omega)).mulc hp a).add hp ih
    exact fun q => (hc q).congr fun n hn => by
      have hj : j < n.length := by omega
      show ((bin (lin (a :: as) (n.drop j)) q : Nat) : Int) = ((bin (a * n.getD j 0 + lin as (n.drop (j + 1))) q : Nat) : Int)
      rw [List.drop_eq_getElem_cons hj, List.getD_eq_getElem?_getD, List.getElem?_eq_getElem hj]
      rfl
theorem Ln.line {pr : Int → Prop} (hp : Cl pr) {m : Nat} {l : List Nat} (h : l.length = m + 1) : Ln pr m (lineN l) := by
  cases l with
  | nil => simp at h
  | cons a as =>
    have := (Ln.const hp (m := m) a).add hp (Ln.linr hp as 0 (by simpa using h))
    exact fun q => (this q).congr fun n _ => by
      show _ = ((bin (a + lin as (n.drop 0)) q : Nat) : Int)
      rw [List.drop_zero]
      rfl
/-- the ways of powers at lines -/
theorem Pm.plains {pr : Int → Prop} (hp : Cl pr) {m : Nat} : ∀ (ls : List (List Nat)) (k : List Nat), (∀ l ∈ ls, l.length = m + 1) → k.length = ls.length → Pm pr m k.sum fun n => plain (ls.map fun l => lineN l n) k
  | [], [], _, _ => by
    have := Ln.const hp (m := m) 0 0
    exact this.congr fun n _ => rfl
  | [], _ :: _, _, h => by simp at h
  | _ :: _, [], _, h => by simp at h
  | l :: ls, a :: k, hl, h => by
    have h1 := Ln.line hp (hl l (List.mem_cons_self ..)) a
    have h2 := Pm.plains hp ls k (fun x hx => hl x (List.mem_cons_of_mem _ hx)) (by simpa using h)
    have := h1.mul hp h2
    rw [List.sum_cons]
    exact this.congr fun n _ => rfl
/-- a sum with lines laid in has coefficients -/
theorem Pm.laid {pr : Int → Prop} (hp : Cl pr) {m d : Nat} {ls : List (List Nat)} (hl : ∀ l ∈ ls, l.length = m + 1) {P : Co} (hP : ∀ p ∈ P, p.1.length = ls.length ∧ p.1.sum ≤ d ∧ pr p.2) : Pm pr m d fun n => valC P (ls.map fun l => lineN l n) := by
  refine Pm.sums fun p hp' => ?_
  obtain ⟨h1, h2, h3⟩ := hP p hp'
  exact ((Pm.plains hp ls p.1 hl h1).mono h2).smul hp h3

end K36

set_option Elab.async false
set_option linter.all false
set_option maxRecDepth 100000
set_option maxHeartbeats 1000000
set_option exponentiation.threshold 40000
namespace K36
open PySem PySem.Spec PyProof.Rows L2 TL
theorem cut_take (xs : List PV) (c : Nat) : cutP xs none (some (c : Int)) = xs.take c := by
  unfold cutP
  rw [HT.sIx_nat]
  show (xs.drop 0).take (min c xs.length - 0) = _
  rw [List.drop_zero, Nat.sub_zero]
  rw [List.take_eq_take_iff]
  omega

theorem cut_drop (xs : List PV) (k : Nat) : cutP xs (some (k : Int)) none = xs.drop k := by
  unfold cutP
  rw [HT.sIx_nat]
  show (xs.drop (min k xs.length)).take (xs.length - min k xs.length) = _
  rw [List.take_of_length_le (by rw [List.length_drop]; omega)]
  by_cases h : k ≤ xs.length
  · rw [Nat.min_eq_left h]
  · rw [Nat.min_eq_right (by omega), List.drop_length, List.drop_eq_nil_of_le (by omega)]

/-! ### a loop, by what it does to a state -/
theorem forN_fold {α σ : Type} {t : TT'} {b : CS} {ck : Chk} (e : α → PV) (g : σ → α → σ) (R : σ → Sl → Store → Prop) (hc : ∀ s ρ S, R s ρ S → chk ck S) : ∀ (xs : List α), (∀ s x ρ S, x ∈ xs → R s ρ S → ∃ ρ1, setT t (e x) ρ = some ρ1 ∧ Nx (R (g s x)) (b ρ1 S)) →
    ∀ s ρ S, R s ρ S → Nx (R (xs.foldl g s)) (forN t b ck (xs.map e) ρ S)
  | [], _, s, ρ, S, h => ⟨ρ, S, by rw [List.map_nil, forN_nil (hc _ _ _ h)], h⟩
  | x :: xs, hs, s, ρ, S, h => by
    obtain ⟨ρ1, e1, ρ', S', e2, h2⟩ := hs s x ρ S (List.mem_cons_self ..) h
    rw [List.map_cons, forN_next (hc _ _ _ h) e1 e2]
    exact forN_fold e g R hc xs (fun s y ρ S hy => hs s y ρ S (List.mem_cons_of_mem _ hy)) (g s x) ρ' S' h2
theorem nx_for {α σ : Type} {t : TT'} {b : CS} {it : CE (List PV × Chk)} {ρ : Sl} {S S1 : Store} (e : α → PV) (xs : List α) (ck : Chk) (g : σ → α → σ) (R : σ → Sl → Store → Prop) (s : σ) (h : it ρ S = .ok (xs.map e, ck) S1) (hc : ∀ s ρ S, R s ρ S → chk ck S)
    (hs : ∀ s x ρ S, x ∈ xs → R s ρ S → ∃ ρ1, setT t (e x) ρ = some ρ1 ∧ Nx (R (g s x)) (b ρ1 S)) (h0 : R s ρ S1) : Nx (R (xs.foldl g s)) (sFor t it b ρ S) := by
  rw [sFor_ap, h, sb_ap]
  exact forN_fold e g R hc xs hs s ρ S1 h0
theorem Nx.mono {P Q : Sl → Store → Prop} {r : SR} (h : Nx P r) (k : ∀ ρ S, P ρ S → Q ρ S) : Nx Q r := by
  obtain ⟨ρ, S, e, p⟩ := h
  exact ⟨ρ, S, e, k ρ S p⟩
theorem nx_seq {P Q : Sl → Store → Prop} {a b : CS} {ρ : Sl} {S : Store} (h : Nx Q (a ρ S)) (k : ∀ ρ S, Q ρ S → Nx P (b ρ S)) : Nx P (sSeq a b ρ S) := by
  obtain ⟨ρ', S', e, q⟩ := h
  rw [seq_next e]
  exact k ρ' S' q
abbrev iN (s : List Nat) : List Int := s.map fun n : Nat => (n : Int)
abbrev tN (s : List Nat) : PV := tI (iN s)
theorem iN_inj {a b : List Nat} (h : iN a = iN b) : a = b := by
  have := congrArg (List.map Int.toNat) h
  rw [List.map_map, List.map_map] at this
  have e : (Int.toNat ∘ fun n : Nat => (n : Int)) = id := by funext n; simp
  rw [e, List.map_id, List.map_id] at this
  exact this
theorem tN_inj {a b : List Nat} (h : tN a = tN b) : a = b := iN_inj (tI_inj h)
/-! ### powers_to -/
def rowsF (d : Nat) : Nat → List (List Nat)
  | 0 => [[]]
  | k + 1 => (rowsF d k).flatMap fun r => (List.range (d - r.sum + 1)).map fun p => r ++ [p]
theorem rows_mem (d : Nat) : ∀ (m : Nat) (s : List Nat), s ∈ rowsF d m ↔ s.length = m ∧ s.sum ≤ d
  | 0, s => by
    show s ∈ [[]] ↔ _
    rw [List.mem_singleton]
    constructor
    · rintro rfl; exact ⟨rfl, Nat.zero_le _⟩
    · rintro ⟨h, _⟩; exact List.length_eq_zero_iff.mp h
  | m + 1, s => by
    show s ∈ (rowsF d m).flatMap _ ↔ _
    rw [List.mem_flatMap]
    constructor
    · rintro ⟨r, hr, hs⟩
      obtain ⟨p, hp, rfl⟩ := List.mem_map.mp hs
      obtain ⟨h1, h2⟩ := (rows_mem d m r).mp hr
      have := List.mem_range.mp hp
      refine ⟨by rw [List.length_append, h1]; rfl, ?_⟩
      rw [List.sum_append]
      show r.sum + (p + 0) ≤ d
      omega
    · rintro ⟨h1, h2⟩
      have hne : s ≠ [] := fun z => by rw [z] at h1; cases h1
      have e := List.dropLast_concat_getLast hne
      have e2 := congrArg List.sum e
      rw [List.sum_append] at e2
      have e3 : s.dropLast.sum + (s.getLast hne + 0) = s.sum := e2
      refine ⟨s.dropLast, (rows_mem d m _).mpr ⟨by rw [List.length_dropLast]; omega, by omega⟩, List.mem_map.mpr ⟨s.getLast hne, List.mem_range.mpr (by omega), e⟩⟩
theorem lt_app : ∀ {a b : List Nat} (x y : List Nat), a < b → a.length = b.length → a ++ x < b ++ y
  | [], [], x, y, h, _ => (lex_irr h).elim
  | [], _ :: _, x, y, _, h => by simp at h
  | _ :: _, [], x, y, _, h => by simp at h
  | p :: a, q :: b, x, y, h, hl => by
    rw [List.cons_append, List.cons_append]
    rw [List.cons_lt_cons_iff] at h ⊢
    rcases h with h | ⟨h1, h2⟩
    · exact .inl h
    · exact .inr ⟨h1, lt_app x y h2 (by simpa using hl)⟩
theorem lt_app2 {p q : Nat} (h : p < q) : ∀ r : List Nat, r ++ [p] < r ++ [q]
  | [] => List.Lex.rel h
  | a :: r => List.Lex.cons (lt_app2 h r)
theorem rows_lex (d : Nat) : ∀ m : Nat, (rowsF d m).Pairwise (fun a b => a < b)
  | 0 => List.pairwise_singleton ..
  | m + 1 => by
    show ((rowsF d m).flatMap _).Pairwise _
    rw [List.pairwise_flatMap]
    refine ⟨fun r _ => ?_, ?_⟩
    · rw [List.pairwise_map]
      exact List.pairwise_lt_range.imp fun {p q} h => lt_app2 h r
    · have h := rows_lex d m
      refine List.Pairwise.imp_of_mem ?_ h
      intro a b ha hb hab x hx y hy
      obtain ⟨p, _, rfl⟩ := List.mem_map.mp hx
      obtain ⟨q, _, rfl⟩ := List.mem_map.mp hy
      exact lt_app _ _ hab (by rw [((rows_mem d m a).mp ha).1, ((rows_mem d m b).mp hb).1])
theorem rows_spots (m d : Nat) : Spots m d (rowsF d m) := ⟨rows_mem d m, rows_lex d m⟩
theorem sum_iN : ∀ s : List Nat, (iN s).sum = (s.sum : Int)
  | [] => rfl
  | a :: s => by
    show ((a : Int) :: iN s).sum = _
    rw [List.sum_cons, List.sum_cons, sum_iN s]
    push_cast
    rfl
theorem sum_tN (s : List Nat) (S : Store) : sumA [tN s] S = .ok (.int (s.sum : Int)) S := by rw [← sum_iN]; exact sumA_tup _ S
theorem foldl_app {α β : Type} (f : α → List β) : ∀ (xs : List α) (acc : List β), xs.foldl (fun a x => a ++ f x) acc = acc ++ xs.flatMap f
  | [], acc => by simp
  | x :: xs, acc => by
    rw [List.foldl_cons, foldl_app f xs, List.flatMap_cons, List.append_assoc]
theorem foldl_snoc {α β : Type} (f : α → β) : ∀ (xs : List α) (acc : List β), xs.foldl (fun a x => a ++ [f x]) acc = acc ++ xs.map f
  | [], acc => by simp
  | x :: xs, acc => by
    rw [List.foldl_cons, foldl_snoc f xs, List.map_cons, List.append_assoc]
    rfl
theorem set_last (S : Store) (o p : PO) : (S ++ [o]).set S.length p = S ++ [p] := by
  rw [List.set_append_right _ _ (Nat.le_refl _), Nat.sub_self]
  rfl
theorem it_rng {c : CE PV} {ρ : Sl} {S S1 : Store} {n : Nat} (h : c ρ S = .ok (.int (n : Int)) S1) (hn : n ≤ 1000000) : iRange1 c ρ S = .ok ((List.range n).map (fun k : Nat => PV.int (k : Int)), []) S1 := by
  rw [iRange1_nat h hn, rngL_nat]
theorem tN_snoc (r : List Nat) (p : Nat) (S : Store) (hl : r.length ≤ 1000) : addV (tN r) (.tup [.int (p : Int)]) S = .ok (tN (r ++ [p])) S := by
  have : (iN r).map PV.int ++ [.int (p : Int)] = (iN (r ++ [p])).map .int := by
    show _ = ((r ++ [p]).map fun n : Nat => (n : Int)).map PV.int
    rw [List.map_append, List.map_append]
    rfl
  show (if ((iN r).map PV.int).length + [PV.int (p : Int)].length ≤ sizeLine then Res.ok (PV.tup ((iN r).map PV.int ++ [.int (p : Int)])) S else .stuck) = _
  rw [if_pos (by simp only [List.length_map, List.length_cons, List.length_nil]; exact line2 (by omega)), this]
theorem nx_forI {α : Type} {t : TT'} {b : CS} {it : CE (List PV × Chk)} {ρ : Sl} {S S1 : Store} (e : α → PV) (xs : List α) (ck : Chk) (P : Nat → Sl → Store → Prop) (h : it ρ S = .ok (xs.map e, ck) S1) (hc : ∀ i ρ S, P i ρ S → chk ck S)
    (hs : ∀ (i : Nat) (x : α) (ρ : Sl) (S : Store), xs[i]? = some x → P i ρ S → ∃ ρ1, setT t (e x) ρ = some ρ1 ∧ Nx (P (i + 1)) (b ρ1 S)) (h0 : P 0 ρ S1) : Nx (P xs.length) (sFor t it b ρ S) := by
  rw [sFor_ap, h, sb_ap]
  obtain ⟨ρ', S', e1, p⟩ := for_inv (all := xs.map e) P h0 hc fun i x ρ S hx hp => by
    rw [List.getElem?_map] at hx
    cases q : xs[i]? with
    | none => rw [q] at hx; cases hx
    | some y =>
      rw [q] at hx
      have ex : e y = x := Option.some.inj hx
      subst ex
      obtain ⟨ρ1, e1, ρ', S', e2, p⟩ := hs i y ρ S q hp
      exact ⟨ρ1, e1, ρ', S', .inl e2, p⟩
  rw [List.length_map] at p
  exact ⟨ρ', S', e1, p⟩
theorem rng_at {n i x : Nat} (h : (List.range n)[i]? = some x) : x = i ∧ i < n := by
  obtain ⟨h1, h2⟩ := List.getElem?_eq_some_iff.mp h
  rw [List.getElem_range] at h2
  exact ⟨h2.symm, by simpa using h1⟩
theorem bnd_tN (n : Nat) (s : List Nat) : bnd n (tN s) = true := bnds_ints n _
theorem m_powers_eq (m d : Nat) (S : Store) (hm : m ≤ 1000) (hd : d ≤ 1000) (hR : ∀ k ≤ m, (rowsF d k).length ≤ 10000) :
    gc S (m_powers_to [.int (m : Int), .int (d : Int)] S) = .ok (.obj S.length) (S ++ [.lst ((rowsF d m).map tN)]) := by
  have l1 : (1 : Nat) ≤ sizeLine := line2 (by decide)
  have l0 : (0 : Nat) ≤ sizeLine := Nat.zero_le _
  have main : ∃ J i, b_powers_to [some (.int (m : Int)), some (.int (d : Int)), none, none, none, none, none] S = .ret (.obj i) (S ++ J) ∧ S.length ≤ i ∧ (S ++ J)[i]? = some (.lst ((rowsF d m).map tN)) := by
    unfold b_powers_to
    rw [seq_set (x := .obj S.length) (S1 := S ++ [.lst [.tup []]]) (by simp [l1])]
    simp only [List.set_cons_succ, List.set_cons_zero]
    have key := nx_forI (t := .name 3) (it := iRange1 (eVar 0)) (b := sSeq (sSet 4 (eLst aNil)) (sSeq (sFor (.name 5) (iAny (eVar 2)) (sFor (.name 6) (iRange1 (eBin addV (eBin subV (eVar 1) (eB sumA (aCons (eVar 5) aNil))) (eK (.int 1)))) (sDrop (eM appendV (eVar 4) (aCons (eBin addV (eVar 5) (eTup (aCons (eVar 6) aNil))) aNil))))) (sSet 2 (eVar 4))))
      (ρ := [some (.int (m : Int)), some (.int (d : Int)), some (.obj S.length), none, none, none, none]) (S := S ++ [.lst [.tup []]]) (fun k : Nat => PV.int (k : Int)) (List.range m) []
      (fun k ρ S' => ∃ a3 a4 a5 a6 J i, ρ = [some (.int (m : Int)), some (.int (d : Int)), some (.obj i), a3, a4, a5, a6] ∧ S' = S ++ J ∧ S.length ≤ i ∧ (S ++ J)[i]? = some (.lst ((rowsF d k).map tN)))
      (it_rng rfl (by omega)) (fun _ _ _ _ => chk_nil _) ?_ ⟨none, none, none, none, _, S.length, rfl, rfl, Nat.le_refl _, get_last⟩
    · obtain ⟨ρ', S', e, a3, a4, a5, a6, J, i, rfl, rfl, h1, h2⟩ := key
      rw [List.length_range] at h2
      refine ⟨J, i, ?_, h1, h2⟩
      rw [seq_next e]
      rfl
    · rintro k x ρ T hx ⟨a3, a4, a5, a6, J, i, rfl, rfl, h1, h2⟩
      obtain ⟨rfl, hk⟩ := rng_at hx
      refine ⟨_, rfl, ?_⟩
      have hi : i < (S ++ J).length := (List.getElem?_eq_some_iff.mp h2).1
      have hlen : ∀ k ≤ m, (rowsF d k).length ≤ 10000 := hR
      refine nx_seq (Q := fun ρ T => ρ = [some (.int (m : Int)), some (.int (d : Int)), some (.obj i), some (.int (x : Int)), some (.obj (S ++ J).length), a5, a6] ∧ T = S ++ J ++ [.lst []]) ⟨_, _, by rw [sSet_ap, eLst_ap, aNil_ap, bind_ap, if_pos (by exact l0), sb_ap]; rfl, rfl, rfl⟩ ?_
      rintro ρ T ⟨rfl, rfl⟩
      refine nx_seq (Q := fun ρ T => ∃ a5 a6, ρ = [some (.int (m : Int)), some (.int (d : Int)), some (.obj i), some (.int (x : Int)), some (.obj (S ++ J).length), a5, a6] ∧ T = S ++ J ++ [.lst ((rowsF d (x + 1)).map tN)]) ?_ ?_
      · have outer := nx_forI (t := .name 5) (it := iAny (eVar 2)) (b := sFor (.name 6) (iRange1 (eBin addV (eBin subV (eVar 1) (eB sumA (aCons (eVar 5) aNil))) (eK (.int 1)))) (sDrop (eM appendV (eVar 4) (aCons (eBin addV (eVar 5) (eTup (aCons (eVar 6) aNil))) aNil))))
          (ρ := [some (.int (m : Int)), some (.int (d : Int)), some (.obj i), some (.int (x : Int)), some (.obj (S ++ J).length), a5, a6]) (S := S ++ J ++ [.lst []]) tN (rowsF d x) [(i, .lst ((rowsF d x).map tN))]
          (fun j ρ T => ∃ a5 a6, ρ = [some (.int (m : Int)), some (.int (d : Int)), some (.obj i), some (.int (x : Int)), some (.obj (S ++ J).length), a5, a6] ∧ T = S ++ J ++ [.lst ((((rowsF d x).take j).flatMap fun r => (List.range (d - r.sum + 1)).map fun p => r ++ [p]).map tN)])
          (by rw [iAny_ap, eVar_ap]; exact items_obj (get_app h2)) (by
            rintro j ρ T ⟨a5, a6, rfl, rfl⟩
            exact chk_one (get_app h2)) ?_ ⟨a5, a6, rfl, rfl⟩
        · refine Nx.mono outer ?_
          rintro ρ T ⟨a5, a6, rfl, rfl⟩
          rw [List.take_length]
          exact ⟨a5, a6, rfl, rfl⟩
        · rintro j r ρ T hr ⟨a5, a6, rfl, rfl⟩
          refine ⟨_, rfl, ?_⟩
          obtain ⟨r1, r2⟩ := (rows_mem d x r).mp (List.mem_of_getElem? hr)
          have tk : (rowsF d x).take (j + 1) = (rowsF d x).take j ++ [r] := by
            rw [List.take_add_one, hr]
            rfl
          have hle : (((rowsF d x).take (j + 1)).flatMap fun r => (List.range (d - r.sum + 1)).map fun p => r ++ [p]).length ≤ 10000 := by
            refine Nat.le_trans ?_ (hlen (x + 1) (by omega))
            show _ ≤ ((rowsF d x).flatMap _).length
            conv => rhs; rw [← List.take_append_drop (j + 1) (rowsF d x), List.flatMap_append, List.length_append]
            omega
          rw [tk, List.flatMap_append, List.length_append, List.flatMap_singleton, List.length_map, List.length_range] at hle
          have inner := nx_forI (t := .name 6) (it := iRange1 (eBin addV (eBin subV (eVar 1) (eB sumA (aCons (eVar 5) aNil))) (eK (.int 1)))) (b := sDrop (eM appendV (eVar 4) (aCons (eBin addV (eVar 5) (eTup (aCons (eVar 6) aNil))) aNil)))
            (ρ := [some (.int (m : Int)), some (.int (d : Int)), some (.obj i), some (.int (x : Int)), some (.obj (S ++ J).length), some (tN r), a6]) (S1 := S ++ J ++ [.lst ((((rowsF d x).take j).flatMap fun r => (List.range (d - r.sum + 1)).map fun p => r ++ [p]).map tN)]) (S := S ++ J ++ [.lst ((((rowsF d x).take j).flatMap fun r => (List.range (d - r.sum + 1)).map fun p => r ++ [p]).map tN)])
            (fun k : Nat => PV.int (k : Int)) (List.range (d - r.sum + 1)) []
            (fun p ρ T => ∃ a6, ρ = [some (.int (m : Int)), some (.int (d : Int)), some (.obj i), some (.int (x : Int)), some (.obj (S ++ J).length), some (tN r), a6] ∧ T = S ++ J ++ [.lst ((((rowsF d x).take j).flatMap (fun r => (List.range (d - r.sum + 1)).map fun p => r ++ [p]) ++ (List.range p).map fun p => r ++ [p]).map tN)])
            (it_rng (by
              have e1 : ((d : Int) - (r.sum : Int) + 1) = ((d - r.sum + 1 : Nat) : Int) := by omega
              rw [← e1]
              simp only [eBin_ap, eB_ap, aCons_ap, aNil_ap, eVar_ap, eK_ap, bind_ap, List.getElem?_cons_succ, List.getElem?_cons_zero, sum_tN, f2I_ap, addV_int]) (by omega)) (fun _ _ _ _ => chk_nil _) ?_ ⟨a6, rfl, by simp⟩
          · refine Nx.mono inner ?_
            rintro ρ T ⟨a6, rfl, rfl⟩
            refine ⟨_, a6, rfl, ?_⟩
            rw [tk, List.flatMap_append, List.flatMap_singleton, List.length_range]
          · rintro p y ρ T hy ⟨a6, rfl, rfl⟩
            obtain ⟨rfl, hp⟩ := rng_at hy
            refine ⟨_, rfl, nx_drop .non _ (eM_append (i := (S ++ J).length) (y := tN (r ++ [y])) rfl get_last ?_ ?_) ⟨_, rfl, ?_⟩⟩
            · have q := tN_snoc r y (S ++ J ++ [.lst ((((rowsF d x).take j).flatMap (fun r => (List.range (d - r.sum + 1)).map fun p => r ++ [p]) ++ (List.range y).map fun p => r ++ [p]).map tN)]) (by omega)
              simp only [eBin_ap, eChain_ap, eB_ap, eTup_ap, eLst_ap, eDic_ap, aCons_ap, aNil_ap, eVar_ap, eK_ap, eNeg_ap, eNot_ap, eAnd_ap, eOr_ap, eIf_ap, eCall_ap, eGc_ap, oNone_ap, oSome_ap, eSlice_ap, tBl_ap, tTru_ap, cAnd_ap, cOr_ap, cNot_ap, bind_ap, bind_apx, sb_ap, List.getElem?_cons_succ, List.getElem?_cons_zero, List.set_cons_succ, List.set_cons_zero, List.length_cons, List.length_nil, Nat.zero_add, Nat.reduceAdd, if_true, ite_true, Bool.false_eq_true, if_false, Bool.not_true, Bool.not_false, l1, q]
            · rw [List.length_map, List.length_append, List.length_map, List.length_range]
              exact Nat.lt_of_lt_of_le (show _ < 1000000 by omega) (line2 (Nat.le_refl _))
            · rw [set_last, List.range_succ]
              simp only [List.map_append, List.append_assoc, List.map_cons, List.map_nil]
      · rintro ρ T ⟨a5, a6, rfl, rfl⟩
        refine nx_set (.obj (S ++ J).length) _ rfl ⟨_, _, _, _, J ++ [.lst ((rowsF d (x + 1)).map tN)], (S ++ J).length, rfl, by rw [List.append_assoc], by rw [List.length_append]; omega, ?_⟩
        rw [← List.append_assoc]
        exact get_last
  obtain ⟨J, i, e, h1, h2⟩ := main
  show gc S (outS (b_powers_to [some (.int (m : Int)), some (.int (d : Int)), none, none, none, none, none] S)) = _
  rw [e]
  refine gc_new h1 h2 (bnds_all.mpr fun x hx => ?_)
  obtain ⟨s, _, rfl⟩ := List.mem_map.mp hx
  exact bnd_tN _ _
/-! ### comprehensions, typed -/
theorem chk_J {ck : Chk} {S J : Store} (h : chk ck S) : chk ck (S ++ J) := fun p hp => get_app (h p hp)
theorem lcN_ty {α : Type} {t : TT'} {te : CE PV} {tt : CE Bool} {ck : Chk} {ρ : Sl} {S : Store} (e f : α → PV) (q : α → Bool) (hck : chk ck S) :
    ∀ (xs : List α) (acc : List PV), acc.length + xs.length ≤ sizeLine → (∀ x ∈ xs, ∃ ρ1, setT t (e x) ρ = some ρ1 ∧ ∀ zs, tt ρ1 (S ++ [.lst zs]) = .ok (q x) (S ++ [.lst zs]) ∧ (q x = true → te ρ1 (S ++ [.lst zs]) = .ok (f x) (S ++ [.lst zs]))) →
    lcN t tt te ck S.length ρ (xs.map e) (S ++ [.lst acc]) = .ok (.obj S.length) (S ++ [.lst (acc ++ (xs.filter q).map f)])
  | [], acc, _, _ => by
    rw [List.map_nil]
    unfold lcN
    rw [if_pos (chk_J hck)]
    simp
  | x :: xs, acc, hl, h => by
    obtain ⟨ρ1, e0, e1⟩ := h x (List.mem_cons_self ..)
    obtain ⟨t1, t2⟩ := e1 acc
    have hz : acc.length < sizeLine := by simp at hl; omega
    have e2 : (S ++ [PO.lst acc])[S.length]? = some (.lst acc) := get_last
    rw [List.map_cons]
    cases hq : q x with
    | false =>
      have ih := lcN_ty (t := t) (te := te) (tt := tt) (ρ := ρ) e f q hck xs acc (by simp at hl ⊢; omega) fun y hy => h y (List.mem_cons_of_mem _ hy)
      unfold lcN
      rw [if_pos (chk_J hck), e0]
      simp only [t1, hq, Bool.false_eq_true, if_false]
      rw [ih, List.filter_cons, hq]
      rfl
    | true =>
      have ih := lcN_ty (t := t) (te := te) (tt := tt) (ρ := ρ) e f q hck xs (acc ++ [f x]) (by simp at hl ⊢; omega) fun y hy => h y (List.mem_cons_of_mem _ hy)
      unfold lcN
      rw [if_pos (chk_J hck), e0]
      simp only [t1, hq, if_true, t2 hq, e2, hz, set_last]
      rw [ih, List.filter_cons, hq]
      simp
theorem eLc_ty {α : Type} {t : TT'} {te : CE PV} {tt : CE Bool} (e f : α → PV) (q : α → Bool) (xs : List α) (ck : Chk) {vs : List Nat} {it : CE (List PV × Chk)} {ρ : Sl} {S S1 : Store} (hi : it ρ S = .ok (xs.map e, ck) S1) (hck : chk ck S1) (hl : xs.length ≤ 1000000)
    (h : ∀ x ∈ xs, ∃ ρ1, setT t (e x) (wipeP ρ vs) = some ρ1 ∧ ∀ zs, tt ρ1 (S1 ++ [.lst zs]) = .ok (q x) (S1 ++ [.lst zs]) ∧ (q x = true → te ρ1 (S1 ++ [.lst zs]) = .ok (f x) (S1 ++ [.lst zs]))) : eLc t it tt te vs ρ S = .ok (.obj S1.length) (S1 ++ [.lst ((xs.filter q).map f)]) := by
  have := lcN_ty (t := t) (te := te) (tt := tt) (ck := ck) (ρ := wipeP ρ vs) e f q hck xs [] (by have := line2 hl; simpa using this) h
  unfold eLc
  rw [hi]
  show lcN t tt te ck S1.length (wipeP ρ vs) (xs.map e) (S1 ++ [.lst []]) = _
  rw [this]
  simp
theorem eLc_tm {α : Type} {t : TT'} {te : CE PV} (e f : α → PV) (xs : List α) (ck : Chk) {vs : List Nat} {it : CE (List PV × Chk)} {ρ : Sl} {S S1 : Store} (hi : it ρ S = .ok (xs.map e, ck) S1) (hck : chk ck S1) (hl : xs.length ≤ 1000000)
    (h : ∀ x ∈ xs, ∃ ρ1, setT t (e x) (wipeP ρ vs) = some ρ1 ∧ ∀ zs, te ρ1 (S1 ++ [.lst zs]) = .ok (f x) (S1 ++ [.lst zs])) : eLc t it tYes' te vs ρ S = .ok (.obj S1.length) (S1 ++ [.lst (xs.map f)]) := by
  have := eLc_ty (t := t) (te := te) (tt := tYes') e f (fun _ => true) xs ck (vs := vs) (it := it) (ρ := ρ) hi hck hl fun x hx => by
    obtain ⟨ρ1, e0, e1⟩ := h x hx
    exact ⟨ρ1, e0, fun zs => ⟨rfl, fun _ => e1 zs⟩⟩
  rw [List.filter_eq_self.mpr fun _ _ => rfl] at this
  exact this
/-! ### laid -/
abbrev dZ (ks : List (List Nat)) (T : List Nat → Int) : PO := .dic false (ks.map fun s => (tN s, PV.int (T s)))
theorem dicAt_Z {ks : List (List Nat)} {T : List Nat → Int} {i : Nat} {S : Store} (e : S[i]? = some (dZ ks T)) (k : List Nat) : dicAt S i (tN k) = some (ks.map fun s => (tN s, PV.int (T s))) := by
  unfold dicAt
  rw [e]
  simp only
  have h1 : isKey (tN k) = true := by
    unfold isKey
    rw [Bool.or_eq_true]
    refine .inr ?_
    show (keysOf ((iN k).map .int)).isSome = true
    rw [keysOf_ints]
    rfl
  have h2 : ((ks.map fun s => (tN s, PV.int (T s))).all fun kv => (keyOf kv.1).isSome == (keyOf (tN k)).isSome) = true := by
    rw [List.all_eq_true]
    intro kv hkv
    obtain ⟨p, _, rfl⟩ := List.mem_map.mp hkv
    rfl
  rw [if_pos ⟨h1, h2, fun z => nomatch z⟩]
theorem dget_Z {T : List Nat → Int} {k : List Nat} : ∀ {ks : List (List Nat)}, k ∈ ks → dget (ks.map fun s => (tN s, PV.int (T s))) (tN k) = some (.int (T k))
  | s :: ks, h => by
    unfold dget
    rw [List.map_cons, List.find?_cons]
    by_cases q : s = k
    · subst q
      simp
    · have q' : ¬ tN s = tN k := fun z => q (tN_inj z)
      simp only [q', decide_false]
      exact dget_Z ((List.mem_cons.mp h).resolve_left (Ne.symm q))
theorem getV_Z {ks : List (List Nat)} {T : List Nat → Int} {i : Nat} {S : Store} (e : S[i]? = some (dZ ks T)) {k : List Nat} (h : k ∈ ks) : getV (.obj i) (tN k) S = .ok (.int (T k)) S := by
  unfold getV
  simp only [e, dicAt_Z e k, dget_Z h]
theorem setV_Z {ks : List (List Nat)} {T : List Nat → Int} {i : Nat} {S : Store} (e : S[i]? = some (dZ ks T)) {k : List Nat} (h : k ∈ ks) (v : Int) (hl : ks.length < 1000000) : setV (.obj i) (tN k) (.int v) S = some (S.set i (dZ ks (updF T k v))) := by
  have hz : (ks.map fun s => (tN s, PV.int (T s))).length < sizeLine := by rw [List.length_map]; exact Nat.lt_of_lt_of_le hl (by decide)
  have hd : dput (ks.map fun s => (tN s, PV.int (T s))) (tN k) (.int v) = ks.map fun s => (tN s, PV.int (updF T k v s)) := by
    unfold dput
    rw [if_pos (List.any_eq_true.mpr ⟨(tN k, PV.int (T k)), List.mem_map.mpr ⟨k, h, rfl⟩, decide_eq_true rfl⟩), List.map_map]
    refine List.map_congr_left fun s _ => ?_
    show (if tN s = tN k then (tN s, PV.int v) else (tN s, PV.int (T s))) = (tN s, PV.int (updF T k v s))
    unfold updF
    by_cases q : s = k
    · rw [if_pos (by rw [q]), if_pos q]
    · rw [if_neg (fun z => q (tN_inj z)), if_neg q]
  unfold setV
  simp only [e, dicAt_Z e k, hz, if_true, hd]
theorem setV_Zn {ks : List (List Nat)} {T : List Nat → Int} {i : Nat} {S : Store} (e : S[i]? = some (dZ ks T)) {k : List Nat} (h : k ∉ ks) (hl : ks.length < 1000000) : setV (.obj i) (tN k) (.int (T k)) S = some (S.set i (dZ (ks ++ [k]) T)) := by
  have hz : (ks.map fun s => (tN s, PV.int (T s))).length < sizeLine := by rw [List.length_map]; exact Nat.lt_of_lt_of_le hl (by decide)
  unfold setV
  simp only [e, dicAt_Z e k, hz, if_true]
  rw [dput_new (by
    intro p hp z
    obtain ⟨s, hs, rfl⟩ := List.mem_map.mp hp
    exact h (tN_inj z ▸ hs))]
  show _ = some (S.set i (.dic false ((ks ++ [k]).map fun s => (tN s, PV.int (T s)))))
  rw [List.map_append]
  rfl
theorem get_tN {s : List Nat} {j : Nat} (h : j < s.length) (S : Store) : getV (tN s) (.int (j : Int)) S = .ok (.int (s.getD j 0 : Int)) S := by
  rw [getI_eq (iN s) j S (by rw [List.length_map]; exact h)]
  unfold gi
  rw [List.getD_eq_getElem?_getD, List.getD_eq_getElem?_getD, List.getElem?_map, List.getElem?_eq_getElem h]
  rfl
theorem set_split {s : List Nat} {t v : Nat} (h : t < s.length) : s.take t ++ [v] ++ s.drop (t + 1) = s.set t v := by
  rw [List.set_eq_take_append_cons_drop, if_pos h, List.append_assoc]
  rfl
theorem dec_tup {s : List Nat} {t : Nat} (h : t < s.length) (h1 : 1 ≤ s.getD t 0) : ((iN s).map PV.int).take t ++ [PV.int ((s.getD t 0 : Int) - 1)] ++ ((iN s).map PV.int).drop (t + 1) = (iN (dec t s)).map .int := by
  have e : ((s.getD t 0 : Nat) : Int) - 1 = ((s.getD t 0 - 1 : Nat) : Int) := by omega
  rw [e]
  unfold dec
  rw [← set_split h]
  simp only [List.map_append, List.map_take, List.map_drop, List.map_cons, List.map_nil]
def mostF (P : List Prt) : Nat := (maxI (0 :: P.map fun p => p.1.sum)).toNat
theorem maxI_ge : ∀ {L : List Int} {x : Int}, x ∈ L → x ≤ maxI L
  | [a], x, h => by
    rw [List.mem_singleton.mp h]
    exact Int.le_refl _
  | a :: b :: r, x, h => by
    show x ≤ max a (maxI (b :: r))
    rcases List.mem_cons.mp h with e | e
    · rw [e]; omega
    · have := maxI_ge e; omega
theorem maxI_mem : ∀ {L : List Int}, L ≠ [] → maxI L ∈ L
  | [a], _ => List.mem_singleton.mpr rfl
  | a :: b :: r, _ => by
    have ih := maxI_mem (L := b :: r) (by simp)
    show max a (maxI (b :: r)) ∈ _
    by_cases q : a ≤ maxI (b :: r)
    · rw [show max a (maxI (b :: r)) = maxI (b :: r) by omega]
      exact List.mem_cons_of_mem _ ih
    · rw [show max a (maxI (b :: r)) = a by omega]
      exact List.mem_cons_self ..
theorem mostF_ge {P : List Prt} {p : Prt} (h : p ∈ P) : p.1.sum ≤ (mostF P : Int) := by
  have := maxI_ge (L := 0 :: P.map fun p => p.1.sum) (List.mem_cons_of_mem _ (List.mem_map_of_mem h))
  unfold mostF
  omega
theorem mostF_le {P : List Prt} {d : Nat} (h : ∀ p ∈ P, p.1.sum ≤ (d : Int)) : mostF P ≤ d := by
  have := maxI_mem (L := 0 :: P.map fun p => p.1.sum) (by simp)
  unfold mostF
  rcases List.mem_cons.mp this with e | e
  · rw [e]; simp
  · obtain ⟨p, hp, e⟩ := List.mem_map.mp e
    have := h p hp
    rw [← e]
    omega
theorem mostF_eq (P : List Prt) : maxI (0 :: P.map fun p => p.1.sum) = (mostF P : Int) := by
  have := maxI_ge (L := 0 :: P.map fun p => p.1.sum) (List.mem_cons_self ..)
  unfold mostF
  omega
theorem maxI_0 {L : List Int} (h : ∀ x ∈ L, 0 ≤ x) (hne : L ≠ []) : maxI (0 :: L) = maxI L := by
  cases L with
  | nil => exact (hne rfl).elim
  | cons a r =>
    have := h _ (maxI_mem (L := a :: r) (by simp))
    show max 0 (maxI (a :: r)) = _
    omega
def topsF (P : List Prt) (ls : List (List Nat)) (s : List Nat) : Int := topF P (ls.map fun l => ((lineN l s : Nat) : Int)) (botF P 1)
noncomputable def lastF (P : List Prt) (ls : List (List Nat)) (m : Nat) : List Nat → Int := axes (rowsF (mostF P) m) m (mostF P) (topsF P ls)
noncomputable def sumL (P : List Prt) (ls : List (List Nat)) (m : Nat) : List Prt := ((rowsF (mostF P) m).filter fun s => decide (lastF P ls m s ≠ 0)).map fun s => (iN s, rat (lastF P ls m s) (botF P 1))
structure LaidOk (w k m : Nat) (P : List Prt) (ls : List (List Nat)) : Prop where
  w0 : 0 < w
  w9 : 1 + w * P.length ≤ 9000
  wb : w ≤ 9000
  p : ∀ p ∈ P, LQ w p.2 ∧ Pw ls.length 3 p.1
  k0 : 2 ≤ k
  k9 : k ≤ 900
  l : ∀ l ∈ ls, l.length = m + 1 ∧ Bd k (iN l)
  n : ls.length ≤ 20
  m9 : m ≤ 1000
  r : ∀ j ≤ m, (rowsF (mostF P) j).length ≤ 10000
  v : ∀ s ∈ rowsF (mostF P) m, ∀ l ∈ ls, lineN l s < 2 ^ k
theorem LaidOk.d {w k m : Nat} {P : List Prt} {ls : List (List Nat)} (h : LaidOk w k m P ls) : mostF P ≤ 3 := mostF_le fun p hp => (h.p p hp).2.s
theorem dot_lin : ∀ (a s : List Nat), dot (iN a) (iN s) = (lin a s : Int)
  | [], s => by rw [show iN [] = ([] : List Int) from rfl, dot_nil]; rfl
  | a :: as, [] => by rw [show iN [] = ([] : List Int) from rfl, dot_nil']; rfl
  | a :: as, x :: s => by
    show dot ((a : Int) :: iN as) ((x : Int) :: iN s) = ((a * x + lin as s : Nat) : Int)
    rw [dot_cons, dot_lin as s]
    push_cast
    rfl
theorem lineV_N (l s : List Nat) : lineV (iN l) (iN s) = (lineN l s : Int) := by
  unfold lineV lineN
  cases l with
  | nil => simp
  | cons a l =>
    show (a : Int) + dot (iN l) (iN s) = ((a + lin l s : Nat) : Int)
    rw [dot_lin]
    push_cast
    rfl
/-! ### laid: the walk -/
theorem sizes_eq {w k m : Nat} {P : List Prt} {ls : List (List Nat)} (h : LaidOk w k m P ls) {X : PV} {ck : Chk} {S : Store} {ρ : Sl} {s : List Nat} (hs : s ∈ rowsF (mostF P) m) (h1 : ρ[1]? = some (some X)) (h7 : ρ[7]? = some (some (tN s))) (hl : ρ.length = 13) (hX : itemsV X S = .ok (ls.map tN, ck) S) (hck : chk ck S) :
    eLc (.name 12) (iAny (eVar 1)) tYes' (eCall 2 m_line_at (aCons (eVar 12) (aCons (eVar 7) aNil))) [12] ρ S = .ok (.obj S.length) (S ++ [.lst ((ls.map fun l => ((lineN l s : Nat) : Int)).map .int)]) := by
  have e : (ls.map fun l => ((lineN l s : Nat) : Int)).map PV.int = ls.map fun l => PV.int ((lineN l s : Nat) : Int) := by rw [List.map_map]; rfl
  rw [e]
  refine eLc_tm tN (fun l => PV.int ((lineN l s : Nat) : Int)) ls ck (by rw [iAny_ap, eVar_ap, h1]; exact hX) hck (by have := h.n; omega) ?_
  intro l hl'
  refine ⟨_, rfl, fun zs => ?_⟩
  obtain ⟨l1, l2⟩ := h.l l hl'
  obtain ⟨s1, s2⟩ := (rows_mem _ _ s).mp hs
  have hd := h.d
  have q := m_line_at_eq (k := k) (by have := h.k0; omega) (by have := h.k9; omega) (iN l) (iN s) (tN s) .t [] (S ++ [.lst zs]) (by
    intro z
    have := congrArg List.length z
    rw [List.length_map, l1] at this
    cases this) rfl (chk_nil _) l2 (by
    intro a ha
    obtain ⟨n, hn, rfl⟩ := List.mem_map.mp ha
    have := le_sum hn
    have : 2 ^ 2 ≤ 2 ^ k := Nat.pow_le_pow_right (by decide) h.k0
    omega)
  rw [lineV_N] at q
  have r1 : ((wipeP ρ [12]).set 12 (some (tN l)))[12]? = some (some (tN l)) := List.getElem?_set_self (by
    show 12 < (ρ.set 12 none).length
    rw [List.length_set, hl]
    decide)
  have r2 : ((wipeP ρ [12]).set 12 (some (tN l)))[7]? = some (some (tN s)) := by
    rw [List.getElem?_set_ne (by decide)]
    show (ρ.set 12 none)[7]? = _
    rw [List.getElem?_set_ne (by decide)]
    exact h7
  simp only [eCall_ap, aCons_ap, aNil_ap, eVar_ap, r1, r2, bind_ap, List.length_cons, List.length_nil, Nat.zero_add, Nat.reduceAdd, if_true, q, gc_self]
theorem bnd_part (n : Nat) (p : Prt) : bnd n (partV p) = true := by
  show bnds n [tI p.1, pr p.2] = true
  simp [pr]
theorem call4_of {c d e g : CE PV} {f : DF} {ρ : Sl} {S : Store} {x y z u : PV} {r : Res PV} (h1 : c ρ S = .ok x S) (h2 : d ρ S = .ok y S) (h3 : e ρ S = .ok z S) (h4 : g ρ S = .ok u S) (h : gc S (f [x, y, z, u] S) = r) : eCall 4 f (aCons c (aCons d (aCons e (aCons g aNil)))) ρ S = r := by
  rw [eCall_ap, aCons_ap, h1, bind_ap, aCons_ap, h2, bind_ap, aCons_ap, h3, bind_ap, aCons_ap, h4, bind_ap, aNil_ap, bind_ap, bind_ap, bind_ap, bind_ap, bind_ap]
  exact h
structure BotOk (P : List Prt) : Prop where
  p : 0 < botF P 1
  z : botF P 1 ≠ 0
  b : (botF P 1).natAbs < 2 ^ 9000
  d : ∀ p ∈ P, p.2.2 ∣ botF P 1
theorem LaidOk.bot {w k m : Nat} {P : List Prt} {ls : List (List Nat)} (h : LaidOk w k m P ls) : BotOk P := by
  obtain ⟨h1, _, h3, h4⟩ := botF_ok (w := w) P 1 1 (by decide) (by decide) fun p hp => (h.p p hp).1
  exact ⟨h1, Int.ne_of_gt h1, Nat.lt_of_lt_of_le h4 (Nat.pow_le_pow_right (by decide) h.w9), h3⟩
theorem call1_of {c : CE PV} {f : DF} {ρ : Sl} {S : Store} {x : PV} {r : Res PV} (h1 : c ρ S = .ok x S) (h : gc S (f [x] S) = r) : eCall 1 f (aCons c aNil) ρ S = r := by
  rw [eCall_ap, aCons_ap, h1, bind_ap, aNil_ap, bind_ap, bind_ap]
  exact h
theorem call2_of {c d : CE PV} {f : DF} {ρ : Sl} {S : Store} {x y : PV} {r : Res PV} (h1 : c ρ S = .ok x S) (h2 : d ρ S = .ok y S) (h : gc S (f [x, y] S) = r) : eCall 2 f (aCons c (aCons d aNil)) ρ S = r := by
  rw [eCall_ap, aCons_ap, h1, bind_ap, aCons_ap, h2, bind_ap, aNil_ap, bind_ap, bind_ap, bind_ap]
  exact h
theorem call3_of {c d e : CE PV} {f : DF} {ρ : Sl} {S : Store} {x y z : PV} {r : Res PV} (h1 : c ρ S = .ok x S) (h2 : d ρ S = .ok y S) (h3 : e ρ S = .ok z S) (h : gc S (f [x, y, z] S) = r) : eCall 3 f (aCons c (aCons d (aCons e aNil))) ρ S = r := by
  rw [eCall_ap, aCons_ap, h1, bind_ap, aCons_ap, h2, bind_ap, aCons_ap, h3, bind_ap, aNil_ap, bind_ap, bind_ap, bind_ap, bind_ap]
  exact h
/-- gives x, the store only grown -/
def RJ (x : PV) (S : Store) (r : SR) : Prop := ∃ J, r = .ret x (S ++ J)
theorem m_laid_eq {w k m : Nat} {P : List Prt} {ls : List (List Nat)} (h : LaidOk w k m P ls) (X : PV) (ck : Chk) (S : Store) (hX : ∀ J, itemsV X (S ++ J) = .ok (ls.map tN, ck) (S ++ J)) (hck : chk ck S) :
    gc S (m_laid [sumT P, X, .int (m : Int)] S) = .ok (sumT (sumL P ls m)) S := by
  have hd := h.d
  have hX0 := hX []
  rw [List.append_nil] at hX0
  have hB := h.bot
  have hR := h.r m (Nat.le_refl _)
  obtain ⟨ss, hss⟩ : ∃ ss, rowsF (mostF P) m = ss := ⟨_, rfl⟩
  have sp := rows_spots m (mostF P)
  rw [hss] at sp hR
  have main : RJ (sumT (sumL P ls m)) S (b_laid [some (sumT P), some X, some (.int (m : Int)), none, none, none, none, none, none, none, none, none, none] S) := by
    unfold b_laid
    -- the greatest power
    have l1 : eLc (.tup [10, 11]) (iAny (eVar 0)) tYes' (eB sumA (aCons (eVar 10) aNil)) [10, 11] [some (sumT P), some X, some (.int (m : Int)), none, none, none, none, none, none, none, none, none, none] S = .ok (.obj S.length) (S ++ [.lst ((P.map fun p => p.1.sum).map .int)]) := by
      have e : (P.map fun p => p.1.sum).map PV.int = P.map fun p => PV.int p.1.sum := by rw [List.map_map]; rfl
      rw [e]
      refine eLc_tm partV (fun p => PV.int p.1.sum) P [] rfl (chk_nil _) ?_ ?_
      · have := h.w0
        have := h.w9
        have : P.length ≤ w * P.length := Nat.le_mul_of_pos_left _ h.w0
        omega
      · intro p hp
        refine ⟨_, rfl, fun zs => ?_⟩
        have q := sumA_tup p.1 (S ++ [.lst zs])
        show (aCons (eVar 10) aNil [some (sumT P), some X, some (.int (m : Int)), none, none, none, none, none, none, none, some (tI p.1), some (pr p.2), none] (S ++ [.lst zs])).bind _ = _
        simp only [eBin_ap, eChain_ap, eB_ap, eTup_ap, eLst_ap, eDic_ap, aCons_ap, aNil_ap, eVar_ap, eK_ap, eNeg_ap, eNot_ap, eAnd_ap, eOr_ap, eIf_ap, eCall_ap, eGc_ap, oNone_ap, oSome_ap, eSlice_ap, tBl_ap, tTru_ap, cAnd_ap, cOr_ap, cNot_ap, bind_ap, bind_apx, sb_ap, List.getElem?_cons_succ, List.getElem?_cons_zero, List.set_cons_succ, List.set_cons_zero, List.length_cons, List.length_nil, Nat.zero_add, Nat.reduceAdd, if_true, ite_true, Bool.false_eq_true, if_false, Bool.not_true, Bool.not_false, q]
    have lm : lstOf (.obj S.length) (S ++ [.lst ((P.map fun p => p.1.sum).map .int)]) = some ((P.map fun p => p.1.sum).map .int) := by
      unfold lstOf
      simp only [get_last]
    have e3 : eGc (eGc (eMaxD (eLc (.tup [10, 11]) (iAny (eVar 0)) tYes' (eB sumA (aCons (eVar 10) aNil)) [10, 11]) (eK (.int 0)))) [some (sumT P), some X, some (.int (m : Int)), none, none, none, none, none, none, none, none, none, none] S = .ok (.int (mostF P : Int)) S := by
      refine eGc2 (eGc_of (J := [.lst ((P.map fun p => p.1.sum).map .int)]) ?_ rfl)
      unfold eMaxD
      rw [l1, bind_ap, eK_ap, bind_ap, lm, Option.bind_some, intsOf_map]
      cases hP : P with
      | nil => rfl
      | cons p P' =>
        rw [← hP, ← mostF_eq]
        rw [maxI_0 (L := P.map fun p => p.1.sum) (by
          intro x hx
          obtain ⟨q, hq, rfl⟩ := List.mem_map.mp hx
          have := (h.p q hq).2.p
          exact (mem_le_sum this).1) (by rw [hP]; simp)]
        rw [hP]
        rfl
    refine st_set (.int (mostF P : Int)) S e3 ?_
    simp only [List.set_cons_succ, List.set_cons_zero]
    have e4 := m_one_bottom_eq (w := w) h.w0 P h.w9 (fun p hp => (h.p p hp).1) S
    refine st_set (.int (botF P 1)) S (by simp only [eBin_ap, eChain_ap, eB_ap, eTup_ap, eLst_ap, eDic_ap, aCons_ap, aNil_ap, eVar_ap, eK_ap, eNeg_ap, eNot_ap, eAnd_ap, eOr_ap, eIf_ap, eCall_ap, eGc_ap, oNone_ap, oSome_ap, eSlice_ap, tBl_ap, tTru_ap, cAnd_ap, cOr_ap, cNot_ap, bind_ap, bind_apx, sb_ap, List.getElem?_cons_succ, List.getElem?_cons_zero, List.set_cons_succ, List.set_cons_zero, List.length_cons, List.length_nil, Nat.zero_add, Nat.reduceAdd, if_true, ite_true, Bool.false_eq_true, if_false, Bool.not_true, Bool.not_false, e4, gc_self]) ?_
    simp only [List.set_cons_succ, List.set_cons_zero]
    have e5 := m_powers_eq m (mostF P) S h.m9 (by omega) h.r
    refine st_set (.obj S.length) (S ++ [.lst (ss.map tN)]) (call2_of (x := .int (m : Int)) (y := .int (mostF P : Int)) rfl rfl (by rw [e5, hss])) ?_
    simp only [List.set_cons_succ, List.set_cons_zero]
    refine st_set (.obj (S ++ [PO.lst (ss.map tN)]).length) (S ++ [.lst (ss.map tN)] ++ [dZ [] (topsF P ls)]) rfl ?_
    simp only [List.set_cons_succ, List.set_cons_zero]
    obtain ⟨U, hU⟩ : ∃ U, U = S ++ [PO.lst (ss.map tN)] := ⟨_, rfl⟩
    have uS : U[S.length]? = some (.lst (ss.map tN)) := by rw [hU]; exact get_last
    have hXU : ∀ J, itemsV X (U ++ J) = .ok (ls.map tN, ck) (U ++ J) := fun J => by rw [hU, List.append_assoc]; exact hX _
    have hcU : chk ck U := by rw [hU]; exact chk_J hck
    rw [← hU]
    -- the tops at the spots
    refine st_nx (P := fun ρ T => ∃ a7 a8 a9, ρ = [some (sumT P), some X, some (.int (m : Int)), some (.int (mostF P : Int)), some (.int (botF P 1)), some (.obj S.length), some (.obj U.length), a7, a8, a9, none, none, none] ∧ T = U ++ [dZ ss (topsF P ls)]) ?_ ?_
    · refine Nx.mono (nx_forI (S1 := U ++ [dZ [] (topsF P ls)]) tN ss [(S.length, .lst (ss.map tN))] (fun i ρ T => ∃ a7 a8 a9, ρ = [some (sumT P), some X, some (.int (m : Int)), some (.int (mostF P : Int)), some (.int (botF P 1)), some (.obj S.length), some (.obj U.length), a7, a8, a9, none, none, none] ∧ T = U ++ [dZ (ss.take i) (topsF P ls)]) ?_ ?_ ?_ ⟨none, none, none, rfl, rfl⟩) ?_
      · rw [iAny_ap, eVar_ap]
        exact items_obj (get_app uS)
      · rintro i ρ T ⟨a7, a8, a9, rfl, rfl⟩
        exact chk_one (get_app uS)
      · rintro i s ρ T hs ⟨a7, a8, a9, rfl, rfl⟩
        have hsm : s ∈ ss := List.mem_of_getElem? hs
        refine ⟨_, rfl, ?_⟩
        simp only [List.set_cons_succ, List.set_cons_zero]
        have tk : ss.take (i + 1) = ss.take i ++ [s] := by rw [List.take_add_one, hs]; rfl
        have sn : s ∉ ss.take i := by
          have nd := sp.nd
          rw [← List.take_append_drop (i + 1) ss, tk] at nd
          have := (List.nodup_append.mp nd).1
          have := (List.nodup_append.mp this).2.2
          intro z
          exact this s z s (List.mem_singleton.mpr rfl) rfl
        have lc := sizes_eq h (X := X) (ck := ck) (S := U ++ [dZ (ss.take i) (topsF P ls)]) (ρ := [some (sumT P), some X, some (.int (m : Int)), some (.int (mostF P : Int)), some (.int (botF P 1)), some (.obj S.length), some (.obj U.length), some (tN s), a8, a9, none, none, none]) (s := s) (by rw [hss]; exact hsm) rfl rfl rfl (hXU _) (chk_J hcU)
        have ta := m_top_at_eq (w := w) (k := k) (m := ls.length) h.w0 h.wb (by have := h.k9; omega) P (.obj (U ++ [dZ (ss.take i) (topsF P ls)]).length) (d := .l) (zs := ls.map fun l => ((lineN l s : Nat) : Int)) (S := U ++ [dZ (ss.take i) (topsF P ls)] ++ [.lst ((ls.map fun l => ((lineN l s : Nat) : Int)).map .int)]) (seqC_obj get_last) (chk_one get_last) ⟨fun z hz => by
            obtain ⟨l, hl, rfl⟩ := List.mem_map.mp hz
            have := h.v s (by rw [hss]; exact hsm) l hl
            omega⟩ (by rw [List.length_map]; exact h.n) hB.p hB.b (fun p hp => ⟨(h.p p hp).1, (h.p p hp).2, hB.d p hp⟩)
        have sv := setV_Zn (S := U ++ [dZ (ss.take i) (topsF P ls)]) (i := U.length) (ks := ss.take i) (T := topsF P ls) get_last sn (by rw [List.length_take]; omega)
        rw [set_last, ← tk] at sv
        refine nx_setIx (x := .int (topsF P ls s)) (o := .obj U.length) (k := tN s) (S1 := U ++ [dZ (ss.take i) (topsF P ls)]) ?_ rfl rfl sv ⟨_, _, _, rfl, rfl⟩
        refine eGc_of (J := [.lst ((ls.map fun l => ((lineN l s : Nat) : Int)).map .int)]) ?_ rfl
        simp only [eBin_ap, eChain_ap, eB_ap, eTup_ap, eLst_ap, eDic_ap, aCons_ap, aNil_ap, eVar_ap, eK_ap, eNeg_ap, eNot_ap, eAnd_ap, eOr_ap, eIf_ap, eCall_ap, eGc_ap, oNone_ap, oSome_ap, eSlice_ap, tBl_ap, tTru_ap, cAnd_ap, cOr_ap, cNot_ap, bind_ap, bind_apx, sb_ap, List.getElem?_cons_succ, List.getElem?_cons_zero, List.set_cons_succ, List.set_cons_zero, List.length_cons, List.length_nil, Nat.zero_add, Nat.reduceAdd, if_true, ite_true, Bool.false_eq_true, if_false, Bool.not_true, Bool.not_false, lc, ta, gc_self]
        rfl
      · rintro ρ T ⟨a7, a8, a9, rfl, rfl⟩
        rw [List.take_length]
        exact ⟨a7, a8, a9, rfl, rfl⟩
    · rintro ρ T ⟨a7, a8, a9, rfl, rfl⟩
      -- the differences
      refine st_nx (P := fun ρ T => ∃ a7 a8 a9, ρ = [some (sumT P), some X, some (.int (m : Int)), some (.int (mostF P : Int)), some (.int (botF P 1)), some (.obj S.length), some (.obj U.length), a7, a8, a9, none, none, none] ∧ T = U ++ [dZ ss (lastF P ls m)]) ?_ ?_
      · have outer := nx_for (t := .name 8) (it := iRange1 (eVar 2)) (S1 := U ++ [dZ ss (topsF P ls)]) (ρ := [some (sumT P), some X, some (.int (m : Int)), some (.int (mostF P : Int)), some (.int (botF P 1)), some (.obj S.length), some (.obj U.length), a7, a8, a9, none, none, none])
          (b := sFor (.name 9) (iRange2 (eK (.int 1)) (eBin addV (eVar 3) (eK (.int 1)))) (sFor (.name 7) (iRev (eVar 5)) (sIf (tBl (eBin geV (eBin getV (eVar 7) (eVar 8)) (eVar 9))) (sSetIx (eVar 6) (eVar 7) (eGc (eBin subV (eBin getV (eVar 6) (eVar 7)) (eBin getV (eVar 6) (eBin addV (eBin addV (eSlice (eVar 7) oNone (oSome (eVar 8))) (eTup (aCons (eBin subV (eBin getV (eVar 7) (eVar 8)) (eK (.int 1))) aNil))) (eSlice (eVar 7) (oSome (eBin addV (eVar 8) (eK (.int 1)))) oNone)))))) sNext)))
          (fun k : Nat => PV.int (k : Int)) (List.range m) [] (fun T t => lvls ss t (mostF P) T)
          (fun F ρ T => ∃ a7 a8 a9, ρ = [some (sumT P), some X, some (.int (m : Int)), some (.int (mostF P : Int)), some (.int (botF P 1)), some (.obj S.length), some (.obj U.length), a7, a8, a9, none, none, none] ∧ T = U ++ [dZ ss F])
          (topsF P ls) (it_rng rfl (by have := h.m9; omega)) (fun _ _ _ _ => chk_nil _) ?_ ⟨a7, a8, a9, rfl, rfl⟩
        · refine Nx.mono outer ?_
          rintro ρ T ⟨a7, a8, a9, rfl, rfl⟩
          refine ⟨a7, a8, a9, rfl, ?_⟩
          unfold lastF axes
          rw [hss]
        · rintro F t ρ T ht ⟨a7, a8, a9, rfl, rfl⟩
          have ht' := List.mem_range.mp ht
          refine ⟨_, rfl, ?_⟩
          simp only [List.set_cons_succ, List.set_cons_zero]
          refine Nx.mono (nx_for (S1 := U ++ [dZ ss F]) (fun L : Nat => PV.int (1 + (L : Int))) (List.range (mostF P)) [] (fun T L => ss.reverse.foldl (step1 t (L + 1)) T)
            (fun F ρ T => ∃ a7 a9, ρ = [some (sumT P), some X, some (.int (m : Int)), some (.int (mostF P : Int)), some (.int (botF P 1)), some (.obj S.length), some (.obj U.length), a7, some (.int (t : Int)), a9, none, none, none] ∧ T = U ++ [dZ ss F]) F ?_ (fun _ _ _ _ => chk_nil _) ?_ ⟨a7, a9, rfl, rfl⟩) ?_
          · have e := iRange2_nat (ca := eK (.int 1)) (cb := eBin addV (eVar 3) (eK (.int 1))) (ρ := [some (sumT P), some X, some (.int (m : Int)), some (.int (mostF P : Int)), some (.int (botF P 1)), some (.obj S.length), some (.obj U.length), a7, some (.int (t : Int)), a9, none, none, none]) (S := U ++ [dZ ss F]) (a := 1) (b := mostF P + 1) rfl (by simp only [eBin_ap, eChain_ap, eB_ap, eTup_ap, eLst_ap, eDic_ap, aCons_ap, aNil_ap, eVar_ap, eK_ap, eNeg_ap, eNot_ap, eAnd_ap, eOr_ap, eIf_ap, eCall_ap, eGc_ap, oNone_ap, oSome_ap, eSlice_ap, tBl_ap, tTru_ap, cAnd_ap, cOr_ap, cNot_ap, bind_ap, bind_apx, sb_ap, List.getElem?_cons_succ, List.getElem?_cons_zero, List.set_cons_succ, List.set_cons_zero, List.length_cons, List.length_nil, Nat.zero_add, Nat.reduceAdd, if_true, ite_true, Bool.false_eq_true, if_false, Bool.not_true, Bool.not_false, addV_int]; push_cast; rfl) (by omega) (by omega)
            rw [e]
            unfold rngL
            rw [show (((mostF P + 1 : Nat) : Int) - ((1 : Nat) : Int)).toNat = mostF P by omega]
            rfl
          · rintro G L ρ T hL ⟨a7, a9, rfl, rfl⟩
            refine ⟨_, rfl, ?_⟩
            simp only [List.set_cons_succ, List.set_cons_zero]
            refine Nx.mono (nx_for (S1 := U ++ [dZ ss G]) tN ss.reverse [(S.length, .lst (ss.map tN))] (step1 t (L + 1))
              (fun F ρ T => ∃ a7, ρ = [some (sumT P), some X, some (.int (m : Int)), some (.int (mostF P : Int)), some (.int (botF P 1)), some (.obj S.length), some (.obj U.length), a7, some (.int (t : Int)), some (.int (1 + (L : Int))), none, none, none] ∧ T = U ++ [dZ ss F]) G ?_ ?_ ?_ ⟨a7, rfl, rfl⟩) ?_
            · unfold TL.iRev
              rw [eVar_ap]
              show (match seqC (.obj S.length) (U ++ [dZ ss G]) with | some (.l, xs, ck) => Res.ok (xs.reverse, ck) (U ++ [dZ ss G]) | _ => .stuck) = _
              rw [seqC_obj (get_app uS), List.map_reverse]
            · rintro F ρ T ⟨a7, rfl, rfl⟩
              exact chk_one (get_app uS)
            · rintro F s ρ T hs ⟨a7, rfl, rfl⟩
              have hs' := List.mem_reverse.mp hs
              have sl := ((sp.mem s).mp hs').1
              refine ⟨_, rfl, ?_⟩
              simp only [List.set_cons_succ, List.set_cons_zero]
              have g1 := get_tN (s := s) (j := t) (by omega) (U ++ [dZ ss F])
              have tst : tBl (eBin geV (eBin getV (eVar 7) (eVar 8)) (eVar 9)) [some (sumT P), some X, some (.int (m : Int)), some (.int (mostF P : Int)), some (.int (botF P 1)), some (.obj S.length), some (.obj U.length), some (tN s), some (.int (t : Int)), some (.int (1 + (L : Int))), none, none, none] (U ++ [dZ ss F]) = .ok (decide (L + 1 ≤ s.getD t 0)) (U ++ [dZ ss F]) := by
                rw [tBl_ap, eBin_of (f := geV) (x := .int (s.getD t 0 : Int)) (y := .int (1 + (L : Int))) (eBin_of rfl rfl g1) rfl rfl]
                show Res.ok (decide ((1 : Int) + (L : Int) ≤ (s.getD t 0 : Int))) _ = _
                rw [show decide ((1 : Int) + (L : Int) ≤ (s.getD t 0 : Int)) = decide (L + 1 ≤ s.getD t 0) from decide_eq_decide.mpr (by omega)]
              by_cases q : L + 1 ≤ s.getD t 0
              · rw [decide_eq_true q] at tst
                have hdm := sp.decs (t := t) hs' (by omega)
                have g2 := getV_Z (S := U ++ [dZ ss F]) (i := U.length) (ks := ss) (T := F) get_last hs'
                have g3 := getV_Z (S := U ++ [dZ ss F]) (i := U.length) (ks := ss) (T := F) get_last hdm
                have sv := setV_Z (S := U ++ [dZ ss F]) (i := U.length) (ks := ss) (T := F) get_last hs' (F s - F (dec t s)) (by omega)
                rw [set_last] at sv
                have es : step1 t (L + 1) F s = updF F s (F s - F (dec t s)) := by unfold step1; rw [if_pos q]
                have inner : Nx (fun ρ T => ∃ a7, ρ = [some (sumT P), some X, some (.int (m : Int)), some (.int (mostF P : Int)), some (.int (botF P 1)), some (.obj S.length), some (.obj U.length), a7, some (.int (t : Int)), some (.int (1 + (L : Int))), none, none, none] ∧ T = U ++ [dZ ss (step1 t (L + 1) F s)]) (sSetIx (eVar 6) (eVar 7) (eGc (eBin subV (eBin getV (eVar 6) (eVar 7)) (eBin getV (eVar 6) (eBin addV (eBin addV (eSlice (eVar 7) oNone (oSome (eVar 8))) (eTup (aCons (eBin subV (eBin getV (eVar 7) (eVar 8)) (eK (.int 1))) aNil))) (eSlice (eVar 7) (oSome (eBin addV (eVar 8) (eK (.int 1)))) oNone))))) [some (sumT P), some X, some (.int (m : Int)), some (.int (mostF P : Int)), some (.int (botF P 1)), some (.obj S.length), some (.obj U.length), some (tN s), some (.int (t : Int)), some (.int (1 + (L : Int))), none, none, none] (U ++ [dZ ss F])) := by
                  rw [es]
                  refine nx_setIx (x := .int (F s - F (dec t s))) (o := .obj U.length) (k := tN s) (S1 := U ++ [dZ ss F]) (eGc_self ?_) rfl rfl sv ⟨_, rfl, rfl⟩
                  have s1 : sliceV (tN s) none (some (t : Int)) (U ++ [dZ ss F]) = .ok (.tup (((iN s).map PV.int).take t)) (U ++ [dZ ss F]) := by
                    show Res.ok (PV.tup (cutP ((iN s).map PV.int) none (some (t : Int)))) _ = _
                    rw [cut_take]
                  have s2 : sliceV (tN s) (some ((t : Int) + 1)) none (U ++ [dZ ss F]) = .ok (.tup (((iN s).map PV.int).drop (t + 1))) (U ++ [dZ ss F]) := by
                    show Res.ok (PV.tup (cutP ((iN s).map PV.int) (some ((t : Int) + 1)) none)) _ = _
                    rw [show (t : Int) + 1 = ((t + 1 : Nat) : Int) by push_cast; rfl, cut_drop]
                  have d1 := dec_tup (s := s) (t := t) (by omega) (by omega)
                  have m9 := h.m9
                  have l1' : (1 : Nat) ≤ sizeLine := line2 (by decide)
                  have a1 : addV (.tup (((iN s).map PV.int).take t)) (.tup [PV.int ((s.getD t 0 : Int) - 1)]) (U ++ [dZ ss F]) = .ok (.tup (((iN s).map PV.int).take t ++ [PV.int ((s.getD t 0 : Int) - 1)])) (U ++ [dZ ss F]) := by
                    show (if _ ≤ sizeLine then _ else _) = _
                    rw [if_pos (by simp only [List.length_take, List.length_map, List.length_cons, List.length_nil]; exact line2 (by omega))]
                  have a2 : addV (.tup (((iN s).map PV.int).take t ++ [PV.int ((s.getD t 0 : Int) - 1)])) (.tup (((iN s).map PV.int).drop (t + 1))) (U ++ [dZ ss F]) = .ok (tN (dec t s)) (U ++ [dZ ss F]) := by
                    show (if _ ≤ sizeLine then Res.ok (PV.tup (_ ++ _)) _ else _) = _
                    rw [if_pos (by simp only [List.length_append, List.length_take, List.length_drop, List.length_map, List.length_cons, List.length_nil]; exact line2 (by omega)), d1]
                  simp only [eBin_ap, eChain_ap, eB_ap, eTup_ap, eLst_ap, eDic_ap, aCons_ap, aNil_ap, eVar_ap, eK_ap, eNeg_ap, eNot_ap, eAnd_ap, eOr_ap, eIf_ap, eCall_ap, eGc_ap, oNone_ap, oSome_ap, eSlice_ap, tBl_ap, tTru_ap, cAnd_ap, cOr_ap, cNot_ap, bind_ap, bind_apx, sb_ap, List.getElem?_cons_succ, List.getElem?_cons_zero, List.set_cons_succ, List.set_cons_zero, List.length_cons, List.length_nil, Nat.zero_add, Nat.reduceAdd, if_true, ite_true, Bool.false_eq_true, if_false, Bool.not_true, Bool.not_false, g1, g2, g3, s1, s2, addV_int, a1, a2, f2I_ap, l1']
                obtain ⟨ρ', T', e', p'⟩ := inner
                exact ⟨ρ', T', by rw [sIf_ap, tst, sb_ap, if_pos rfl]; exact e', p'⟩
              · rw [decide_eq_false q] at tst
                have es : step1 t (L + 1) F s = F := by unfold step1; rw [if_neg q]
                rw [es]
                exact nx_no tst ⟨_, rfl, rfl⟩
            · rintro ρ T ⟨a7, rfl, rfl⟩
              exact ⟨_, _, rfl, rfl⟩
          · rintro ρ T ⟨a7, a9, rfl, rfl⟩
            exact ⟨_, _, _, rfl, rfl⟩
      · rintro ρ T ⟨a7, a8, a9, rfl, rfl⟩
        -- what is told
        have l2 : (2 : Nat) ≤ sizeLine := line2 (by decide)
        have lc := eLc_ty (t := .name 7) (te := eTup (aCons (eVar 7) (aCons (eCall 2 m_ratio (aCons (eBin getV (eVar 6) (eVar 7)) (aCons (eVar 4) aNil))) aNil))) (tt := tBl (eBin neV (eBin getV (eVar 6) (eVar 7)) (eK (.int 0)))) tN (fun s => partV (iN s, rat (lastF P ls m s) (botF P 1))) (fun s => decide (lastF P ls m s ≠ 0)) ss [(S.length, .lst (ss.map tN))] (vs := [7]) (it := iAny (eVar 5))
          (ρ := [some (sumT P), some X, some (.int (m : Int)), some (.int (mostF P : Int)), some (.int (botF P 1)), some (.obj S.length), some (.obj U.length), a7, a8, a9, none, none, none]) (S := U ++ [dZ ss (lastF P ls m)]) (S1 := U ++ [dZ ss (lastF P ls m)]) (by rw [iAny_ap, eVar_ap]; exact items_obj (get_app uS)) (chk_one (get_app uS)) (by omega) (by
            intro s hs
            refine ⟨[some (sumT P), some X, some (.int (m : Int)), some (.int (mostF P : Int)), some (.int (botF P 1)), some (.obj S.length), some (.obj U.length), some (tN s), a8, a9, none, none, none], rfl, fun zs => ?_⟩
            have g2 := getV_Z (S := U ++ [dZ ss (lastF P ls m)] ++ [.lst zs]) (i := U.length) (ks := ss) (T := lastF P ls m) (get_app get_last) hs
            have rt := m_ratio_eq (lastF P ls m s) (botF P 1) (U ++ [dZ ss (lastF P ls m)] ++ [.lst zs]) hB.z hB.b (Nat.le_refl _)
            constructor
            · simp only [eBin_ap, eChain_ap, eB_ap, eTup_ap, eLst_ap, eDic_ap, aCons_ap, aNil_ap, eVar_ap, eK_ap, eNeg_ap, eNot_ap, eAnd_ap, eOr_ap, eIf_ap, eCall_ap, eGc_ap, oNone_ap, oSome_ap, eSlice_ap, tBl_ap, tTru_ap, cAnd_ap, cOr_ap, cNot_ap, bind_ap, bind_apx, sb_ap, List.getElem?_cons_succ, List.getElem?_cons_zero, List.set_cons_succ, List.set_cons_zero, List.length_cons, List.length_nil, Nat.zero_add, Nat.reduceAdd, if_true, ite_true, Bool.false_eq_true, if_false, Bool.not_true, Bool.not_false, g2, eqG_int]
              simp
            · intro _
              simp only [eBin_ap, eChain_ap, eB_ap, eTup_ap, eLst_ap, eDic_ap, aCons_ap, aNil_ap, eVar_ap, eK_ap, eNeg_ap, eNot_ap, eAnd_ap, eOr_ap, eIf_ap, eCall_ap, eGc_ap, oNone_ap, oSome_ap, eSlice_ap, tBl_ap, tTru_ap, cAnd_ap, cOr_ap, cNot_ap, bind_ap, bind_apx, sb_ap, List.getElem?_cons_succ, List.getElem?_cons_zero, List.set_cons_succ, List.set_cons_zero, List.length_cons, List.length_nil, Nat.zero_add, Nat.reduceAdd, if_true, ite_true, Bool.false_eq_true, if_false, Bool.not_true, Bool.not_false, g2, rt, gc_self, l2]
              rfl)
        have e := tuple_of lc (bnds_all.mpr fun x hx => by
          obtain ⟨s, _, rfl⟩ := List.mem_map.mp hx
          exact bnd_part _ _)
        have e2 : ((ss.filter fun s => decide (lastF P ls m s ≠ 0)).map fun s => partV (iN s, rat (lastF P ls m s) (botF P 1))) = (sumL P ls m).map partV := by
          unfold sumL
          rw [hss, List.map_map]
          rfl
        rw [e2] at e
        refine ⟨[.lst (ss.map tN), dZ ss (lastF P ls m)], ?_⟩
        rw [ret_eq (eGc2 e), hU, List.append_assoc]
        rfl
  obtain ⟨J, e⟩ := main
  show gc S (outS (b_laid [some (sumT P), some X, some (.int (m : Int)), none, none, none, none, none, none, none, none, none, none] S)) = _
  rw [e]
  refine gc_app (bnds_all.mpr fun x hx => ?_)
  obtain ⟨p, _, rfl⟩ := List.mem_map.mp hx
  show bnds _ [tI p.1, pr p.2] = true
  simp [pr]

end K36

set_option Elab.async false
set_option linter.all false
set_option maxRecDepth 100000
set_option maxHeartbeats 1000000
set_option exponentiation.threshold 40000
namespace K36
open PySem PySem.Spec PyProof.Rows L2 TL
/-! ### what lines laid in tell -/
abbrev nN (k : List Int) : List Nat := k.map Int.toNat
theorem iN_nN : ∀ {k : List Int}, (∀ a ∈ k, 0 ≤ a) → iN (nN k) = k
  | [], _ => rfl
  | a :: k, h => by
    have ih := iN_nN (k := k) fun x hx => h x (List.mem_cons_of_mem _ hx)
    have ha := h a (List.mem_cons_self ..)
    show ((a.toNat : Nat) : Int) :: iN (nN k) = _
    rw [ih, Int.toNat_of_nonneg ha]
theorem nN_iN (s : List Nat) : nN (iN s) = s := by
  show List.map Int.toNat (List.map (fun n : Nat => (n : Int)) s) = s
  rw [List.map_map]
  have e : (Int.toNat ∘ fun n : Nat => (n : Int)) = id := by funext n; simp
  rw [e, List.map_id]
theorem sum_nN {k : List Int} (h : ∀ a ∈ k, 0 ≤ a) : ((nN k).sum : Int) = k.sum := by
  rw [← sum_iN, iN_nN h]
def coP (P : List Prt) (B : Int) : Co := P.map fun p => (nN p.1, p.2.1 * B.fdiv p.2.2)
theorem wz_plain : ∀ (zs : List Int) (s : List Nat) (k : List Int), zs = iN s → (∀ a ∈ k, 0 ≤ a ∧ a ≤ 3) → wz zs k = plain s (nN k)
  | [], [], k, _, _ => by cases k <;> rfl
  | [], _ :: _, _, h, _ => by cases h
  | _ :: _, [], _, h, _ => by cases h
  | z :: zs, n :: s, [], _, _ => rfl
  | z :: zs, n :: s, a :: k, h, hk => by
    injection h with h1 h2
    obtain ⟨a0, a3⟩ := hk a (List.mem_cons_self ..)
    show W z.toNat a.toNat * wz zs k = (bin n a.toNat : Int) * plain s (nN k)
    rw [wz_plain zs s k h2 fun x hx => hk x (List.mem_cons_of_mem _ hx), h1, W_bin _ _ (by omega)]
    rfl
theorem topF_val {l : Nat} {P : List Prt} (hP : ∀ p ∈ P, Pw l 3 p.1) (s : List Nat) (B : Int) : topF P (iN s) B = valC (coP P B) s := by
  unfold topF valC coP
  rw [isum_sum, isum_map]
  refine isum_congr fun p hp => ?_
  rw [wz_plain (iN s) s p.1 rfl fun a ha => by have := (hP p hp).le ha; omega]
theorem topsF_val {l : Nat} {P : List Prt} (hP : ∀ p ∈ P, Pw l 3 p.1) (ls : List (List Nat)) (s : List Nat) : topsF P ls s = valC (coP P (botF P 1)) (ls.map fun l => lineN l s) := by
  unfold topsF
  rw [← topF_val hP]
  congr 1
  show _ = List.map (fun n : Nat => (n : Int)) (List.map _ ls)
  rw [List.map_map]
  rfl
theorem coP_len {l : Nat} {P : List Prt} (hP : ∀ p ∈ P, Pw l 3 p.1) (B : Int) : ∀ p ∈ coP P B, p.1.length = l := by
  intro p hp
  obtain ⟨q, hq, rfl⟩ := List.mem_map.mp hp
  show (nN q.1).length = l
  rw [List.length_map, (hP q hq).l]
theorem coP_deg {l : Nat} {P : List Prt} (hP : ∀ p ∈ P, Pw l 3 p.1) (B : Int) : ∀ p ∈ coP P B, p.1.sum ≤ mostF P := by
  intro p hp
  obtain ⟨q, hq, rfl⟩ := List.mem_map.mp hp
  have h1 := mostF_ge hq
  have h2 := sum_nN (hP q hq).p
  show (nN q.1).sum ≤ _
  omega
/-- coefficients are told by the values -/
theorem coef_uniq {m : Nat} {C D : Co} (hC : ∀ p ∈ C, p.1.length = m) (hD : ∀ p ∈ D, p.1.length = m) (h : ∀ n, n.length = m → valC C n = valC D n) (s : List Nat) (hs : s.length = m) : coef C s = coef D s := by
  have sp := rows_spots m s.sum
  have hm : s ∈ rowsF s.sum m := (rows_mem _ _ _).mpr ⟨hs, Nat.le_refl _⟩
  rw [← axes_coef sp hC (valC C) (fun _ _ => rfl) s hm, ← axes_coef sp hD (valC C) (fun r hr => h r ((rows_mem _ _ r).mp hr).1) s hm]
structure Told (m : Nat) (P : List Prt) (ls : List (List Nat)) (C : Co) : Prop where
  l : ∀ p ∈ C, p.1.length = m ∧ p.1.sum ≤ mostF P
  v : ∀ n, n.length = m → topsF P ls n = valC C n
theorem told_ex {m : Nat} {P : List Prt} {ls : List (List Nat)} (hP : ∀ p ∈ P, Pw ls.length 3 p.1) (hl : ∀ l ∈ ls, l.length = m + 1) : ∃ C, Told m P ls C := by
  obtain ⟨C, c1, c2⟩ := Pm.laid cl_any (m := m) (d := mostF P) hl (P := coP P (botF P 1)) fun p hp => ⟨coP_len hP _ p hp, coP_deg hP _ p hp, trivial⟩
  exact ⟨C, fun p hp => ⟨(c1 p hp).1, (c1 p hp).2.1⟩, fun n hn => (topsF_val hP ls n).trans (c2 n hn)⟩
theorem lastF_coef {m : Nat} {P : List Prt} {ls : List (List Nat)} {C : Co} (t : Told m P ls C) {s : List Nat} (hs : s ∈ rowsF (mostF P) m) : lastF P ls m s = coef C s :=
  axes_coef (rows_spots m (mostF P)) (fun p hp => (t.l p hp).1) (topsF P ls) (fun r hr => t.v r ((rows_mem _ _ r).mp hr).1) s hs
theorem coef_far {C : Co} {d : Nat} (h : ∀ p ∈ C, p.1.sum ≤ d) {s : List Nat} (hs : d < s.sum) : coef C s = 0 := isum_zero fun p hp => by
  rw [if_neg]
  intro e
  have := h p hp
  rw [e] at this
  omega
/-- a sum told by coefficients, in order -/
noncomputable def sumC (m d : Nat) (C : Co) (B : Int) : List Prt := ((rowsF d m).filter fun s => decide (coef C s ≠ 0)).map fun s => (iN s, rat (coef C s) B)
theorem sumL_eq {m : Nat} {P : List Prt} {ls : List (List Nat)} {C : Co} (t : Told m P ls C) : sumL P ls m = sumC m (mostF P) C (botF P 1) := by
  unfold sumL sumC
  have e : (rowsF (mostF P) m).filter (fun s => decide (lastF P ls m s ≠ 0)) = (rowsF (mostF P) m).filter fun s => decide (coef C s ≠ 0) := List.filter_congr fun s hs => by rw [lastF_coef t hs]
  rw [e]
  refine List.map_congr_left fun s hs => ?_
  rw [lastF_coef t (List.mem_filter.mp hs).1]
theorem lex_le : ∀ {a b : List Nat}, a < b → lexLe (iN a) (iN b) = true
  | [], b, _ => rfl
  | _ :: _, [], h => by cases h
  | x :: a, y :: b, h => by
    rw [List.cons_lt_cons_iff] at h
    show lexLe ((x : Int) :: iN a) ((y : Int) :: iN b) = true
    rw [lexLe_cons]
    rcases h with h | ⟨h1, h2⟩
    · exact .inl (by omega)
    · exact .inr ⟨by omega, lex_le h2⟩
theorem sumC_pw (m d : Nat) (C : Co) (B : Int) : (sumC m d C B).Pairwise fun p q => lexLe p.1 q.1 = true := by
  unfold sumC
  rw [List.pairwise_map]
  exact (List.Pairwise.filter _ (rows_lex d m)).imp fun h => lex_le h
theorem sumC_nd (m d : Nat) (C : Co) (B : Int) : ((sumC m d C B).map (·.1)).Nodup := by
  unfold sumC
  rw [List.map_map]
  unfold List.Nodup
  rw [List.pairwise_map]
  exact (List.Pairwise.filter _ (rows_spots m d).nd).imp fun h e => h (iN_inj e)
theorem prts_eq {A B : List Prt} (hA : A.Pairwise fun p q => lexLe p.1 q.1 = true) (hB : B.Pairwise fun p q => lexLe p.1 q.1 = true) (nA : (A.map (·.1)).Nodup) (nB : (B.map (·.1)).Nodup) (h : ∀ p, p ∈ A ↔ p ∈ B) : A = B := by
  have inj : ∀ {L : List Prt}, (L.map (·.1)).Nodup → L.Nodup := fun {L} h => by
    unfold List.Nodup at h ⊢
    rw [List.pairwise_map] at h
    exact h.imp fun {a b} hab e => hab (by rw [e])
  have keyed : ∀ {L : List Prt}, (L.map (·.1)).Nodup → ∀ p ∈ L, ∀ q ∈ L, p.1 = q.1 → p = q := by
    intro L
    induction L with
    | nil => intro _ p hp; cases hp
    | cons a L ih =>
      intro nd p hp q hq e
      rw [List.map_cons, List.nodup_cons] at nd
      rcases List.mem_cons.mp hp with z | z
      · rcases List.mem_cons.mp hq with y | y
        · rw [z, y]
        · exact absurd (List.mem_map.mpr ⟨q, y, by rw [← e, z]⟩) nd.1
      · rcases List.mem_cons.mp hq with y | y
        · exact absurd (List.mem_map.mpr ⟨p, z, by rw [e, y]⟩) nd.1
        · exact ih nd.2 p z q y e
  refine List.Perm.eq_of_pairwise (fun a b ha hb h1 h2 => keyed nA a ha b ((h b).mpr hb) (lexLe_anti a.1 b.1 h1 h2)) hA hB ((List.perm_ext_iff_of_nodup (inj nA) (inj nB)).mpr h)
theorem sumC_mem {m d : Nat} {C : Co} {B : Int} (hd : ∀ p ∈ C, p.1.sum ≤ d) (p : Prt) : p ∈ sumC m d C B ↔ ∃ s : List Nat, s.length = m ∧ coef C s ≠ 0 ∧ p = (iN s, rat (coef C s) B) := by
  unfold sumC
  rw [List.mem_map]
  constructor
  · rintro ⟨s, hs, rfl⟩
    obtain ⟨h1, h2⟩ := List.mem_filter.mp hs
    exact ⟨s, ((rows_mem _ _ s).mp h1).1, of_decide_eq_true h2, rfl⟩
  · rintro ⟨s, h1, h2, rfl⟩
    refine ⟨s, List.mem_filter.mpr ⟨(rows_mem _ _ s).mpr ⟨h1, ?_⟩, decide_eq_true h2⟩, rfl⟩
    rcases Nat.lt_or_ge d s.sum with q | q
    · exact absurd (coef_far hd q) h2
    · exact q
theorem rat_cong {a b c d : Int} (hb : 0 < b) (hd : 0 < d) (h : a * d = c * b) : rat a b = rat c d := by
  obtain ⟨p1, p2⟩ := rat_pos a b (by omega)
  obtain ⟨q1, q2⟩ := rat_pos c d (by omega)
  have e1 := rat_cross a b (by omega)
  have e2 := rat_cross c d (by omega)
  refine low_inj p1 q1 p2 q2 ?_
  have key : (rat a b).1 * (rat c d).2 * (b * d) = (rat c d).1 * (rat a b).2 * (b * d) := by
    have l : (rat a b).1 * (rat c d).2 * (b * d) = (rat a b).1 * b * (rat c d).2 * d := by grind
    have r : (rat c d).1 * (rat a b).2 * (b * d) = (rat c d).1 * d * (rat a b).2 * b := by grind
    rw [l, r, e1, e2]
    grind
  exact Int.eq_of_mul_eq_mul_right (Int.ne_of_gt (Int.mul_pos hb hd)) key
/-- two sums whose coefficients are alike but for their bottoms -/
theorem sumC_eq {m d d' : Nat} {C D : Co} {B E : Int} (hC : ∀ p ∈ C, p.1.sum ≤ d) (hD : ∀ p ∈ D, p.1.sum ≤ d') (hB : 0 < B) (hE : 0 < E) (h : ∀ s : List Nat, s.length = m → coef C s * E = coef D s * B) : sumC m d C B = sumC m d' D E := by
  refine prts_eq (sumC_pw ..) (sumC_pw ..) (sumC_nd ..) (sumC_nd ..) fun p => ?_
  rw [sumC_mem hC, sumC_mem hD]
  have z : ∀ s : List Nat, s.length = m → (coef C s ≠ 0 ↔ coef D s ≠ 0) := by
    intro s hs
    have e := h s hs
    constructor
    · intro q z
      rw [z, Int.zero_mul] at e
      exact q ((Int.mul_eq_zero.mp e).resolve_right (by omega))
    · intro q z
      rw [z, Int.zero_mul] at e
      exact q ((Int.mul_eq_zero.mp e.symm).resolve_right (by omega))
  constructor
  · rintro ⟨s, h1, h2, rfl⟩
    exact ⟨s, h1, (z s h1).mp h2, by rw [rat_cong hB hE (h s h1)]⟩
  · rintro ⟨s, h1, h2, rfl⟩
    exact ⟨s, h1, (z s h1).mpr h2, by rw [rat_cong hB hE (h s h1)]⟩
/-- what the bottoms divide -/
theorem coP_scale {P : List Prt} {B : Int} (h : ∀ p ∈ P, p.2.2 ∣ B ∧ 0 < p.2.2) {p : Prt} (hp : p ∈ P) : p.2.1 * B.fdiv p.2.2 * p.2.2 = p.2.1 * B := by
  obtain ⟨h1, h2⟩ := h p hp
  rw [Int.mul_assoc, fdiv_exact (by omega) h1]
/-- the value of what is told -/
theorem sumC_val {m d : Nat} {C : Co} {B E : Int} (hC : ∀ p ∈ C, p.1.length = m ∧ p.1.sum ≤ d) (hB : 0 < B) (hE : ∀ p ∈ sumC m d C B, p.2.2 ∣ E) (n : List Nat) : valC (coP (sumC m d C B) E) n * B = valC C n * E := by
  have e1 : valC (coP (sumC m d C B) E) n = isum (fun s => (rat (coef C s) B).1 * E.fdiv (rat (coef C s) B).2 * plain n s) ((rowsF d m).filter fun s => decide (coef C s ≠ 0)) := by
    unfold valC coP
    rw [isum_map]
    unfold sumC
    rw [isum_map]
    exact isum_congr fun s _ => by rw [nN_iN]
  have e2 : isum (fun s => coef C s * plain n s) ((rowsF d m).filter fun s => decide (coef C s ≠ 0)) = valC C n := by
    rw [← val_coef (rows_spots m d) hC n]
    generalize rowsF d m = ss
    induction ss with
    | nil => rfl
    | cons s ss ih =>
      rw [List.filter_cons]
      by_cases q : coef C s = 0
      · rw [if_neg (by simp [q])]
        show _ = coef C s * plain n s + _
        rw [q, Int.zero_mul, Int.zero_add]
        exact ih
      · rw [if_pos (by simp [q])]
        show coef C s * plain n s + _ = coef C s * plain n s + _
        rw [ih]
  rw [e1, Int.mul_comm, isum_mul, ← e2, Int.mul_comm _ E, isum_mul]
  refine isum_congr fun s hs => ?_
  have hm : (iN s, rat (coef C s) B) ∈ sumC m d C B := List.mem_map.mpr ⟨s, hs, rfl⟩
  have hd := hE _ hm
  obtain ⟨p1, _⟩ := rat_pos (coef C s) B (by omega)
  have x := rat_cross (coef C s) B (by omega)
  have y := fdiv_exact (a := E) (g := (rat (coef C s) B).2) (by omega) hd
  have : B * ((rat (coef C s) B).1 * E.fdiv (rat (coef C s) B).2) = E * coef C s := by
    have l : B * ((rat (coef C s) B).1 * E.fdiv (rat (coef C s) B).2) = (rat (coef C s) B).1 * B * E.fdiv (rat (coef C s) B).2 := by grind
    rw [l, x]
    have r : coef C s * (rat (coef C s) B).2 * E.fdiv (rat (coef C s) B).2 = coef C s * (E.fdiv (rat (coef C s) B).2 * (rat (coef C s) B).2) := by grind
    rw [r, y, Int.mul_comm]
  rw [← Int.mul_assoc, this, Int.mul_assoc]
/-! ### how great it is -/
theorem pass_bd {m d : Nat} {ss : List (List Nat)} (h : Spots m d ss) (t L : Nat) (T : List Nat → Int) (M : Nat) (hT : ∀ s ∈ ss, (T s).natAbs ≤ M) : ∀ s ∈ ss, (ss.reverse.foldl (step1 t (L + 1)) T s).natAbs ≤ 2 * M := by
  intro s hs
  rw [(pass_ok t (L + 1) ss.reverse T (h.rev t L)).1 s (List.mem_reverse.mpr hs)]
  unfold new1
  have h1 := hT s hs
  split
  · rename_i q
    have h2 := hT _ (h.decs (t := t) hs (by omega))
    omega
  · omega
theorem lvls_bd {m d : Nat} {ss : List (List Nat)} (h : Spots m d ss) (t : Nat) (T : List Nat → Int) (M : Nat) (hT : ∀ s ∈ ss, (T s).natAbs ≤ M) : ∀ (n : Nat), ∀ s ∈ ss, (lvls ss t n T s).natAbs ≤ 2 ^ n * M
  | 0, s, hs => by
    show (T s).natAbs ≤ _
    have := hT s hs
    simpa using this
  | n + 1, s, hs => by
    have ih := lvls_bd h t T M hT n
    unfold lvls
    rw [List.range_succ, List.foldl_append]
    have := pass_bd h t n (lvls ss t n T) (2 ^ n * M) ih s hs
    rw [Nat.pow_succ, Nat.mul_comm (2 ^ n) 2, Nat.mul_assoc]
    exact this
theorem axes_bd {m d : Nat} {ss : List (List Nat)} (h : Spots m d ss) (n : Nat) (T : List Nat → Int) (M : Nat) (hT : ∀ s ∈ ss, (T s).natAbs ≤ M) : ∀ (k : Nat), ∀ s ∈ ss, (axes ss k n T s).natAbs ≤ 2 ^ (n * k) * M
  | 0, s, hs => by
    show (T s).natAbs ≤ _
    have := hT s hs
    simpa using this
  | k + 1, s, hs => by
    have ih := axes_bd h n T M hT k
    unfold axes
    rw [List.range_succ, List.foldl_append]
    have := lvls_bd h k (axes ss k n T) (2 ^ (n * k) * M) ih n s hs
    rw [Nat.mul_succ, Nat.pow_add, Nat.mul_comm (2 ^ (n * k)), Nat.mul_assoc]
    exact this
def scaleC (c : Int) (C : Co) : Co := C.map fun p => (p.1, c * p.2)
theorem scaleC_val (c : Int) (C : Co) (n : List Nat) : valC (scaleC c C) n = c * valC C n := by
  unfold valC scaleC
  rw [isum_map, isum_mul]
  exact isum_congr fun p _ => Int.mul_assoc ..
theorem scaleC_coef (c : Int) (C : Co) (s : List Nat) : coef (scaleC c C) s = c * coef C s := by
  unfold coef scaleC
  rw [isum_map, isum_mul]
  refine isum_congr fun p _ => ?_
  by_cases q : p.1 = s
  · simp only [q, if_true]
  · simp only [q, if_false, Int.mul_zero]
theorem scaleC_len {m : Nat} {c : Int} {C : Co} (h : ∀ p ∈ C, p.1.length = m) : ∀ p ∈ scaleC c C, p.1.length = m := by
  intro p hp
  obtain ⟨q, hq, rfl⟩ := List.mem_map.mp hp
  exact h q hq
/-- sums alike at all sizes are told alike -/
theorem sumL_same {m : Nat} {P Q : List Prt} {ls ks : List (List Nat)} {C D : Co} (t : Told m P ls C) (u : Told m Q ks D) (hP : 0 < botF P 1) (hQ : 0 < botF Q 1) (h : ∀ n, n.length = m → topsF P ls n * botF Q 1 = topsF Q ks n * botF P 1) : sumL P ls m = sumL Q ks m := by
  rw [sumL_eq t, sumL_eq u]
  refine sumC_eq (fun p hp => (t.l p hp).2) (fun p hp => (u.l p hp).2) hP hQ fun s hs => ?_
  have := coef_uniq (scaleC_len (c := botF Q 1) fun p hp => (t.l p hp).1) (scaleC_len (c := botF P 1) fun p hp => (u.l p hp).1) (fun n hn => by
    rw [scaleC_val, scaleC_val, ← t.v n hn, ← u.v n hn, Int.mul_comm, h n hn, Int.mul_comm]) s hs
  rw [scaleC_coef, scaleC_coef] at this
  rw [Int.mul_comm, this, Int.mul_comm]
theorem coP_coef {P : List Prt} {B : Int} (nd : (P.map (·.1)).Nodup) (h0 : ∀ p ∈ P, ∀ a ∈ p.1, 0 ≤ a) : ∀ p ∈ P, coef (coP P B) (nN p.1) = p.2.1 * B.fdiv p.2.2 := by
  intro p hp
  unfold coef coP
  rw [isum_map]
  induction P with
  | nil => cases hp
  | cons a P ih =>
    rw [List.map_cons, List.nodup_cons] at nd
    show (if nN a.1 = nN p.1 then a.2.1 * B.fdiv a.2.2 else 0) + isum _ P = _
    rcases List.mem_cons.mp hp with e | e
    · subst e
      rw [if_pos rfl, isum_zero]
      · omega
      · intro q hq
        show (if nN q.1 = nN p.1 then q.2.1 * B.fdiv q.2.2 else 0) = 0
        rw [if_neg]
        intro z
        have z' := congrArg iN z
        rw [iN_nN (h0 q (List.mem_cons_of_mem _ hq)), iN_nN (h0 p hp)] at z'
        exact nd.1 (z' ▸ List.mem_map_of_mem hq)
    · rw [if_neg]
      · rw [ih nd.2 (fun q hq => h0 q (List.mem_cons_of_mem _ hq)) e]
        omega
      · intro z
        have z' := congrArg iN z
        rw [iN_nN (h0 a (List.mem_cons_self ..)), iN_nN (h0 p hp)] at z'
        exact nd.1 (z' ▸ List.mem_map_of_mem e)
theorem coef_mem {C : Co} {s : List Nat} (h : coef C s ≠ 0) : ∃ p ∈ C, p.1 = s := by
  by_cases q : ∃ p ∈ C, p.1 = s
  · exact q
  · refine absurd (isum_zero fun p hp => ?_) h
    rw [if_neg fun e => q ⟨p, hp, e⟩]
theorem sumC_self {m : Nat} {P : List Prt} {B : Int} (hw : ∀ p ∈ P, Pw m 3 p.1) (nd : (P.map (·.1)).Nodup) (pw : P.Pairwise fun p q => lexLe p.1 q.1 = true) (nz : ∀ p ∈ P, p.2.1 ≠ 0) (lw : ∀ p ∈ P, 0 < p.2.2 ∧ Int.gcd p.2.1 p.2.2 = 1 ∧ p.2.2 ∣ B) (hB : 0 < B) : sumC m (mostF P) (coP P B) B = P := by
  have key : ∀ p ∈ P, coef (coP P B) (nN p.1) ≠ 0 ∧ rat (coef (coP P B) (nN p.1)) B = p.2 := by
    intro p hp
    obtain ⟨l1, l2, l3⟩ := lw p hp
    have e := coP_coef (B := B) nd (fun q hq => (hw q hq).p) p hp
    have e2 := fdiv_exact (a := B) (g := p.2.2) (by omega) l3
    rw [e]
    constructor
    · intro z
      rcases Int.mul_eq_zero.mp z with z | z
      · exact nz p hp z
      · rw [z, Int.zero_mul] at e2; omega
    · obtain ⟨p1, p2⟩ := rat_pos (p.2.1 * B.fdiv p.2.2) B (by omega)
      have x := rat_cross (p.2.1 * B.fdiv p.2.2) B (by omega)
      refine low_inj p1 l1 p2 l2 ?_
      have : (rat (p.2.1 * B.fdiv p.2.2) B).1 * p.2.2 * B = p.2.1 * (rat (p.2.1 * B.fdiv p.2.2) B).2 * B := by
        have a1 : (rat (p.2.1 * B.fdiv p.2.2) B).1 * p.2.2 * B = (rat (p.2.1 * B.fdiv p.2.2) B).1 * B * p.2.2 := by grind
        rw [a1, x]
        have a2 : p.2.1 * B.fdiv p.2.2 * (rat (p.2.1 * B.fdiv p.2.2) B).2 * p.2.2 = p.2.1 * (rat (p.2.1 * B.fdiv p.2.2) B).2 * (B.fdiv p.2.2 * p.2.2) := by grind
        rw [a2, e2]
      exact Int.eq_of_mul_eq_mul_right (by omega) this
  refine prts_eq (sumC_pw ..) pw (sumC_nd ..) nd fun p => ?_
  rw [sumC_mem (coP_deg hw B)]
  constructor
  · rintro ⟨s, h1, h2, rfl⟩
    obtain ⟨c, hc, hs⟩ := coef_mem h2
    obtain ⟨q, hq, rfl⟩ := List.mem_map.mp hc
    have hs' : nN q.1 = s := hs
    subst hs'
    rw [(key q hq).2, iN_nN (hw q hq).p]
    exact hq
  · intro hp
    exact ⟨nN p.1, by rw [List.length_map, (hw p hp).l], (key p hp).1, by rw [(key p hp).2, iN_nN (hw p hp).p]⟩
theorem told_pw (D : List Prt) : (told D).Pairwise fun p q => lexLe p.1 q.1 = true := by
  have h := srt_pw (D.map (·.1))
  rw [← told_keys, List.pairwise_map] at h
  exact h
theorem lin_le {c : Nat} : ∀ {as s : List Nat}, (∀ x ∈ as, x ≤ c) → lin as s ≤ c * s.sum
  | [], s, _ => Nat.zero_le _
  | _ :: _, [], _ => Nat.zero_le _
  | a :: as, x :: s, h => by
    have ih := lin_le (as := as) (s := s) fun y hy => h y (List.mem_cons_of_mem _ hy)
    have ha := h a (List.mem_cons_self ..)
    have := Nat.mul_le_mul_right x ha
    show a * x + lin as s ≤ c * (x :: s).sum
    rw [List.sum_cons, Nat.mul_add]
    omega
theorem lineN_le {c : Nat} {l s : List Nat} (h : ∀ x ∈ l, x ≤ c) : lineN l s ≤ c * (1 + s.sum) := by
  cases l with
  | nil => exact Nat.zero_le _
  | cons a l =>
    have := lin_le (as := l) (s := s) fun y hy => h y (List.mem_cons_of_mem _ hy)
    have ha := h a (List.mem_cons_self ..)
    show a + lin l s ≤ _
    rw [Nat.mul_add]
    omega
theorem rows_small : ∀ d < 4, ∀ j < 4, (rowsF d j).length ≤ 20 := by decide
theorem rows_one : ∀ j : Nat, (rowsF 0 j).length = 1
  | 0 => rfl
  | j + 1 => by
    have : ∀ s ∈ rowsF 0 j, s.sum = 0 := fun s hs => by
      have := ((rows_mem 0 j s).mp hs).2
      omega
    show ((rowsF 0 j).flatMap _).length = 1
    rw [List.length_flatMap]
    have e : (rowsF 0 j).map (fun a => ((List.range (0 - a.sum + 1)).map fun p => a ++ [p]).length) = (rowsF 0 j).map fun _ => 1 := List.map_congr_left fun s hs => by
      rw [List.length_map, List.length_range, this s hs]
    rw [e, List.map_const', List.sum_replicate_nat, rows_one j]

end K36

set_option Elab.async false
set_option linter.all false
set_option maxRecDepth 100000
set_option maxHeartbeats 1000000
set_option exponentiation.threshold 40000
namespace K36
open PySem PySem.Spec PyProof.Rows L2 TL
def cellI (ns : List Int) (k : Nat) : Int := ns.getD k 0
theorem cell_eq (ns : List Int) (k : Nat) (S : Store) (hl : ns.length ≤ 63) : m_law_cell_at [.rol (ns.map .int), .int k] S = .ok (.int (cellI ns k)) S := by
  simp only [m_law_cell_at, b_law_cell_at, runD_ap, startP_nil]
  by_cases h : k < ns.length
  · have h' : (k : Int) < (ns.length : Int) := by omega
    have g : atI (ns.map PV.int) (k : Int) = some (.int (cellI ns k)) := atI_nat (by
      rw [List.getElem?_map, List.getElem?_eq_getElem h]
      simp [cellI, List.getD, List.getElem?_eq_getElem h])
    simp [lenV, h', getV, g]
  · have h' : ¬ (k : Int) < (ns.length : Int) := by omega
    have g : cellI ns k = 0 := by simp [cellI, List.getD, List.getElem?_eq_none_iff.mpr (Nat.not_lt.mp h)]
    simp [lenV, h', g]

/-- [a, b, ..][i] -/
theorem eLst_at {cs : CE (List PV)} {ci : CE PV} {ρ : Sl} {S : Store} (vs : List Int) (z : Int) {v : Int} (h1 : cs ρ S = .ok (vs.map .int) S) (hl : vs.length ≤ 1000) (h2 : ∀ S', ci ρ S' = .ok (.int z) S') (e : atI (vs.map PV.int) z = some (.int v)) :
    eGc (eBin getV (eLst cs) ci) ρ S = .ok (.int v) S := by
  refine eGc_of (J := [.lst (vs.map .int)]) ?_ rfl
  have hz : (vs.map PV.int).length ≤ sizeLine := line2 (by rw [List.length_map]; omega)
  rw [eBin_ap, eLst_ap, h1, bind_ap, if_pos hz, bind_ap, h2, bind_ap]
  unfold getV
  simp only [get_last, e]

theorem ldivisor_eq (a b : Int) (S : Store) : m_law_divisor [.int a, .int b] S = .ok (.int (Int.gcd a b)) S := by
  have e : sWhile (tBl (eBin gtV (eVar 1) (eK (.int 0)))) (sPar 0 1 (eVar 1) (eBin modV (eVar 0) (eVar 1))) [some (.int (a.natAbs : Int)), some (.int (b.natAbs : Int))] S = _ :=
    gcd_loop 0 1 _ S (by decide) (by simp) (by simp) b.natAbs a.natAbs rfl rfl
  simp only [m_law_divisor, b_law_divisor, runD_ap, startP_nil, List.map_cons, List.map_nil, List.length_cons, List.length_nil]
  simp [absV', abs_nat, e, int_gcd_abs]
theorem rat_p (t b : Int) (hb : 0 < b) : rat t b = (t.fdiv (Int.gcd t b), b.fdiv (Int.gcd t b)) := by
  unfold rat
  have hn : ¬ b < 0 := by omega
  simp [hn]
theorem gcd_ok {t b : Int} {k : Nat} (hb : 0 < b) (h : b.natAbs < 2 ^ k) (hk : k ≤ 9000) : (Int.gcd t b : Int) ≠ 0 ∧ divOk (Int.gcd t b : Int) = true := by
  have hg : 0 < Int.gcd t b := Nat.pos_of_ne_zero fun z => by have := (Int.gcd_eq_zero_iff.mp z).2; omega
  have hle := gcd_le_right (a := t) (b := b) (by omega)
  exact ⟨by omega, divOk_of (b := k) (by omega) (by omega) (pos_of_lt (i := 0) h hb) hk⟩

def SQ (q : Int × Int) : Prop := LQ 110 q ∧ q.2.natAbs < 2 ^ 20
theorem share_ex (c : Int) : ∃ q, SQ q ∧ ∀ S, m_law_ratio [.int c] S = .ok (pr q) S := by
  have z1 := Int.fmod_nonneg_of_pos (c.fdiv 3) (b := 11) (by omega)
  have z2 := Int.fmod_lt_of_pos (c.fdiv 3) (b := 11) (by omega)
  have z5 := Int.fmod_nonneg_of_pos (c.fdiv 3) (b := 10 ^ 31) (by omega)
  have z6 := Int.fmod_lt_of_pos (c.fdiv 3) (b := 10 ^ 31) (by omega)
  have y1 := Int.fmod_nonneg_of_pos ((c.fdiv 3).fdiv 44) (b := 12) (by omega)
  have y2 := Int.fmod_lt_of_pos ((c.fdiv 3).fdiv 44) (b := 12) (by omega)
  have y3 := Int.fmod_nonneg_of_pos (c.fdiv 3 * 48271) (b := 999983) (by omega)
  have y4 := Int.fmod_lt_of_pos (c.fdiv 3 * 48271) (b := 999983) (by omega)
  obtain ⟨s, hs, es⟩ : ∃ s : Int, (s = 0 ∨ s = 1) ∧ intV [.bl (decide (((c.fdiv 3).fdiv 11).fmod 4 = 3))] = fun S => .ok (.int s) S := by
    by_cases q : ((c.fdiv 3).fdiv 11).fmod 4 = 3
    · exact ⟨1, .inr rfl, by rw [decide_eq_true q]; rfl⟩
    · exact ⟨0, .inl rfl, by rw [decide_eq_false q]; rfl⟩
  obtain ⟨t, ht, et⟩ := at_mod (cs := [(c.fdiv 3).fmod 11, (c.fdiv 3).fmod 11 * (1 - 2 * s), (c.fdiv 3).fmod (10 ^ 31)]) (by simp) c
  obtain ⟨b, hb, eb⟩ := at_mod (cs := [1, 1 + ((c.fdiv 3).fdiv 44).fmod 12, 1 + (c.fdiv 3 * 48271).fmod 999983]) (by simp) c
  have bt : t.natAbs < 2 ^ 110 := by
    simp only [List.mem_cons, List.not_mem_nil, or_false] at ht
    rcases ht with rfl | rfl | rfl
    · omega
    · rcases hs with rfl | rfl <;> omega
    · omega
  have bb : 0 < b ∧ b < 2 ^ 20 := by
    simp only [List.mem_cons, List.not_mem_nil, or_false] at hb
    rcases hb with rfl | rfl | rfl <;> omega
  have bl := (rat_le t b (by omega)).2
  refine ⟨rat t b, ⟨lq_rat bt (by omega) bb.1, by omega⟩, fun S => ?_⟩
  have g := gcd_ok (t := t) (b := b) (k := 60) bb.1 (by omega) (by decide)
  have l2 : (2 : Nat) ≤ sizeLine := line2 (by decide)
  have m1 : mulOk ((c.fdiv 3).fmod 11) (1 - 2 * s) = true := mulOk_l (by omega)
  have main : Rv (pr (rat t b)) (fun S' => S' = S) (b_law_ratio [some (.int c), none, none, none, none] S) := by
    unfold b_law_ratio
    refine st_set (.int (c.fdiv 3)) S (by simp) ?_
    refine st_set (.int t) S (eLst_at _ (c.fmod 3) ?_ (by simp) (fun S' => by simp) et) ?_
    · simp [es, m1]
    refine st_set (.int b) S (eLst_at _ (c.fmod 3) ?_ (by simp) (fun S' => by simp) eb) ?_
    · simp
    refine st_set (.int (Int.gcd t b)) S (by simp [ldivisor_eq]) ?_
    refine st_ret S ?_ rfl
    rw [rat_p t b bb.1]
    simp [g.1, g.2, l2, pr]
  obtain ⟨S', e1, rfl⟩ := main
  show outS (b_law_ratio [some (.int c), none, none, none, none] S') = _
  rw [e1]
  rfl
theorem pick_len (ns : List Int) (lo hi st : Option Int) : (pickP ns lo hi st).length ≤ ns.length := by
  have h : ∀ l : List Int, Vals (l.map V.int) (l.map fun n => Value.int n 0) := by
    intro l
    induction l with
    | nil => exact .nil
    | cons a l ih => exact .cons ⟨0, rfl⟩ ih
  have e := pickP_len (ns.map V.int) (h ns) lo hi st
  have q : pickP (ns.map V.int) lo hi st = (pickP ns lo hi st).map V.int := by
    unfold pickP
    rw [List.length_map, List.map_filterMap]
    congr 1
    funext i
    rw [List.getElem?_map]
  rw [q, List.length_map, List.length_map] at e
  exact e

theorem pick_half {α : Type} (xs : List α) : (pickP xs none none (some 2)).length ≤ (xs.length + 1) / 2 := by
  unfold pickP
  refine Nat.le_trans (List.length_filterMap_le ..) ?_
  have t1 : (sliceRange (sliceBounds none none (some 2) xs.length).1 (sliceBounds none none (some 2) xs.length).2.1 (sliceBounds none none (some 2) xs.length).2.2).length = (xs.length + 1) / 2 := by
    simp [sliceBounds, sliceRange]
    split <;> omega
  rw [t1]
  exact Nat.le_refl _
structure Smq (m : Nat) (D : List Prt) : Prop where
  u : (D.map (·.1)).Nodup
  w : ∀ p ∈ D, Pw m 3 p.1
  q : ∀ p ∈ D, SQ p.2
theorem Smq.kok {m : Nat} {D : List Prt} (h : Smq m D) (hl : D.length < 64) : Kok m (D.map (·.1)) := by
  refine ⟨by rw [List.length_map]; exact hl, h.u, fun x hx => ?_⟩
  obtain ⟨p, hp, rfl⟩ := List.mem_map.mp hx
  exact ⟨(h.w p hp).l, (h.w p hp).p⟩
noncomputable def shareI (c : Int) : Int × Int := Classical.choose (share_ex c)
theorem shareI_lq (c : Int) : SQ (shareI c) := (Classical.choose_spec (share_ex c)).1
theorem share_eq (c : Int) (S : Store) : m_law_ratio [.int c] S = .ok (pr (shareI c)) S := (Classical.choose_spec (share_ex c)).2 S
noncomputable def addP (m q : Nat) (D : List Prt) (x y : Int) : List Prt := if dgetI D ((powC m x q).2) = none ∧ (shareI y).1 ≠ 0 then D ++ [((powC m x q).2, shareI y)] else D
theorem addP_ok {m q : Nat} (hq : q ≤ 3) {D : List Prt} (x y : Int) (h : Smq m D) (h0 : ∀ p ∈ D, p.2.1 ≠ 0) : Smq m (addP m q D x y) ∧ (∀ p ∈ addP m q D x y, p.2.1 ≠ 0) ∧ (addP m q D x y).length ≤ D.length + 1 := by
  unfold addP
  split
  · rename_i c
    have hn := dgetI_none.mp c.1
    refine ⟨⟨?_, fun p hp => ?_, fun p hp => ?_⟩, fun p hp => ?_, by simp⟩
    · rw [List.map_append, List.nodup_append]
      refine ⟨h.u, by simp, fun a ha b hb => ?_⟩
      have hb' : b = (powC m x q).2 := by simpa using hb
      intro e
      rw [e, hb'] at ha
      exact hn ha
    · rcases List.mem_append.mp hp with qq | qq
      · exact h.w p qq
      · rw [List.mem_singleton.mp qq]; exact ⟨(pw_C m x q).l, (pw_C m x q).p, Int.le_trans (pw_C m x q).s (by omega)⟩
    · rcases List.mem_append.mp hp with qq | qq
      · exact h.q p qq
      · rw [List.mem_singleton.mp qq]; exact shareI_lq y
    · rcases List.mem_append.mp hp with qq | qq
      · exact h0 p qq
      · rw [List.mem_singleton.mp qq]; exact c.2
  · exact ⟨h, h0, by omega⟩
theorem sum_loop (m q : Nat) (hm : m ≤ 1000) (hq : q ≤ 3) (d : Nat) (i : PV) (ck : Chk) : ∀ (A B : List Int) (D : List Prt) (a3 a4 a5 a6 : Option PV) (S : Store), Smq m D → (∀ p ∈ D, p.2.1 ≠ 0) → D.length + A.length < 64 → S[d]? = some (dicO D) → (∀ D' : List Prt, chk ck (S.set d (dicO D'))) →
    ∃ b3 b4 b5 b6 E, Smq m E ∧ (∀ p ∈ E, p.2.1 ≠ 0) ∧ E.length ≤ D.length + A.length ∧
    forN (.tup [4, 5]) (sSeq (sSet 6 (eCall 3 m_law_powers (aCons (eVar 4) (aCons (eVar 1) (aCons (eVar 2) aNil)))))
      (sSeq (sSet 7 (eCall 1 m_law_ratio (aCons (eVar 5) aNil)))
      (sIf (cAnd (tBl (eBin ninV (eVar 6) (eVar 3))) (tBl (eBin neV (eBin getV (eVar 7) (eK (.int 0))) (eK (.int 0))))) (sSetIx (eVar 3) (eVar 6) (eVar 7)) sNext))) ck (zipP (A.map .int) (B.map .int)) [some i, some (.int (m : Int)), some (.int (q : Int)), some (.obj d), a3, a4, a5, a6] S
      = .next [some i, some (.int (m : Int)), some (.int (q : Int)), some (.obj d), b3, b4, b5, b6] (S.set d (dicO E))
  | [], B, D, a3, a4, a5, a6, S, h, h0, hl, e, hc => ⟨a3, a4, a5, a6, D, h, h0, by simp, by
      have es : S.set d (dicO D) = S := by
        apply List.ext_getElem?
        intro j
        by_cases hj : d = j
        · subst hj
          rw [get_set e, e]
        · rw [List.getElem?_set_ne hj]
      rw [List.map_nil, zipP_nil, es]
      exact forN_nil (by rw [← es]; exact hc D)⟩
  | x :: A, [], D, a3, a4, a5, a6, S, h, h0, hl, e, hc => ⟨a3, a4, a5, a6, D, h, h0, by simp, by
      have es : S.set d (dicO D) = S := by
        apply List.ext_getElem?
        intro j
        by_cases hj : d = j
        · subst hj
          rw [get_set e, e]
        · rw [List.getElem?_set_ne hj]
      rw [List.map_nil, zipP_nil', es]
      exact forN_nil (by rw [← es]; exact hc D)⟩
  | x :: A, y :: B, D, a3, a4, a5, a6, S, h, h0, hl, e, hc => by
    have hcS : chk ck S := by
      have := hc D
      have es : S.set d (dicO D) = S := by
        apply List.ext_getElem?
        intro j
        by_cases hj : d = j
        · subst hj
          rw [get_set e, e]
        · rw [List.getElem?_set_ne hj]
      rw [es] at this
      exact this
    rw [List.length_cons] at hl
    obtain ⟨k1, k2, k3⟩ := addP_ok hq x y h h0
    obtain ⟨b3, b4, b5, b6, E, hE, hE0, hEl, ih⟩ := sum_loop m q hm hq d i ck A B (addP m q D x y) (some (.int x)) (some (.int y)) (some (tI ((powC m x q).2))) (some (pr (shareI y))) (S.set d (dicO (addP m q D x y))) k1 k2 (by omega) (get_set e) (fun D' => by rw [List.set_set]; exact hc D')
    refine ⟨b3, b4, b5, b6, E, hE, hE0, by rw [List.length_cons]; omega, ?_⟩
    rw [List.map_cons, List.map_cons, zipP_cons]
    rw [forN_next hcS (ρ1 := [some i, some (.int (m : Int)), some (.int (q : Int)), some (.obj d), some (.int x), some (.int y), a5, a6]) (ρ' := [some i, some (.int (m : Int)), some (.int (q : Int)), some (.obj d), some (.int x), some (.int y), some (tI ((powC m x q).2)), some (pr (shareI y))]) (S' := S.set d (dicO (addP m q D x y))) rfl ?_, ih, List.set_set]
    have p := law_powers_eq x m q hm hq S
    have r := share_eq y S
    have n := inG_D e (fun b => !b) ((powC m x q).2)
    have sv := setV_D e ((powC m x q).2) (shareI y) (by omega)
    cases qq : dgetI D ((powC m x q).2) with
    | none =>
      by_cases z : (shareI y).1 = 0
      · have ea : addP m q D x y = D := by
          unfold addP
          rw [if_neg]
          intro w
          exact w.2 z
        have es : S.set d (dicO D) = S := by
          apply List.ext_getElem?
          intro j
          by_cases hj : d = j
          · subst hj
            rw [get_set e, e]
          · rw [List.getElem?_set_ne hj]
        rw [ea, es]
        simp [p, r, n, qq, z]
      · have ea : addP m q D x y = dputI D ((powC m x q).2) (shareI y) := by
          unfold addP
          rw [if_pos ⟨qq, z⟩, dputI_new (dgetI_none.mp qq)]
        rw [ea]
        simp [p, r, n, qq, z, sv]
    | some w =>
      have ea : addP m q D x y = D := by
        unfold addP
        rw [if_neg]
        intro w
        rw [qq] at w
        exact nomatch w.1
      have es : S.set d (dicO D) = S := by
        apply List.ext_getElem?
        intro j
        by_cases hj : d = j
        · subst hj
          rw [get_set e, e]
        · rw [List.getElem?_set_ne hj]
      rw [ea, es]
      simp [p, r, n, qq]
/-- the sum of a law, out of its cells -/
theorem law_sum_eq (cs : List Int) (m q i : Nat) (hm : m ≤ 1000) (hq : q ≤ 3) (hl : cs.length < 64) (S : Store) (e : S[i]? = some (.lst (cs.map .int))) :
    ∃ D, Smq m D ∧ (∀ p ∈ D, p.2.1 ≠ 0) ∧ D.length ≤ (cs.length + 1) / 2 ∧ gc S (m_law_sum [.obj i, .int (m : Int), .int (q : Int)] S) = .ok (.tup ((told D).map partV)) S := by
  obtain ⟨A, eA⟩ : ∃ A, pickP cs none none (some 2) = A := ⟨_, rfl⟩
  obtain ⟨B, eB⟩ : ∃ B, pickP cs (some 1) none (some 2) = B := ⟨_, rfl⟩
  have hA : A.length ≤ (cs.length + 1) / 2 := by rw [← eA]; exact pick_half cs
  have e1 : (S ++ [dicO []])[i]? = some (.lst (cs.map .int)) := get_app e
  have e2 : (S ++ [dicO []] ++ [.lst (A.map .int)])[i]? = some (.lst (cs.map .int)) := get_app e1
  have f1 : (S ++ [dicO []] ++ [PO.lst (A.map .int)] ++ [PO.lst (B.map .int)])[S.length + 1]? = some (.lst (A.map .int)) := get_app (by
    have l : S.length + 1 = (S ++ [dicO []]).length := by simp
    rw [l]
    exact get_last)
  have f2 : (S ++ [dicO []] ++ [PO.lst (A.map .int)] ++ [PO.lst (B.map .int)])[S.length + 1 + 1]? = some (.lst (B.map .int)) := by
    have l : S.length + 1 + 1 = (S ++ [dicO []] ++ [PO.lst (A.map .int)]).length := by simp
    rw [l]
    exact get_last
  have f0 : (S ++ [dicO []] ++ [PO.lst (A.map .int)] ++ [PO.lst (B.map .int)])[S.length]? = some (dicO []) := get_app (get_app get_last)
  have hc : ∀ D' : List Prt, chk ([(S.length + 1, PO.lst (A.map .int))] ++ [(S.length + 1 + 1, PO.lst (B.map .int))]) ((S ++ [dicO []] ++ [PO.lst (A.map .int)] ++ [PO.lst (B.map .int)]).set S.length (dicO D')) := by
    intro D' p hp
    rcases List.mem_append.mp hp with qq | qq
    · rw [List.mem_singleton.mp qq]
      exact get_ne f1 (by omega)
    · rw [List.mem_singleton.mp qq]
      exact get_ne f2 (by omega)
  have hcS : chk ([(S.length + 1, PO.lst (A.map .int))] ++ [(S.length + 1 + 1, PO.lst (B.map .int))]) (S ++ [dicO []] ++ [PO.lst (A.map .int)] ++ [PO.lst (B.map .int)]) := by
    intro p hp
    rcases List.mem_append.mp hp with qq | qq
    · rw [List.mem_singleton.mp qq]; exact f1
    · rw [List.mem_singleton.mp qq]; exact f2
  obtain ⟨b3, b4, b5, b6, E, hE, hE0, hEl, lp⟩ := sum_loop m q hm hq S.length (.obj i) _ A B [] none none none none _ ⟨List.nodup_nil, (fun p hp => nomatch hp), (fun p hp => nomatch hp)⟩ (fun p hp => nomatch hp) (by simp only [List.length_nil]; omega) f0 hc
  have hEl' : E.length < 64 := by
    simp only [List.length_nil] at hEl
    omega
  refine ⟨E, hE, hE0, by simp only [List.length_nil] at hEl; omega, ?_⟩
  have main : Rv (.tup ((told E).map partV)) (fun S' => ∃ J, S' = S ++ J) (b_law_sum [some (.obj i), some (.int (m : Int)), some (.int (q : Int)), none, none, none, none, none] S) := by
    unfold b_law_sum
    refine st_set (.obj S.length) (S ++ [dicO []]) rfl ?_
    have z1 : eSlc (eVar 0) oNone oNone (oSome (eK (.int 2))) [some (.obj i), some (.int (m : Int)), some (.int (q : Int)), some (.obj S.length), none, none, none, none] (S ++ [dicO []]) = .ok (.obj (S.length + 1)) (S ++ [dicO []] ++ [.lst (A.map .int)]) := by
      simp [lstOf, e1, pick_map, eA]
    have z2 : eSlc (eVar 0) (oSome (eK (.int 1))) oNone (oSome (eK (.int 2))) [some (.obj i), some (.int (m : Int)), some (.int (q : Int)), some (.obj S.length), none, none, none, none] (S ++ [dicO []] ++ [.lst (A.map .int)]) = .ok (.obj (S.length + 1 + 1)) (S ++ [dicO []] ++ [.lst (A.map .int)] ++ [.lst (B.map .int)]) := by
      simp only [eSlc_ap, eVar_ap, List.getElem?_cons_zero, bind_ap, oSome_ap, oNone_ap, eK_ap, lstOf, e2, pick_map]
      simp [eB]
    have zz := iZipP_eq z1 z2 (seqC_obj f1) (seqC_obj f2) hcS
    refine st_next (ρ' := [some (.obj i), some (.int (m : Int)), some (.int (q : Int)), some (.obj S.length), b3, b4, b5, b6]) (S' := (S ++ [dicO []] ++ [PO.lst (A.map .int)] ++ [PO.lst (B.map .int)]).set S.length (dicO E)) ?_ ?_
    · rw [sFor_ap]
      show sb (iZipP _ _ [some (.obj i), some (.int (m : Int)), some (.int (q : Int)), some (.obj S.length), none, none, none, none] (S ++ [dicO []])) _ _ = _
      rw [zz]
      exact lp
    have eE : ((S ++ [dicO []] ++ [PO.lst (A.map .int)] ++ [PO.lst (B.map .int)]).set S.length (dicO E))[S.length]? = some (dicO E) := get_set f0
    have t := told_eq (v := 6) (ce := 3) (ρ := [some (.obj i), some (.int (m : Int)), some (.int (q : Int)), some (.obj S.length), b3, b4, b5, b6]) eE (hE.kok hEl') rfl (by decide) (by simp)
    refine st_ret _ (eGc_self t) ⟨[dicO E, .lst (A.map .int), .lst (B.map .int)], ?_⟩
    rw [List.append_assoc, List.append_assoc, List.set_append_right _ _ (Nat.le_refl _), Nat.sub_self]
    rfl
  obtain ⟨S', e3, J, rfl⟩ := main
  show gc S (outS (b_law_sum [some (.obj i), some (.int (m : Int)), some (.int (q : Int)), none, none, none, none, none] S)) = _
  rw [e3]
  refine gc_app (bnds_all.mpr fun x hx => ?_)
  obtain ⟨p, _, rfl⟩ := List.mem_map.mp hx
  show bnds _ [tI p.1, pr p.2] = true
  simp [pr]

end K36

set_option Elab.async false
set_option linter.all false
set_option maxRecDepth 100000
set_option maxHeartbeats 1000000
set_option exponentiation.threshold 40000
namespace K36
open PySem PySem.Spec PyProof.Rows L2 TL
theorem lways_eq {n k : Nat} (s : Nat) (hs : s ≤ 3) (hn : n < 2 ^ k) (hk : k ≤ 100000) (S : Store) : m_law_ways [.int (n : Int), .int (s : Int)] S = .ok (.int (W n s)) S := by
  have fb : ∀ j, j ≤ 3 → 1 ≤ factI j ∧ factI j ≤ 6 := by
    intro j hj
    rcases (by omega : j = 0 ∨ j = 1 ∨ j = 2 ∨ j = 3) with rfl | rfl | rfl | rfl <;> decide
  have main : Rv (.int (W n s)) (fun S' => S' = S) (b_law_ways [some (.int (n : Int)), some (.int (s : Int)), none, none] S) := by
    unfold b_law_ways
    refine st_set (.int 1) S rfl ?_
    refine st_for (S1 := S) (all := rngL 0 (s : Int)) (ck := []) (fun j ρ S' => S' = S ∧ ∃ a3, ρ = [some (.int (n : Int)), some (.int (s : Int)), some (.int (W n j * factI j)), a3])
      (iRange1_nat rfl (by omega)) ⟨rfl, none, rfl⟩ (fun _ _ _ _ => chk_nil _) ?_ ?_
    · rintro j x ρ S' hx ⟨rfl, a3, rfl⟩
      obtain ⟨rfl, hj⟩ := rngL_get hx
      have hj3 : j < 3 := by omega
      refine ⟨_, rfl, nx_set (.int (W n (j + 1) * factI (j + 1))) S' ?_ ⟨rfl, some (.int (0 + (j : Int))), rfl⟩⟩
      obtain ⟨w1, w2⟩ := W_bd j hn
      obtain ⟨f1, f2⟩ := fb j (by omega)
      have b1 : (W n j * factI j).natAbs < 2 ^ (3 * k + 4) := by
        rw [Int.natAbs_mul, Nat.pow_add]
        exact Nat.lt_of_le_of_lt (Nat.mul_le_mul_right _ w2) (Nat.mul_lt_mul_of_pos_left (by omega) (Nat.pow_pos (by decide)))
      have m1 : mulOk (W n j * factI j) ((n : Int) - (j : Int)) = true := mulOk_of (a := 3 * k + 4) (b := k + 2) b1 (by rw [Nat.pow_add]; omega) (by omega) (by omega) (by omega)
      have q : W n (j + 1) * factI (j + 1) = W n j * factI j * ((n : Int) - (j : Int)) := by
        rw [fact_step j hj3, Int.mul_comm (factI j), ← Int.mul_assoc, ← W_mul n j hj3]
        grind
      rw [q]
      simp [m1]
    · rintro ρ' S' ⟨rfl, a3, rfl⟩
      obtain ⟨f1, f2⟩ := fb s (by omega)
      have ea : atI ([1, 1, 2, 6].map PV.int) (s : Int) = some (.int (factI s)) := at_ints (by simp; omega)
      refine st_ret S' ?_ rfl
      have hw : (W n s * factI s).fdiv (factI s) = W n s := Int.mul_fdiv_cancel _ (by omega)
      have d1 : divOk (factI s) = true := divOk_s (by omega) (by omega)
      have z1 : ¬ (factI s = 0) := by omega
      have l4 : (4 : Nat) ≤ sizeLine := line2 (by decide)
      refine eGc_of (J := [.lst ([1, 1, 2, 6].map .int)]) ?_ rfl
      simp only [List.map_cons, List.map_nil] at ea
      simp [l4, getV, ea, d1, hw, z1, rngL_len]
  obtain ⟨S', e1, rfl⟩ := main
  show outS (b_law_ways [some (.int (n : Int)), some (.int (s : Int)), none, none] S') = _
  rw [e1]
  rfl

/-! ### what a law reckons -/
def dueF (zs : List Int) : List Prt → Int × Int → Int × Int
  | [], q => q
  | p :: P, q => dueF zs P (q.1 * p.2.2 + p.2.1 * wz zs p.1 * q.2, q.2 * p.2.2)
theorem due_pos {w : Nat} (zs : List Int) : ∀ (P : List Prt) (q : Int × Int), (∀ p ∈ P, LQ w p.2) → 0 < q.2 → 0 < (dueF zs P q).2
  | [], q, _, h => h
  | p :: P, q, hP, h => due_pos zs P _ (fun x hx => hP x (List.mem_cons_of_mem _ hx)) (Int.mul_pos h (hP p (List.mem_cons_self ..)).p)
theorem due_cross {B : Int} (zs : List Int) : ∀ (P : List Prt) (t : Int) (q : Int × Int), (∀ p ∈ P, 0 < p.2.2 ∧ p.2.2 ∣ B) → t * q.2 = q.1 * B → (t + topF P zs B) * (dueF zs P q).2 = (dueF zs P q).1 * B
  | [], t, q, _, h => by
    show (t + topF [] zs B) * q.2 = q.1 * B
    simp only [topF, List.map_nil, List.sum_nil, Int.add_zero]
    exact h
  | p :: P, t, q, hP, h => by
    obtain ⟨hp, hd⟩ := hP p (List.mem_cons_self ..)
    have e : B.fdiv p.2.2 * p.2.2 = B := fdiv_exact (by omega) hd
    have key : (t + p.2.1 * B.fdiv p.2.2 * wz zs p.1) * (q.2 * p.2.2) = (q.1 * p.2.2 + p.2.1 * wz zs p.1 * q.2) * B := by
      have : (t + p.2.1 * B.fdiv p.2.2 * wz zs p.1) * (q.2 * p.2.2) = t * q.2 * p.2.2 + p.2.1 * wz zs p.1 * q.2 * (B.fdiv p.2.2 * p.2.2) := by grind
      rw [this, h, e]
      grind
    have := due_cross zs P (t + p.2.1 * B.fdiv p.2.2 * wz zs p.1) (q.1 * p.2.2 + p.2.1 * wz zs p.1 * q.2, q.2 * p.2.2) (fun x hx => hP x (List.mem_cons_of_mem _ hx)) key
    rw [topF_cons, ← Int.add_assoc]
    exact this
theorem due_loop {w k m : Nat} (hw : 0 < w) (hw9 : w ≤ 4000) (hk : k ≤ 900) (o s : PV) {d : Kd} {zs : List Int} {ck : Chk} {S : Store} (hs : seqC s S = some (d, zs.map .int, ck)) (hc : chk ck S) (hz : Zs k zs) (hzl : zs.length ≤ 20) :
    ∀ (P : List Prt) (q : Int × Int) (i : Nat) (a4 a5 a6 a7 a8 : Option PV), i + P.length ≤ 30 → q.1.natAbs < 2 ^ (100000 + (w + 1) * i) → q.2.natAbs < 2 ^ (1 + w * i) → (∀ p ∈ P, LQ w p.2 ∧ Pw m 3 p.1) →
    ∃ b4 b5 b6 b7 b8, forN (.tup [4, 5]) (sSeq (sSet 6 (eBin getV (eVar 5) (eK (.int 0))))
      (sSeq (sFor (.tup [7, 8]) (iZipP (eVar 1) (eVar 4)) (sSet 6 (eBin mulV (eVar 6) (eCall 2 m_law_ways (aCons (eVar 7) (aCons (eVar 8) aNil))))))
      (sSeq (sSet 2 (eBin addV (eBin mulV (eVar 2) (eBin getV (eVar 5) (eK (.int 1)))) (eBin mulV (eVar 6) (eVar 3))))
      (sSet 3 (eBin mulV (eVar 3) (eBin getV (eVar 5) (eK (.int 1)))))))) [] (P.map partV) [some o, some s, some (.int q.1), some (.int q.2), a4, a5, a6, a7, a8] S
      = .next [some o, some s, some (.int (dueF zs P q).1), some (.int (dueF zs P q).2), b4, b5, b6, b7, b8] S ∧ (dueF zs P q).1.natAbs < 2 ^ (100000 + (w + 1) * (i + P.length)) ∧ (dueF zs P q).2.natAbs < 2 ^ (1 + w * (i + P.length))
  | [], q, i, a4, a5, a6, a7, a8, _, h1, h2, _ => ⟨a4, a5, a6, a7, a8, by rw [List.map_nil, forN_nil (chk_nil _)]; rfl, h1, h2⟩
  | p :: P, q, i, a4, a5, a6, a7, a8, hi, h1, h2, hP => by
    obtain ⟨hp, pw⟩ := hP p (List.mem_cons_self ..)
    rw [List.length_cons] at hi
    have kz : k * zs.length ≤ 900 * 20 := Nat.mul_le_mul hk hzl
    have kz3 : 3 * k * zs.length = 3 * (k * zs.length) := Nat.mul_assoc ..
    have big : w + 3 * k * zs.length + 3 * k ≤ 400000 := by omega
    obtain ⟨ρ', i1, i2, i3, i4⟩ := ways_loop (ck := ck) hc (by omega : k ≤ 1000) (t := .tup [7, 8]) (wf := m_law_ways) 6 7 8 (fun n s S h1 h2 => lways_eq s h1 h2 (by omega) S) (by decide) (by decide) (by decide) zs p.1 p.2.1
      [some o, some s, some (.int q.1), some (.int q.2), some (tI p.1), some (pr p.2), some (.int p.2.1), a7, a8] w hz (pw3 pw) hp.t hw big (by simp) (by simp) (by simp) rfl
    obtain ⟨c0, c1, c2, c3, c4, c5, c6, c7, c8, rfl⟩ := list9 (by rw [i2]; rfl)
    have e0 := i4 0 (by decide) (by decide) (by decide)
    have e1 := i4 1 (by decide) (by decide) (by decide)
    have e2 := i4 2 (by decide) (by decide) (by decide)
    have e3 := i4 3 (by decide) (by decide) (by decide)
    have e5 := i4 5 (by decide) (by decide) (by decide)
    simp only [List.getElem?_cons_zero, List.getElem?_cons_succ, Option.some.injEq] at e0 e1 e2 e3 e5 i3
    subst e0 e1 e2 e3 e5 i3
    obtain ⟨w1, w2⟩ := wz_bd zs p.1 hz
    have ba : (p.2.1 * wz zs p.1).natAbs < 2 ^ (w + 3 * k * zs.length) := by
      rw [Int.natAbs_mul, Nat.pow_add]
      exact Nat.lt_of_le_of_lt (Nat.mul_le_mul_left _ w1) (Nat.mul_lt_mul_of_pos_right hp.t (Nat.pow_pos (by decide)))
    have wi : w * i ≤ 4000 * 30 := Nat.mul_le_mul hw9 (by omega)
    have wi1 : (w + 1) * i = w * i + i := Nat.succ_mul ..
    have m1 : mulOk q.1 p.2.2 = true := mulOk_of h1 hp.b (by omega) hw (by omega)
    have m2 : mulOk (p.2.1 * wz zs p.1) q.2 = true := mulOk_of ba h2 (by omega) (by omega) (by omega)
    have m3 : mulOk q.2 p.2.2 = true := mulOk_of h2 hp.b (by omega) hw (by omega)
    have b1 : (q.1 * p.2.2).natAbs < 2 ^ (100000 + (w + 1) * i + w) := mul_lt h1 hp.b
    have b2 : (p.2.1 * wz zs p.1 * q.2).natAbs < 2 ^ (100000 + (w + 1) * i + w) := Nat.lt_of_lt_of_le (mul_lt ba h2) (Nat.pow_le_pow_right (by decide) (by omega))
    have b3 : (q.1 * p.2.2 + p.2.1 * wz zs p.1 * q.2).natAbs < 2 ^ (100000 + (w + 1) * (i + 1)) := by
      have e : 100000 + (w + 1) * (i + 1) = (100000 + (w + 1) * i + w) + 1 := by rw [Nat.mul_succ]; omega
      rw [e, Nat.pow_succ]
      omega
    have b4 : (q.2 * p.2.2).natAbs < 2 ^ (1 + w * (i + 1)) := by
      have e : 1 + w * (i + 1) = (1 + w * i) + w := by rw [Nat.mul_succ]; omega
      rw [e]
      exact mul_lt h2 hp.b
    obtain ⟨d4, d5, d6, d7, d8, ih, ih1, ih2⟩ := due_loop hw hw9 hk o s hs hc hz hzl P (q.1 * p.2.2 + p.2.1 * wz zs p.1 * q.2, q.2 * p.2.2) (i + 1) c4 (some (pr p.2)) (some (.int (p.2.1 * wz zs p.1))) c7 c8 (by omega) b3 b4 fun x hx => hP x (List.mem_cons_of_mem _ hx)
    have el : i + 1 + P.length = i + (p :: P).length := by rw [List.length_cons]; omega
    rw [el] at ih1 ih2
    refine ⟨d4, d5, d6, d7, d8, ?_, ih1, ih2⟩
    rw [List.map_cons, forN_next (chk_nil _) (ρ1 := [some o, some s, some (.int q.1), some (.int q.2), some (tI p.1), some (pr p.2), a6, a7, a8]) (ρ' := [some o, some s, some (.int (q.1 * p.2.2 + p.2.1 * wz zs p.1 * q.2)), some (.int (q.2 * p.2.2)), c4, some (pr p.2), some (.int (p.2.1 * wz zs p.1)), c7, c8]) (S' := S) rfl ?_, ih]
    · rfl
    · have z2 := iZipP_eq (ca := eVar 1) (cb := eVar 4) (ρ := [some o, some s, some (.int q.1), some (.int q.2), some (tI p.1), some (pr p.2), some (.int p.2.1), a7, a8]) (S := S) (S1 := S) (S2 := S) (x := s) (y := tI p.1) rfl rfl hs (seqC_tup _ _) (by simpa using hc)
      rw [List.append_nil] at z2
      rw [seq_set (x := .int p.2.1) (S1 := S) (by simp)]
      show sSeq (sFor _ _ _) _ [some o, some s, some (.int q.1), some (.int q.2), some (tI p.1), some (pr p.2), some (.int p.2.1), a7, a8] S = _
      rw [seq_for z2 i1]
      rw [seq_set (x := .int (q.1 * p.2.2 + p.2.1 * wz zs p.1 * q.2)) (S1 := S) (by simp [m1, m2])]
      show sSet 3 _ [some o, some s, some (.int (q.1 * p.2.2 + p.2.1 * wz zs p.1 * q.2)), some (.int q.2), c4, some (pr p.2), some (.int (p.2.1 * wz zs p.1)), c7, c8] S = _
      simp [m3]

def bigA : Nat := 221000
def bigB : Nat := 121000
theorem mulOk_AB {i j : Int} (hi : i.natAbs < 2 ^ bigA) (hj : j.natAbs < 2 ^ bigB) : mulOk i j = true := mulOk_of hi hj (by decide) (by decide) (by decide)
/-- a value told as top and bottom -/
theorem law_value_eq {w k m : Nat} (hw : 0 < w) (hw9 : w ≤ 4000) (hk : k ≤ 900) (P : List Prt) (hl : P.length ≤ 30) (s : PV) {d : Kd} {zs : List Int} {ck : Chk} {S : Store} (hs : seqC s S = some (d, zs.map .int, ck)) (hc : chk ck S) (hz : Zs k zs) (hzl : zs.length ≤ 20) (hP : ∀ p ∈ P, LQ w p.2 ∧ Pw m 3 p.1) :
    m_law_value [sumT P, s] S = .ok (pr (dueF zs P (0, 1))) S ∧ (dueF zs P (0, 1)).1.natAbs < 2 ^ bigA ∧ (dueF zs P (0, 1)).2.natAbs < 2 ^ bigB := by
  have w30 : w * P.length ≤ 4000 * 30 := Nat.mul_le_mul hw9 hl
  obtain ⟨b4, b5, b6, b7, b8, e, h1, h2⟩ := due_loop hw hw9 hk (sumT P) s hs hc hz hzl P (0, 1) 0 none none none none none (by omega) (Nat.pow_pos (by decide)) (by show 1 < 2 ^ (1 + w * 0); rw [Nat.mul_zero]; decide) hP
  rw [Nat.zero_add] at h1 h2
  refine ⟨?_, Nat.lt_of_lt_of_le h1 (Nat.pow_le_pow_right (by decide) (by rw [Nat.succ_mul]; unfold bigA; omega)), Nat.lt_of_lt_of_le h2 (Nat.pow_le_pow_right (by decide) (by unfold bigB; omega))⟩
  have l2 : (2 : Nat) ≤ sizeLine := line2 (by decide)
  show outS (b_law_value [some (sumT P), some s, none, none, none, none, none, none, none] S) = _
  unfold b_law_value
  rw [seq_set (x := .int 0) (S1 := S) rfl]
  simp only [List.set_cons_succ, List.set_cons_zero]
  rw [seq_set (x := .int 1) (S1 := S) rfl]
  simp only [List.set_cons_succ, List.set_cons_zero]
  rw [seq_for (S1 := S) (all := P.map partV) (ck := []) rfl e]
  simp [l2, pr]

end K36

set_option Elab.async false
set_option linter.all false
set_option maxRecDepth 100000
set_option maxHeartbeats 1000000
set_option exponentiation.threshold 40000
namespace K36
open PySem PySem.Spec PyProof.Rows L2 TL
theorem whole_eq (x : PV) (S : Store) {t : String} (h : tyP x S = some t) : m_law_whole [x] S = .ok (.bl (decide (t = "int"))) S := by
  have ht := tyP_mem h
  simp only [tyNames, List.mem_cons, List.not_mem_nil, or_false] at ht
  rcases ht with rfl | rfl | rfl | rfl | rfl | rfl | rfl <;> simp [m_law_whole, b_law_whole, isinstV, h, isSub]

theorem isT (xs : List PV) (S : Store) : isinstV "tuple" [.tup xs, .ty "tuple"] S = .ok (.bl true) S := by simp [isinstV, tyP, isSub]
theorem blsOf_rep (n : Nat) : blsOf (List.replicate n (PV.bl true)) = some (List.replicate n true) := by
  have := blsOf_map (List.replicate n true)
  rw [List.map_replicate] at this
  exact this
theorem all_rep (n : Nat) {i : Nat} {S : Store} (e : S[i]? = some (.lst (List.replicate n (PV.bl true)))) : allV [.obj i] S = .ok (.bl true) S := by
  show (match (lstOf (.obj i) S).bind blsOf with | some ns => Res.ok (PV.bl (ns.all id)) S | none => .stuck) = _
  have l : lstOf (.obj i) S = some (List.replicate n (PV.bl true)) := by unfold lstOf; simp only [e]
  rw [l, Option.bind_some, blsOf_rep]
  simp
theorem map_true {α : Type} (xs : List α) : xs.map (fun _ => PV.bl true) = List.replicate xs.length (.bl true) := List.map_const' ..
theorem tGc_of {c : CE Bool} {ρ : Sl} {S J : Store} {k : Bool} (h : c ρ S = .ok k (S ++ J)) : tGc c ρ S = .ok k S := by
  rw [tGc_ap, h, gcT_app]
theorem is_part_eq (p : Prt) (m : Nat) (hp : Pw m 3 p.1) (hm : m ≤ 1000) (h0 : p.2.1 ≠ 0) (h1 : 0 < p.2.2) (hg : Int.gcd p.2.1 p.2.2 = 1) (S : Store) : gc S (m_law_is_part [partV p, .int (m : Int)] S) = .ok (.bl true) S := by
  have g0 : ∀ S, getV (partV p) (.int 0) S = .ok (tI p.1) S := fun S => rfl
  have g1 : ∀ S, getV (partV p) (.int 1) S = .ok (pr p.2) S := fun S => rfl
  have i0 : ∀ S, isinstV "tuple" [partV p, .ty "tuple"] S = .ok (.bl true) S := fun S => isT _ S
  have i1 : ∀ S, isinstV "tuple" [tI p.1, .ty "tuple"] S = .ok (.bl true) S := fun S => isT _ S
  have i2 : ∀ S, isinstV "tuple" [pr p.2, .ty "tuple"] S = .ok (.bl true) S := fun S => isT _ S
  have n0 : ∀ S, lenV [partV p] S = .ok (.int 2) S := fun S => rfl
  have n1 : ∀ S, lenV [tI p.1] S = .ok (.int (m : Int)) S := fun S => by
    show Res.ok (PV.int ((p.1.map PV.int).length : Int)) S = _
    rw [List.length_map, hp.l]
  have n2 : ∀ S, lenV [pr p.2] S = .ok (.int 2) S := fun S => rfl
  have w : ∀ (a : Int) S, m_law_whole [.int a] S = .ok (.bl true) S := fun a S => by rw [whole_eq (.int a) S (t := "int") rfl]; rfl
  have main : RJ (.bl true) S (b_law_is_part [some (partV p), some (.int (m : Int)), none] S) := by
    unfold b_law_is_part
    refine st_no S ?_ ?_
    · simp only [cOr_ap, cNot_ap, tTru_ap, tBl_ap, eBin_ap, eB_ap, aCons_ap, aNil_ap, eVar_ap, eK_ap, bind_ap, List.getElem?_cons_succ, List.getElem?_cons_zero, i0, n0, g0, i1, n1, truV_bl, Bool.not_true, Bool.false_eq_true, if_false, eqG_int, decide_true]
    refine st_no S ?_ ?_
    · simp only [cOr_ap, cNot_ap, tTru_ap, tBl_ap, eBin_ap, eB_ap, aCons_ap, aNil_ap, eVar_ap, eK_ap, eCall_ap, bind_ap, List.getElem?_cons_succ, List.getElem?_cons_zero, g1, i2, n2, truV_bl, Bool.not_true, Bool.false_eq_true, if_false, eqG_int, decide_true, get_pr0, get_pr1, w, gc_self, List.length_cons, List.length_nil, Nat.zero_add, if_true]
    refine st_no S ?_ ?_
    · have d0 : decide (p.2.1 = 0) = false := decide_eq_false h0
      have d1 : decide (p.2.2 < 1) = false := decide_eq_false (by omega)
      have dv := ldivisor_eq p.2.1 p.2.2 S
      rw [hg] at dv
      have dc : eCall 2 m_law_divisor (aCons (eBin getV (eBin getV (eVar 0) (eK (.int 1))) (eK (.int 0))) (aCons (eBin getV (eBin getV (eVar 0) (eK (.int 1))) (eK (.int 1))) aNil)) [some (partV p), some (.int (m : Int)), none] S = .ok (.int 1) S :=
        call2_of (x := .int p.2.1) (y := .int p.2.2) rfl rfl (by rw [dv]; exact gc_self S _)
      simp only [cOr_ap, tBl_ap, eBin_ap, eVar_ap, eK_ap, bind_ap, List.getElem?_cons_succ, List.getElem?_cons_zero, g1, get_pr0, get_pr1, eqG_int, f2I_ap, d0, d1, Bool.false_eq_true, if_false, dc, decide_true, Bool.not_true]
    have lc := eLc_tm (t := .name 2) (te := eAnd (eCall 1 m_law_whole (aCons (eVar 2) aNil)) (eChain leV leV (eK (.int 0)) (eVar 2) (eK (.int 3)))) PV.int (fun _ => PV.bl true) p.1 [] (vs := [2]) (it := iAny (eBin getV (eVar 0) (eK (.int 0)))) (ρ := [some (partV p), some (.int (m : Int)), none]) (S := S) (S1 := S) rfl (chk_nil _) (by rw [hp.l]; omega) (by
      intro a ha
      refine ⟨[some (partV p), some (.int (m : Int)), some (.int a)], rfl, fun zs => ?_⟩
      obtain ⟨a0, a3⟩ := hp.le ha
      have d0 : decide ((0 : Int) ≤ a) = true := decide_eq_true a0
      have d3 : decide (a ≤ (3 : Int)) = true := decide_eq_true a3
      have wc : eCall 1 m_law_whole (aCons (eVar 2) aNil) [some (partV p), some (.int (m : Int)), some (.int a)] (S ++ [.lst zs]) = .ok (.bl true) (S ++ [.lst zs]) := call1_of (x := .int a) rfl (by rw [w]; exact gc_self _ _)
      simp only [eAnd_ap, wc, bind_ap, if_true, eChain_ap, eK_ap, eVar_ap, List.getElem?_cons_succ, List.getElem?_cons_zero, f2I_ap, d0, d3])
    rw [map_true] at lc
    refine ⟨[], ?_⟩
    rw [List.append_nil]
    refine ret_eq (eGc2 (eGc_of (J := [.lst (List.replicate p.1.length (.bl true))]) ?_ rfl))
    rw [eB_ap, aCons_ap, lc, bind_ap, aNil_ap, bind_ap, bind_ap, all_rep _ get_last]
  obtain ⟨J, e⟩ := main
  show gc S (outS (b_law_is_part [some (partV p), some (.int (m : Int)), none] S)) = _
  rw [e]
  exact gc_app rfl
theorem lexLt_of : ∀ {a b : List Nat}, a < b → HT.lexLt (iN a) (iN b) = true
  | [], [], h => (lex_irr h).elim
  | [], _ :: _, _ => rfl
  | _ :: _, [], h => by cases h
  | x :: a, y :: b, h => by
    rw [List.cons_lt_cons_iff] at h
    show (if (x : Int) = (y : Int) then HT.lexLt (iN a) (iN b) else decide ((x : Int) < (y : Int))) = true
    rcases h with h | ⟨h1, h2⟩
    · rw [if_neg (by omega), decide_eq_true (by omega)]
    · rw [if_pos (by omega), lexLt_of h2]
theorem adj {α : Type} {R : α → α → Prop} : ∀ {xs : List α}, xs.Pairwise R → ∀ p ∈ xs.dropLast.zip xs.tail, R p.1 p.2
  | [], _, p, h => by cases h
  | [a], _, p, h => by cases h
  | a :: b :: r, h, p, hp => by
    rw [List.pairwise_cons] at h
    rw [List.dropLast_cons₂, List.tail_cons, List.zip_cons_cons] at hp
    rcases List.mem_cons.mp hp with e | e
    · rw [e]; exact h.1 b (List.mem_cons_self ..)
    · exact adj h.2 p e
theorem zipP_map {α β : Type} (f : α → PV) (g : β → PV) : ∀ (xs : List α) (ys : List β), zipP (xs.map f) (ys.map g) = (xs.zip ys).map fun p => .tup [f p.1, g p.2]
  | [], ys => rfl
  | x :: xs, [] => by unfold zipP; simp
  | x :: xs, y :: ys => by
    have := zipP_map f g xs ys
    rw [List.map_cons, List.map_cons, zipP_cons, this]
    rfl
theorem cut_dl (xs : List PV) : cutP xs none (some (-1)) = xs.dropLast := by
  unfold cutP
  have h : HT.sIx xs.length xs.length (some (-1)) = xs.length - 1 := by
    show HT.sIx xs.length xs.length (some (-((1 : Nat) : Int))) = _
    simp [HT.sIx]
    omega
  rw [h]
  show (xs.drop 0).take (xs.length - 1 - 0) = _
  rw [List.drop_zero, Nat.sub_zero, List.dropLast_eq_take]
theorem is_sum_eq (Q : List Prt) (m : Nat) (hm : m ≤ 1000) (hl : Q.length ≤ 1000) (h : ∀ p ∈ Q, Pw m 3 p.1 ∧ p.2.1 ≠ 0 ∧ 0 < p.2.2 ∧ Int.gcd p.2.1 p.2.2 = 1) (ho : Q.Pairwise fun p q => HT.lexLt p.1 q.1 = true) (S : Store) : gc S (m_law_is_sum [sumT Q, .int (m : Int)] S) = .ok (.bl true) S := by
  have main : RJ (.bl true) S (b_law_is_sum [some (sumT Q), some (.int (m : Int)), none, none, none] S) := by
    unfold b_law_is_sum
    have i0 := isT (Q.map partV) S
    refine st_no S ?_ ?_
    · simp only [cNot_ap, tTru_ap, eB_ap, aCons_ap, aNil_ap, eVar_ap, eK_ap, bind_ap, List.getElem?_cons_zero, i0, truV_bl, Bool.not_true]
    refine st_nx (nx_forI (S1 := S) partV Q [] (fun _ ρ T => ∃ a2, ρ = [some (sumT Q), some (.int (m : Int)), a2, none, none] ∧ T = S) rfl (fun _ _ _ _ => chk_nil _) ?_ ⟨none, rfl, rfl⟩) ?_
    · rintro i p ρ T hp ⟨a2, rfl, rfl⟩
      refine ⟨_, rfl, ?_⟩
      simp only [List.set_cons_succ, List.set_cons_zero]
      obtain ⟨h1, h2, h3, h4⟩ := h p (List.mem_of_getElem? hp)
      have c : eCall 2 m_law_is_part (aCons (eVar 2) (aCons (eVar 1) aNil)) [some (sumT Q), some (.int (m : Int)), some (partV p), none, none] T = .ok (.bl true) T := call2_of (x := partV p) (y := .int (m : Int)) rfl rfl (is_part_eq p m h1 hm h2 h3 h4 T)
      refine nx_no (S1 := T) ?_ ⟨_, rfl, rfl⟩
      rw [cNot_ap, tTru_ap, c]
      rfl
    · rintro ρ T ⟨a2, rfl, rfl⟩
      have z1 : eSlice (eVar 0) oNone (oSome (eNeg (eK (.int 1)))) [some (sumT Q), some (.int (m : Int)), a2, none, none] T = .ok (.tup (Q.dropLast.map partV)) T := by
        have : sliceV (sumT Q) none (some (-1)) T = .ok (.tup (Q.dropLast.map partV)) T := by
          show Res.ok (PV.tup (cutP (Q.map partV) none (some (-1)))) T = _
          rw [cut_dl, List.map_dropLast]
        simp only [eBin_ap, eChain_ap, eB_ap, eTup_ap, eLst_ap, eDic_ap, aCons_ap, aNil_ap, eVar_ap, eK_ap, eNeg_ap, eNot_ap, eAnd_ap, eOr_ap, eIf_ap, eCall_ap, eGc_ap, oNone_ap, oSome_ap, eSlice_ap, tBl_ap, tTru_ap, cAnd_ap, cOr_ap, cNot_ap, bind_ap, bind_apx, sb_ap, List.getElem?_cons_succ, List.getElem?_cons_zero, List.set_cons_succ, List.set_cons_zero, List.length_cons, List.length_nil, Nat.zero_add, Nat.reduceAdd, if_true, ite_true, Bool.false_eq_true, if_false, Bool.not_true, Bool.not_false, this]
      have z2 : eSlice (eVar 0) (oSome (eK (.int 1))) oNone [some (sumT Q), some (.int (m : Int)), a2, none, none] T = .ok (.tup (Q.tail.map partV)) T := by
        have : sliceV (sumT Q) (some 1) none T = .ok (.tup (Q.tail.map partV)) T := by
          show Res.ok (PV.tup (cutP (Q.map partV) (some 1) none)) T = _
          rw [cut_tail, List.map_tail]
        simp only [eBin_ap, eChain_ap, eB_ap, eTup_ap, eLst_ap, eDic_ap, aCons_ap, aNil_ap, eVar_ap, eK_ap, eNeg_ap, eNot_ap, eAnd_ap, eOr_ap, eIf_ap, eCall_ap, eGc_ap, oNone_ap, oSome_ap, eSlice_ap, tBl_ap, tTru_ap, cAnd_ap, cOr_ap, cNot_ap, bind_ap, bind_apx, sb_ap, List.getElem?_cons_succ, List.getElem?_cons_zero, List.set_cons_succ, List.set_cons_zero, List.length_cons, List.length_nil, Nat.zero_add, Nat.reduceAdd, if_true, ite_true, Bool.false_eq_true, if_false, Bool.not_true, Bool.not_false, this]
      have zz := iZipP_eq z1 z2 (seqC_tup _ _) (seqC_tup _ _) (chk_nil _)
      rw [zipP_map] at zz
      have lc := eLc_tm (t := .tup [3, 4]) (te := eBin ltA (eBin getV (eVar 3) (eK (.int 0))) (eBin getV (eVar 4) (eK (.int 0)))) (fun p : Prt × Prt => PV.tup [partV p.1, partV p.2]) (fun _ => PV.bl true) (Q.dropLast.zip Q.tail) [] (vs := [3, 4]) (ρ := [some (sumT Q), some (.int (m : Int)), a2, none, none]) (S := T) (S1 := T) zz (chk_nil _) (by rw [List.length_zip, List.length_dropLast]; omega) (by
        intro p hp
        refine ⟨[some (sumT Q), some (.int (m : Int)), a2, some (partV p.1), some (partV p.2)], rfl, fun zs => ?_⟩
        have lt := ltA_tup p.1.1 p.2.1 (T ++ [.lst zs])
        rw [adj ho p hp] at lt
        exact eBin_of (x := tI p.1.1) (y := tI p.2.1) rfl rfl lt)
      rw [map_true] at lc
      refine ⟨[], ?_⟩
      rw [List.append_nil]
      refine ret_eq (eGc2 (eGc_of (J := [.lst (List.replicate (Q.dropLast.zip Q.tail).length (.bl true))]) ?_ rfl))
      rw [eB_ap, aCons_ap, lc, bind_ap, aNil_ap, bind_ap, bind_ap, all_rep _ get_last]
  obtain ⟨J, e⟩ := main
  show gc S (outS (b_law_is_sum [some (sumT Q), some (.int (m : Int)), none, none, none] S)) = _
  rw [e]
  exact gc_app rfl
end K36

set_option Elab.async false
set_option linter.all false
set_option maxRecDepth 100000
set_option maxHeartbeats 1000000
set_option exponentiation.threshold 40000
namespace K36
open PySem PySem.Spec PyProof.Rows L2 TL
/-! ### numbers, sizes -/
def numI (ns : List Int) (k : Nat) : Int := (cellI ns (51 + k % 12) + (cellI ns 0).fdiv 416 + k) * (48271 + 2 * k * k)
def numN (ns : List Int) (k : Nat) : Nat := (if (numI ns k).fmod 5 = 0 then ((numI ns k).fdiv 5).fmod (10 ^ 15) else ((numI ns k).fdiv 5).fmod 4).toNat
theorem numN_eq (ns : List Int) (k : Nat) : (if (numI ns k).fmod 5 = 0 then ((numI ns k).fdiv 5).fmod (10 ^ 15) else ((numI ns k).fdiv 5).fmod 4) = (numN ns k : Int) ∧ numN ns k < 10 ^ 15 := by
  have h1 := Int.fmod_nonneg_of_pos ((numI ns k).fdiv 5) (b := 10 ^ 15) (by omega)
  have h2 := Int.fmod_lt_of_pos ((numI ns k).fdiv 5) (b := 10 ^ 15) (by omega)
  have h3 := Int.fmod_nonneg_of_pos ((numI ns k).fdiv 5) (b := 4) (by omega)
  have h4 := Int.fmod_lt_of_pos ((numI ns k).fdiv 5) (b := 4) (by omega)
  unfold numN
  split <;> omega
theorem number_eq (ns : List Int) (hl : ns.length ≤ 63) (k : Nat) (hk : k ≤ 1000) (S : Store) : m_law_number [.rol (ns.map .int), .int (k : Int)] S = .ok (.int (numN ns k : Int)) S := by
  have c0 := cell_eq ns 0 S hl
  have c1 := cell_eq ns (51 + k % 12) S hl
  simp at c0 c1
  have k2 : k * k ≤ 1000 * 1000 := Nat.mul_le_mul hk hk
  have e2 : (2 * (k : Int) * k) = ((2 * (k * k) : Nat) : Int) := by push_cast; grind
  have m0 : mulOk 2 (k : Int) = true := mulOk_r (by omega)
  have m1 : mulOk (2 * (k : Int)) (k : Int) = true := mulOk_r (by omega)
  have m2 : mulOk (cellI ns (51 + k % 12) + (cellI ns 0).fdiv 416 + k) (48271 + 2 * (k : Int) * k) = true := mulOk_r (by rw [e2]; omega)
  have kf : (k : Int).fmod 12 = ((k % 12 : Nat) : Int) := by
    rw [Int.fmod_eq_emod_of_nonneg _ (by omega)]
    omega
  obtain ⟨e, _⟩ := numN_eq ns k
  show outS (b_law_number [some (.rol (ns.map .int)), some (.int (k : Int)), none] S) = _
  unfold b_law_number
  rw [seq_set (x := .int (numI ns k)) (S1 := S) (by
    simp [c0, c1, kf, m0, m1, m2]
    rfl)]
  simp only [List.set_cons_succ, List.set_cons_zero]
  by_cases q : (numI ns k).fmod 5 = 0
  · rw [if_pos q] at e
    simp at e
    simp [q, e]
  · rw [if_neg q] at e
    simp [q, e]
def sizeN (c : Int) : Nat := (if c.fmod 2 = 0 then (c.fdiv 2).fmod 7 else (c.fdiv 2).fmod (10 ^ 20)).toNat
theorem size_eq (c : Int) (S : Store) : m_law_size [.int c] S = .ok (.int (sizeN c : Int)) S ∧ sizeN c < 10 ^ 20 := by
  have h1 := Int.fmod_nonneg_of_pos (c.fdiv 2) (b := 10 ^ 20) (by omega)
  have h2 := Int.fmod_lt_of_pos (c.fdiv 2) (b := 10 ^ 20) (by omega)
  have h3 := Int.fmod_nonneg_of_pos (c.fdiv 2) (b := 7) (by omega)
  have h4 := Int.fmod_lt_of_pos (c.fdiv 2) (b := 7) (by omega)
  have e : (if c.fmod 2 = 0 then (c.fdiv 2).fmod 7 else (c.fdiv 2).fmod (10 ^ 20)) = (sizeN c : Int) ∧ sizeN c < 10 ^ 20 := by
    unfold sizeN
    split <;> omega
  refine ⟨?_, e.2⟩
  have e1 := e.1
  show outS (b_law_size [some (.int c)] S) = _
  unfold b_law_size
  by_cases q : c.fmod 2 = 0
  · rw [if_pos q] at e1
    simp [q, e1]
  · rw [if_neg q] at e1
    simp at e1
    simp [q, e1]
def linesN (ns : List Int) (many wide : Nat) : List (List Nat) := (List.range many).map fun k => (List.range (wide + 1)).map fun j => numN ns (k * (wide + 1) + j)
theorem linesN_ok (ns : List Int) (many wide : Nat) : (linesN ns many wide).length = many ∧ ∀ l ∈ linesN ns many wide, l.length = wide + 1 ∧ ∀ x ∈ l, x ≤ 10 ^ 15 := by
  refine ⟨by unfold linesN; rw [List.length_map, List.length_range], fun l hl => ?_⟩
  obtain ⟨k, _, rfl⟩ := List.mem_map.mp hl
  refine ⟨by rw [List.length_map, List.length_range], fun x hx => ?_⟩
  obtain ⟨j, _, rfl⟩ := List.mem_map.mp hx
  exact Nat.le_of_lt (numN_eq ns _).2
structure Ps (m : Nat) (P : List Prt) : Prop where
  w : ∀ p ∈ P, Pw m 3 p.1
  q : ∀ p ∈ P, SQ p.2
  nz : ∀ p ∈ P, p.2.1 ≠ 0
  l : P.length ≤ 21
section
variable {m w : Nat} {P : List Prt} {L : List (List Nat)} (hP : Ps m P) (hL : L.length = m ∧ ∀ l ∈ L, l.length = w + 1 ∧ ∀ x ∈ l, x ≤ 10 ^ 15) (hm : m ≤ 16) (hw : w ≤ 3)
include hP hL hm hw
theorem ok1 : LaidOk 110 52 w P L := by
  have d3 : mostF P ≤ 3 := mostF_le fun p hp => (hP.w p hp).s
  refine ⟨by decide, by have := hP.l; omega, by decide, fun p hp => ⟨(hP.q p hp).1, by rw [hL.1]; exact hP.w p hp⟩, by decide, by decide, fun l h => ⟨(hL.2 l h).1, fun a ha => ?_⟩, by omega, by omega, fun j hj => ?_, fun s hs l h => ?_⟩
  · obtain ⟨x, hx, rfl⟩ := List.mem_map.mp ha
    have := (hL.2 l h).2 x hx
    omega
  · have := rows_small (mostF P) (by omega) j (by omega)
    omega
  · have h1 := lineN_le (s := s) (hL.2 l h).2
    have h2 := ((rows_mem _ _ s).mp hs).2
    have h3 : 10 ^ 15 * (1 + s.sum) ≤ 10 ^ 15 * 4 := Nat.mul_le_mul_left _ (by omega)
    omega
theorem between_ok : (∀ p ∈ sumL P L w, LQ 3100 p.2 ∧ Pw w 3 p.1) ∧ (sumL P L w).length ≤ 20 := by
  have o := ok1 hP hL hm hw
  have hB := o.bot
  have hBb : (botF P 1).natAbs < 2 ^ 421 := Nat.lt_of_lt_of_le (botF_bd (u := 20) P 1 1 (by decide) (by decide) fun p hp => ⟨(hP.q p hp).1.p, (hP.q p hp).2⟩) (Nat.pow_le_pow_right (by decide) (by have := hP.l; omega))
  have d3 := o.d
  have sp := rows_spots w (mostF P)
  have tb : ∀ s ∈ rowsF (mostF P) w, (topsF P L s).natAbs ≤ 2 ^ 3032 := by
    intro s hs
    have zs : Zs 52 (L.map fun l => ((lineN l s : Nat) : Int)) := ⟨fun z hz => by
      obtain ⟨l, hl, rfl⟩ := List.mem_map.mp hz
      have := o.v s hs l hl
      omega⟩
    have h := topF_bd (w := 110) (k := 52) (m := L.length) (b := 421) (by decide) zs hB.p hBb P fun p hp => ⟨(hP.q p hp).1, by rw [hL.1]; exact hP.w p hp, hB.d p hp⟩
    rw [List.length_map] at h
    have e1 : 2 ^ (110 + 421 + 3 * 52 * L.length) ≤ 2 ^ 3027 := Nat.pow_le_pow_right (by decide) (by rw [hL.1]; omega)
    have e2 : P.length * 2 ^ (110 + 421 + 3 * 52 * L.length) ≤ 2 ^ 5 * 2 ^ 3027 := Nat.mul_le_mul (by have := hP.l; omega) e1
    rw [← Nat.pow_add] at e2
    exact Nat.le_trans h e2
  have lb : ∀ s ∈ rowsF (mostF P) w, (lastF P L w s).natAbs < 2 ^ 3100 := by
    intro s hs
    have h := axes_bd sp (mostF P) (topsF P L) (2 ^ 3032) tb w s hs
    have e1 : mostF P * w ≤ 3 * 3 := Nat.mul_le_mul d3 hw
    have e2 : 2 ^ (mostF P * w) * 2 ^ 3032 ≤ 2 ^ 3041 := by
      rw [← Nat.pow_add]
      exact Nat.pow_le_pow_right (by decide) (by omega)
    have e4 : (2 : Nat) ^ 3041 < 2 ^ 3100 := Nat.pow_lt_pow_right (a := 2) (m := 3041) (n := 3100) (by decide) (by omega)
    exact Nat.lt_of_le_of_lt (Nat.le_trans h e2) e4
  refine ⟨fun p hp => ?_, ?_⟩
  · obtain ⟨s, hs, rfl⟩ := List.mem_map.mp hp
    have hs' := (List.mem_filter.mp hs).1
    obtain ⟨s1, s2⟩ := (rows_mem _ _ s).mp hs'
    have e5 : (2 : Nat) ^ 421 ≤ 2 ^ 3100 := Nat.pow_le_pow_right (n := 2) (i := 421) (j := 3100) (by decide) (by omega)
    refine ⟨lq_rat (lb s hs') (Nat.lt_of_lt_of_le hBb e5) hB.p, ?_, ?_, ?_⟩
    · rw [List.length_map, s1]
    · intro a ha
      obtain ⟨x, _, rfl⟩ := List.mem_map.mp ha
      omega
    · rw [sum_iN]; omega
  · unfold sumL
    rw [List.length_map]
    exact Nat.le_trans (List.length_filter_le ..) (rows_small _ (by omega) w (by omega))
theorem found_ok : (∀ p ∈ sumL P L w, Pw w 3 p.1 ∧ p.2.1 ≠ 0 ∧ 0 < p.2.2 ∧ Int.gcd p.2.1 p.2.2 = 1) ∧ (sumL P L w).Pairwise fun p q => HT.lexLt p.1 q.1 = true := by
  have o := ok1 hP hL hm hw
  obtain ⟨h1, _⟩ := between_ok hP hL hm hw
  constructor
  · intro p hp
    refine ⟨(h1 p hp).2, ?_, (h1 p hp).1.p, (h1 p hp).1.g⟩
    obtain ⟨s, hs, rfl⟩ := List.mem_map.mp hp
    have h2 := of_decide_eq_true (List.mem_filter.mp hs).2
    have x := rat_cross (lastF P L w s) (botF P 1) o.bot.z
    intro z
    have z' : (rat (lastF P L w s) (botF P 1)).1 = 0 := z
    rw [z', Int.zero_mul] at x
    rcases Int.mul_eq_zero.mp x.symm with y | y
    · exact h2 y
    · have := (rat_pos (lastF P L w s) (botF P 1) o.bot.z).1
      omega
  · unfold sumL
    rw [List.pairwise_map]
    exact (List.Pairwise.filter _ (rows_lex _ w)).imp fun h => lexLt_of h
theorem pos_ok (hp : ∀ p ∈ P, 0 < p.2.1) : ∀ p ∈ sumL P L w, 0 < p.2.1 := by
  have o := ok1 hP hL hm hw
  obtain ⟨C, c1, c2⟩ := Pm.laid cl_nn (m := w) (d := mostF P) (ls := L) (fun l hl => (hL.2 l hl).1) (P := coP P (botF P 1)) fun p hq => ⟨by rw [hL.1]; exact coP_len hP.w _ p hq, coP_deg hP.w _ p hq, by
    obtain ⟨r, hr, rfl⟩ := List.mem_map.mp hq
    have h1 := hp r hr
    have h2 := (fdiv_le o.bot.p (hP.q r hr).1.p (o.bot.d r hr)).1
    exact Int.mul_nonneg (by omega) (by omega)⟩
  have t : Told w P L C := ⟨fun p hp => ⟨(c1 p hp).1, (c1 p hp).2.1⟩, fun n hn => (topsF_val (l := m) hP.w L n).trans (c2 n hn)⟩
  intro p hq
  have nzp := ((found_ok hP hL hm hw).1 p hq).2.1
  obtain ⟨s, hs, rfl⟩ := List.mem_map.mp hq
  have hs' := (List.mem_filter.mp hs).1
  have e := lastF_coef t hs'
  have nn : 0 ≤ lastF P L w s := by
    rw [e]
    refine isum_nn fun p hp => ?_
    split
    · exact (c1 p hp).2.2
    · exact Int.le_refl _
  have x := rat_cross (lastF P L w s) (botF P 1) o.bot.z
  have p1 := (rat_pos (lastF P L w s) (botF P 1) o.bot.z).1
  have hB := o.bot.p
  have nn2 : 0 ≤ lastF P L w s * (rat (lastF P L w s) (botF P 1)).2 := Int.mul_nonneg nn (by omega)
  rw [← x] at nn2
  have : 0 ≤ (rat (lastF P L w s) (botF P 1)).1 := by
    rcases Int.lt_or_le (rat (lastF P L w s) (botF P 1)).1 0 with y | y
    · have := Int.mul_neg_of_neg_of_pos y hB
      omega
    · exact y
  show 0 < (rat (lastF P L w s) (botF P 1)).1
  have nz' : (rat (lastF P L w s) (botF P 1)).1 ≠ 0 := nzp
  omega
theorem same_value (s : List Nat) (hs : s.length = w) : (dueF ((L.map fun l => ((lineN l s : Nat) : Int))) P (0, 1)).1 * (dueF (iN s) (sumL P L w) (0, 1)).2 = (dueF (iN s) (sumL P L w) (0, 1)).1 * (dueF ((L.map fun l => ((lineN l s : Nat) : Int))) P (0, 1)).2 := by
  have o := ok1 hP hL hm hw
  obtain ⟨h1, _⟩ := between_ok hP hL hm hw
  obtain ⟨b1, _, b3, _⟩ := botF_ok (w := 3100) (sumL P L w) 1 1 (by decide) (by decide) fun p hp => (h1 p hp).1
  have d1 := due_cross (B := botF P 1) (L.map fun l => ((lineN l s : Nat) : Int)) P 0 (0, 1) (fun p hp => ⟨(hP.q p hp).1.p, o.bot.d p hp⟩) (by simp)
  have d2 := due_cross (B := botF (sumL P L w) 1) (iN s) (sumL P L w) 0 (0, 1) (fun p hp => ⟨(h1 p hp).1.p, b3 p hp⟩) (by simp)
  rw [Int.zero_add] at d1 d2
  obtain ⟨C, tC⟩ := told_ex (m := w) (P := P) (ls := L) (fun p hp => (o.p p hp).2) fun l hl => (o.l l hl).1
  have e := sumL_eq tC
  have h2 := sumC_val (E := botF (sumL P L w) 1) tC.l o.bot.p (by rw [← e]; exact b3) s
  rw [← e, ← topF_val (l := w) (fun p hp => (h1 p hp).2), ← tC.v s hs] at h2
  have e3 : topsF P L s = topF P (L.map fun l => ((lineN l s : Nat) : Int)) (botF P 1) := rfl
  rw [e3] at h2
  generalize dueF (L.map fun l => ((lineN l s : Nat) : Int)) P (0, 1) = x at d1
  generalize dueF (iN s) (sumL P L w) (0, 1) = y at d2
  generalize topF P (L.map fun l => ((lineN l s : Nat) : Int)) (botF P 1) = tp at d1 h2
  generalize topF (sumL P L w) (iN s) (botF (sumL P L w) 1) = tq at d2 h2
  have hB := o.bot.p
  generalize botF P 1 = B at d1 h2 hB
  generalize botF (sumL P L w) 1 = E at d2 h2 b1
  have key : x.1 * y.2 * (B * E) = y.1 * x.2 * (B * E) := by
    have l : x.1 * y.2 * (B * E) = (x.1 * B) * y.2 * E := by grind
    have r : y.1 * x.2 * (B * E) = (y.1 * E) * x.2 * B := by grind
    rw [l, r, ← d1, ← d2]
    have l2 : tp * x.2 * y.2 * E = tp * E * (x.2 * y.2) := by grind
    have r2 : tq * y.2 * x.2 * B = tq * B * (x.2 * y.2) := by grind
    rw [l2, r2, h2]
  exact Int.eq_of_mul_eq_mul_right (Int.ne_of_gt (Int.mul_pos hB b1)) key
end
end K36

set_option Elab.async false
set_option linter.all false
set_option maxRecDepth 100000
set_option maxHeartbeats 1000000
set_option exponentiation.threshold 40000
namespace K36
open PySem PySem.Spec PyProof.Rows L2 TL
theorem getD_mapI (l : List Nat) (k : Nat) : (iN l).getD k 0 = (l.getD k 0 : Int) := by
  rw [List.getD_eq_getElem?_getD, List.getD_eq_getElem?_getD, List.getElem?_map]
  cases l[k]? <;> rfl
theorem laid_c {w k m : Nat} {P : List Prt} {ls : List (List Nat)} (h : LaidOk w k m P ls) {i : Nat} {S : Store} (e : S[i]? = some (.lst (ls.map tN))) : gc S (m_laid [sumT P, .obj i, .int (m : Int)] S) = .ok (sumT (sumL P ls m)) S := m_laid_eq h (.obj i) [(i, .lst (ls.map tN))] S (fun J => items_obj (get_app e)) (chk_one e)
theorem cut_diff (xs : List PV) (a b : Nat) : (cutP xs (some (a : Int)) (some (b : Int))).length ≤ b - a := by
  unfold cutP
  rw [HT.sIx_nat, HT.sIx_nat, List.length_take]
  omega
theorem bnd_sum (n : Nat) (P : List Prt) : bnd n (sumT P) = true := bnds_all.mpr fun x hx => by
  obtain ⟨p, _, rfl⟩ := List.mem_map.mp hx
  exact bnd_part _ _
theorem all_pos (P : List Prt) (hl : P.length ≤ 1000) {v : Nat} {ρ : Sl} {S : Store} (hv : ρ[v]? = some (some (sumT P))) (hr : ρ.length = 20) :
    eGc (eB allV (aCons (eLc (.tup [17, 18]) (iAny (eVar v)) tYes' (eBin gtV (eBin getV (eVar 18) (eK (.int 0))) (eK (.int 0))) [17, 18]) aNil)) ρ S = .ok (.bl (P.all fun p => decide (0 < p.2.1))) S := by
  have lc := eLc_tm (t := .tup [17, 18]) (te := eBin gtV (eBin getV (eVar 18) (eK (.int 0))) (eK (.int 0))) partV (fun p => PV.bl (decide (0 < p.2.1))) P [] (vs := [17, 18]) (it := iAny (eVar v)) (ρ := ρ) (S := S) (S1 := S) (by rw [iAny_ap, eVar_ap, hv]; rfl) (chk_nil _) (by omega) (by
    intro p hp
    refine ⟨_, rfl, fun zs => ?_⟩
    have r : ((setAll (wipeP ρ [17, 18]) [17, 18] [tI p.1, pr p.2]))[18]? = some (some (pr p.2)) := by
      show (((ρ.set 18 none).set 17 none).set 17 (some (tI p.1)) |>.set 18 (some (pr p.2)))[18]? = _
      rw [List.getElem?_set_self]
      simp [hr]
    rw [eBin_of (x := .int p.2.1) (y := .int 0) (S1 := S ++ [.lst zs]) (S2 := S ++ [.lst zs]) (r := .ok (.bl (decide (0 < p.2.1))) (S ++ [.lst zs])) ?_ rfl rfl]
    refine eBin_of (x := pr p.2) (y := .int 0) ?_ rfl rfl
    rw [eVar_ap, r])
  refine eGc_of (J := [.lst (P.map fun p => PV.bl (decide (0 < p.2.1)))]) ?_ rfl
  rw [eB_ap, aCons_ap, lc, bind_ap, aNil_ap, bind_ap, bind_ap]
  show (match (lstOf (.obj S.length) (S ++ [.lst (P.map fun p => PV.bl (decide (0 < p.2.1)))])).bind blsOf with | some ns => Res.ok (PV.bl (ns.all id)) _ | none => .stuck) = _
  have l : lstOf (.obj S.length) (S ++ [.lst (P.map fun p => PV.bl (decide (0 < p.2.1)))]) = some ((P.map fun p => decide (0 < p.2.1)).map PV.bl) := by
    unfold lstOf
    simp only [get_last, List.map_map]
    rfl
  rw [l, Option.bind_some, blsOf_map]
  simp only [List.all_map]
  rfl
theorem law_pure : ∀ ns : List Int, ns.length ≤ 63 → ∃ S, m_law [.rol (ns.map .int)] [] = .ok (.bl true) S := by
  intro ns hl
  refine Rt.out ?_
  have c0 := fun S => cell_eq ns 0 S hl
  have c1 := fun S => cell_eq ns 1 S hl
  simp at c0 c1
  show Rt (b_law [some (.rol (ns.map .int)), none, none, none, none, none, none, none, none, none, none, none, none, none, none, none, none, none, none, none] [])
  unfold b_law
  have l2 : (2 : Nat) ≤ sizeLine := line2 (by decide)
  have l0 : (0 : Nat) ≤ sizeLine := Nat.zero_le _
  obtain ⟨m, q, hm16, hq, hmq⟩ : ∃ m q : Nat, m ≤ 16 ∧ q ≤ 3 ∧ ((((cellI ns 0).fdiv 4).fmod 8 = 1 ∧ 4 + ((cellI ns 0).fdiv 32).fmod 13 = (m : Int) ∧ q = 1) ∨ (¬ ((cellI ns 0).fdiv 4).fmod 8 = 1 ∧ (cellI ns 0).fmod 4 = (m : Int) ∧ q = 3)) := by
    obtain ⟨x, hx, hx'⟩ := mod_nat ((cellI ns 0).fdiv 32) (b := 13) (by decide)
    obtain ⟨y, hy, hy'⟩ := mod_nat (cellI ns 0) (b := 4) (by decide)
    push_cast at hx hy
    by_cases h : ((cellI ns 0).fdiv 4).fmod 8 = 1
    · exact ⟨4 + x, 1, by omega, by omega, .inl ⟨h, by rw [hx]; push_cast; rfl, rfl⟩⟩
    · exact ⟨y, 3, by omega, by omega, .inr ⟨h, hy, rfl⟩⟩
  obtain ⟨w, hw, hw3⟩ := mod_nat (cellI ns 1) (b := 4) (by decide)
  push_cast at hw
  have hw3' : w ≤ 3 := by omega
  refine st_set (.int (cellI ns 0)) [] (by simp [c0]) ?_
  simp only [List.set_cons_succ, List.set_cons_zero]
  refine st_set (.int ((cellI ns 0).fmod 4)) [] (by simp) ?_
  simp only [List.set_cons_succ, List.set_cons_zero]
  refine st_set (.int 3) [] rfl ?_
  simp only [List.set_cons_succ, List.set_cons_zero]
  refine st_nx (P := fun ρ' S' => ρ' = [some (.rol (ns.map .int)), some (.int (cellI ns 0)), some (.int (m : Int)), some (.int (q : Int)), none, none, none, none, none, none, none, none, none, none, none, none, none, none, none, none] ∧ S' = []) ?_ ?_
  · rcases hmq with ⟨h, e, rfl⟩ | ⟨h, e, rfl⟩
    · exact ⟨_, [], by simp [h, e], rfl, rfl⟩
    · exact ⟨_, [], by simp [h, e], rfl, rfl⟩
  rintro ρ' S' ⟨rfl, rfl⟩
  refine st_set (.int (w : Int)) [] (by simp [c1, hw]) ?_
  simp only [List.set_cons_succ, List.set_cons_zero]
  -- the parts
  obtain ⟨cs, hcs⟩ := cut_map ns (some 2) (some 44)
  have hcl : cs.length ≤ 42 := by
    have := cut_diff (ns.map PV.int) 2 44
    rw [show ((2 : Nat) : Int) = 2 from rfl, show ((44 : Nat) : Int) = 44 from rfl, hcs, List.length_map] at this
    omega
  obtain ⟨D, hD, hD0, hDl, eD⟩ := law_sum_eq cs m q 0 (by omega) hq (by omega) [.lst (cs.map .int)] rfl
  generalize hPe : told D = P at eD
  have pm := told_perm hD.u
  have hP : Ps m P := by
    rw [← hPe]
    exact ⟨fun p hp => hD.w p (pm.mem_iff.mp hp), fun p hp => hD.q p (pm.mem_iff.mp hp), fun p hp => hD0 p (pm.mem_iff.mp hp), by rw [pm.length_eq]; omega⟩
  clear hD hD0 hDl pm hPe
  refine st_set (sumT P) [] (eGc_of (S := []) (J := [.lst (cs.map .int)]) (by
    have g : gc [] (.ok (.obj 0) [PO.lst (cs.map PV.int)]) = .ok (.obj 0) [PO.lst (cs.map .int)] := gc_new (S := []) (J := [PO.lst (cs.map PV.int)]) (Nat.le_refl _) rfl (bnds_ints 0 cs)
    simp [sliceV, hcs, g, eD]) (bnd_sum _ P)) ?_
  simp only [List.set_cons_succ, List.set_cons_zero]
  -- the lines
  have hL := linesN_ok ns m w
  refine st_set (.obj 0) [.lst []] (by simp only [eBin_ap, eChain_ap, eB_ap, eTup_ap, eLst_ap, eDic_ap, aCons_ap, aNil_ap, eVar_ap, eK_ap, eNeg_ap, eNot_ap, eAnd_ap, eOr_ap, eIf_ap, eCall_ap, eGc_ap, oNone_ap, oSome_ap, eSlice_ap, tBl_ap, tTru_ap, cAnd_ap, cOr_ap, cNot_ap, bind_ap, bind_apx, sb_ap, List.getElem?_cons_succ, List.getElem?_cons_zero, List.set_cons_succ, List.set_cons_zero, List.length_cons, List.length_nil, Nat.zero_add, Nat.reduceAdd, if_true, ite_true, Bool.false_eq_true, if_false, Bool.not_true, Bool.not_false, l0]; rfl) ?_
  simp only [List.set_cons_succ, List.set_cons_zero]
  refine st_nx (P := fun ρ T => ∃ a7, ρ = [some (.rol (ns.map .int)), some (.int (cellI ns 0)), some (.int (m : Int)), some (.int (q : Int)), some (.int (w : Int)), some (sumT P), some (.obj 0), a7, none, none, none, none, none, none, none, none, none, none, none, none] ∧ T = [.lst ((linesN ns m w).map tN)]) ?_ ?_
  · refine Nx.mono (nx_forI (S1 := [.lst []]) (fun k : Nat => PV.int (k : Int)) (List.range m) [] (fun i ρ T => ∃ a7, ρ = [some (.rol (ns.map .int)), some (.int (cellI ns 0)), some (.int (m : Int)), some (.int (q : Int)), some (.int (w : Int)), some (sumT P), some (.obj 0), a7, none, none, none, none, none, none, none, none, none, none, none, none] ∧ T = [.lst ((((List.range m).take i).map fun k => (List.range (w + 1)).map fun j => numN ns (k * (w + 1) + j)).map tN)]) (it_rng rfl (by omega)) (fun _ _ _ _ => chk_nil _) ?_ ⟨none, rfl, rfl⟩) ?_
    · rintro i k ρ T hk ⟨a7, rfl, rfl⟩
      obtain ⟨rfl, hk'⟩ := rng_at hk
      refine ⟨_, rfl, ?_⟩
      simp only [List.set_cons_succ, List.set_cons_zero]
      have tk : (List.range m).take (k + 1) = (List.range m).take k ++ [k] := by rw [List.take_add_one, hk]; rfl
      generalize hLL : ((List.range m).take k).map (fun k => (List.range (w + 1)).map fun j => numN ns (k * (w + 1) + j)) = L
      have hLl : L.length ≤ 16 := by rw [← hLL, List.length_map, List.length_take, List.length_range]; omega
      have lc := eLc_tm (t := .name 16) (te := eCall 2 m_law_number (aCons (eVar 0) (aCons (eBin addV (eBin mulV (eVar 7) (eBin addV (eVar 4) (eK (.int 1)))) (eVar 16)) aNil))) (fun j : Nat => PV.int (j : Int)) (fun j => PV.int (numN ns (k * (w + 1) + j) : Int)) (List.range (w + 1)) [] (vs := [16]) (it := iRange1 (eBin addV (eVar 4) (eK (.int 1))))
        (ρ := [some (.rol (ns.map .int)), some (.int (cellI ns 0)), some (.int (m : Int)), some (.int (q : Int)), some (.int (w : Int)), some (sumT P), some (.obj 0), some (.int (k : Int)), none, none, none, none, none, none, none, none, none, none, none, none]) (S := [.lst (L.map tN)]) (S1 := [.lst (L.map tN)])
        (it_rng (by simp only [eBin_ap, eChain_ap, eB_ap, eTup_ap, eLst_ap, eDic_ap, aCons_ap, aNil_ap, eVar_ap, eK_ap, eNeg_ap, eNot_ap, eAnd_ap, eOr_ap, eIf_ap, eCall_ap, eGc_ap, oNone_ap, oSome_ap, eSlice_ap, tBl_ap, tTru_ap, cAnd_ap, cOr_ap, cNot_ap, bind_ap, bind_apx, sb_ap, List.getElem?_cons_succ, List.getElem?_cons_zero, List.set_cons_succ, List.set_cons_zero, List.length_cons, List.length_nil, Nat.zero_add, Nat.reduceAdd, if_true, ite_true, Bool.false_eq_true, if_false, Bool.not_true, Bool.not_false, addV_int]; push_cast; rfl) (by omega)) (chk_nil _) (by rw [List.length_range]; omega) (by
          intro j hj
          have hj' := List.mem_range.mp hj
          refine ⟨[some (.rol (ns.map .int)), some (.int (cellI ns 0)), some (.int (m : Int)), some (.int (q : Int)), some (.int (w : Int)), some (sumT P), some (.obj 0), some (.int (k : Int)), none, none, none, none, none, none, none, none, some (.int (j : Int)), none, none, none], rfl, fun zs => ?_⟩
          have kw : k * (w + 1) ≤ 16 * 4 := Nat.mul_le_mul (by omega) (by omega)
          have qn := number_eq ns hl (k * (w + 1) + j) (by omega) ([PO.lst (L.map tN)] ++ [.lst zs])
          push_cast at qn
          have m1 : mulOk (k : Int) ((w : Int) + 1) = true := mulOk_r (by omega)
          refine call2_of (x := .rol (ns.map .int)) (y := .int ((k : Int) * ((w : Int) + 1) + (j : Int))) rfl ?_ (by rw [qn]; exact gc_self _ _)
          simp only [eBin_ap, eChain_ap, eB_ap, eTup_ap, eLst_ap, eDic_ap, aCons_ap, aNil_ap, eVar_ap, eK_ap, eNeg_ap, eNot_ap, eAnd_ap, eOr_ap, eIf_ap, eCall_ap, eGc_ap, oNone_ap, oSome_ap, eSlice_ap, tBl_ap, tTru_ap, cAnd_ap, cOr_ap, cNot_ap, bind_ap, bind_apx, sb_ap, List.getElem?_cons_succ, List.getElem?_cons_zero, List.set_cons_succ, List.set_cons_zero, List.length_cons, List.length_nil, Nat.zero_add, Nat.reduceAdd, if_true, ite_true, Bool.false_eq_true, if_false, Bool.not_true, Bool.not_false, addV_int, mulV_int, m1])
      have e : ((List.range (w + 1)).map fun j => PV.int (numN ns (k * (w + 1) + j) : Int)) = (iN ((List.range (w + 1)).map fun j => numN ns (k * (w + 1) + j))).map .int := by
        show _ = List.map PV.int (List.map (fun n : Nat => (n : Int)) (List.map _ _))
        rw [List.map_map, List.map_map]
        rfl
      rw [e] at lc
      have tq := tuple_of lc (bnds_ints _ _)
      refine nx_drop .non _ (eM_append (i := 0) (y := tN ((List.range (w + 1)).map fun j => numN ns (k * (w + 1) + j))) rfl rfl (eGc2 tq) ?_) ⟨_, rfl, ?_⟩
      · rw [List.length_map]
        exact Nat.lt_of_lt_of_le (show _ < 1000000 by omega) (line2 (Nat.le_refl _))
      · rw [tk, List.map_append, List.map_append, hLL]
        rfl
    · rintro ρ T ⟨a7, rfl, rfl⟩
      rw [List.take_length]
      exact ⟨a7, rfl, rfl⟩
  rintro ρ T ⟨a7, rfl, rfl⟩
  generalize linesN ns m w = L at hL
  have o1 := ok1 hP hL hm16 hw3'
  have bo := between_ok hP hL hm16 hw3'
  have fo := found_ok hP hL hm16 hw3'
  have po := pos_ok hP hL hm16 hw3'
  have sv := same_value hP hL hm16 hw3'
  generalize hQ : sumL P L w = Q at bo fo po sv
  refine st_set (.obj 1) [.lst (L.map tN), .lst (L.map tN)] ?_ ?_
  · refine eGc_new (S := [PO.lst (L.map tN)]) (J := [.lst (L.map tN)]) (i := 1) ?_ (Nat.le_refl _) rfl (bnds_all.mpr fun x hx => by
      obtain ⟨s, _, rfl⟩ := List.mem_map.mp hx
      exact bnd_tN _ _)
    have := list_obj (i := 0) (S := [PO.lst (L.map tN)]) rfl
    simp only [eBin_ap, eChain_ap, eB_ap, eTup_ap, eLst_ap, eDic_ap, aCons_ap, aNil_ap, eVar_ap, eK_ap, eNeg_ap, eNot_ap, eAnd_ap, eOr_ap, eIf_ap, eCall_ap, eGc_ap, oNone_ap, oSome_ap, eSlice_ap, tBl_ap, tTru_ap, cAnd_ap, cOr_ap, cNot_ap, bind_ap, bind_apx, sb_ap, List.getElem?_cons_succ, List.getElem?_cons_zero, List.set_cons_succ, List.set_cons_zero, List.length_cons, List.length_nil, Nat.zero_add, Nat.reduceAdd, if_true, ite_true, Bool.false_eq_true, if_false, Bool.not_true, Bool.not_false, this]
  simp only [List.set_cons_succ, List.set_cons_zero]
  obtain ⟨S2, hS2⟩ : ∃ S2, S2 = [PO.lst (L.map tN), .lst (L.map tN)] := ⟨_, rfl⟩
  have a0 : S2[0]? = some (.lst (L.map tN)) := by rw [hS2]; rfl
  have a1 : S2[1]? = some (.lst (L.map tN)) := by rw [hS2]; rfl
  rw [← hS2]
  clear hS2
  have k1 := laid_c o1 a1
  rw [hQ] at k1
  refine st_set (sumT Q) S2 (call3_of (x := sumT P) (y := .obj 1) (z := .int (w : Int)) rfl rfl rfl k1) ?_
  simp only [List.set_cons_succ, List.set_cons_zero]
  refine st_no S2 ?_ ?_
  · have i1 := is_sum_eq Q w (by omega) (by omega) fo.1 fo.2 S2
    have r1 : eCall 2 m_law_is_sum (aCons (eVar 9) (aCons (eVar 4) aNil)) [some (.rol (ns.map .int)), some (.int (cellI ns 0)), some (.int (m : Int)), some (.int (q : Int)), some (.int (w : Int)), some (sumT P), some (.obj 0), a7, some (.obj 1), some (sumT Q), none, none, none, none, none, none, none, none, none, none] S2 = .ok (.bl true) S2 := call2_of (x := sumT Q) (y := .int (w : Int)) rfl rfl i1
    have okL : (L.map tN).all (okV 1) = true := List.all_eq_true.mpr fun x hx => by
      obtain ⟨s, _, rfl⟩ := List.mem_map.mp hx
      exact okV_tints _
    have r2 : eqG (fun b => !b) (.obj 1) (.obj 0) S2 = .ok (.bl false) S2 := by
      rw [eqG_lst (k := 1) (fun b => !b) (by decide) a1 a0 okL okL, decide_eq_true rfl]
      rfl
    rw [cOr_ap, cNot_ap, tTru_ap, r1]
    simp only [bind_ap, truV_bl, Bool.not_true, Bool.false_eq_true, if_false, tBl_ap, eBin_ap, eVar_ap, List.getElem?_cons_succ, List.getElem?_cons_zero, r2]
  refine st_no S2 ?_ ?_
  · have p1 := all_pos P (by have := hP.l; omega) (v := 5) (ρ := [some (.rol (ns.map .int)), some (.int (cellI ns 0)), some (.int (m : Int)), some (.int (q : Int)), some (.int (w : Int)), some (sumT P), some (.obj 0), a7, some (.obj 1), some (sumT Q), none, none, none, none, none, none, none, none, none, none]) (S := S2) rfl rfl
    have p2 := all_pos Q (by omega) (v := 9) (ρ := [some (.rol (ns.map .int)), some (.int (cellI ns 0)), some (.int (m : Int)), some (.int (q : Int)), some (.int (w : Int)), some (sumT P), some (.obj 0), a7, some (.obj 1), some (sumT Q), none, none, none, none, none, none, none, none, none, none]) (S := S2) rfl rfl
    refine tGc_of (J := []) ?_
    rw [List.append_nil, cAnd_ap, tTru_ap, p1, bind_ap, truV_bl, bind_ap]
    by_cases h : (P.all fun p => decide (0 < p.2.1)) = true
    · rw [if_pos h, cNot_ap, tTru_ap, p2]
      have : (Q.all fun p => decide (0 < p.2.1)) = true := List.all_eq_true.mpr fun p hp => decide_eq_true (po (fun r hr => of_decide_eq_true (List.all_eq_true.mp h r hr)) p hp)
      rw [this]
      rfl
    · rw [if_neg h]
  -- the two rows of sizes
  refine st_nx (P := fun _ _ => True) ?_ (fun ρ T _ => st_true T rfl)
  have it1 : iAny (eLst (aCons (eK (.int 44)) (aCons (eK (.int 47)) aNil))) [some (.rol (ns.map .int)), some (.int (cellI ns 0)), some (.int (m : Int)), some (.int (q : Int)), some (.int (w : Int)), some (sumT P), some (.obj 0), a7, some (.obj 1), some (sumT Q), none, none, none, none, none, none, none, none, none, none] S2 = .ok (([44, 47] : List Nat).map (fun n : Nat => PV.int (n : Int)), [(S2.length, .lst [.int 44, .int 47])]) (S2 ++ [.lst [.int 44, .int 47]]) := by
    rw [iAny_ap]
    have : eLst (aCons (eK (.int 44)) (aCons (eK (.int 47)) aNil)) [some (.rol (ns.map .int)), some (.int (cellI ns 0)), some (.int (m : Int)), some (.int (q : Int)), some (.int (w : Int)), some (sumT P), some (.obj 0), a7, some (.obj 1), some (sumT Q), none, none, none, none, none, none, none, none, none, none] S2 = .ok (.obj S2.length) (S2 ++ [.lst [.int 44, .int 47]]) := by simp only [eBin_ap, eChain_ap, eB_ap, eTup_ap, eLst_ap, eDic_ap, aCons_ap, aNil_ap, eVar_ap, eK_ap, eNeg_ap, eNot_ap, eAnd_ap, eOr_ap, eIf_ap, eCall_ap, eGc_ap, oNone_ap, oSome_ap, eSlice_ap, tBl_ap, tTru_ap, cAnd_ap, cOr_ap, cNot_ap, bind_ap, bind_apx, sb_ap, List.getElem?_cons_succ, List.getElem?_cons_zero, List.set_cons_succ, List.set_cons_zero, List.length_cons, List.length_nil, Nat.zero_add, Nat.reduceAdd, if_true, ite_true, Bool.false_eq_true, if_false, Bool.not_true, Bool.not_false, l2]
    rw [this, bind_ap, items_obj get_last]
    rfl
  refine Nx.mono (nx_forI (S1 := S2 ++ [.lst [.int 44, .int 47]]) (fun n : Nat => PV.int (n : Int)) [44, 47] [(S2.length, .lst [.int 44, .int 47])] (fun _ ρ T => ∃ a7 s10 s11 s12 s13 s14 s15 J, ρ = [some (.rol (ns.map .int)), some (.int (cellI ns 0)), some (.int (m : Int)), some (.int (q : Int)), some (.int (w : Int)), some (sumT P), some (.obj 0), a7, some (.obj 1), some (sumT Q), s10, s11, s12, s13, s14, s15, none, none, none, none] ∧ T = S2 ++ .lst [.int 44, .int 47] :: J) it1 ?_ ?_ ⟨a7, none, none, none, none, none, none, [], rfl, rfl⟩) fun _ _ _ => trivial
  · rintro i ρ T ⟨a7, s10, s11, s12, s13, s14, s15, J, rfl, rfl⟩
    refine chk_one ?_
    rw [List.getElem?_append_right (Nat.le_refl _), Nat.sub_self]
    rfl
  · rintro i st ρ T hst ⟨a7, s10, s11, s12, s13, s14, s15, J, rfl, rfl⟩
    have hst' : st ≤ 47 := by
      have := List.mem_of_getElem? hst
      simp only [List.mem_cons, List.not_mem_nil, or_false] at this
      omega
    refine ⟨_, rfl, ?_⟩
    simp only [List.set_cons_succ, List.set_cons_zero]
    obtain ⟨S3, hS3⟩ : ∃ S3, S3 = S2 ++ PO.lst [.int 44, .int 47] :: J := ⟨_, rfl⟩
    have b0 : S3[0]? = some (.lst (L.map tN)) := by rw [hS3]; exact get_app a0
    obtain ⟨K, hK⟩ : ∃ K, S3 = S2 ++ PO.lst [.int 44, .int 47] :: K := ⟨J, hS3⟩
    rw [← hS3]
    clear hS3
    refine st_set (.int ((cellI ns 1).fdiv 4)) S3 (by simp [c1]) ?_
    simp only [List.set_cons_succ, List.set_cons_zero]
    -- the sizes
    obtain ⟨sz, hsz⟩ : ∃ sz, sz = (List.range w).map fun k : Nat => sizeN (cellI ns (st + k) + (cellI ns 1).fdiv 4 * ((st : Int) + 2 * (k : Int))) := ⟨_, rfl⟩
    have szl : sz.length = w := by rw [hsz, List.length_map, List.length_range]
    have szb : ∀ z ∈ sz, z < 10 ^ 20 := by
      intro z hz
      rw [hsz] at hz
      obtain ⟨k, _, rfl⟩ := List.mem_map.mp hz
      exact (size_eq _ []).2
    refine st_set (.obj S3.length) (S3 ++ [.lst ((iN sz).map .int)]) ?_ ?_
    · have lc := eLc_tm (t := .name 7) (te := eCall 1 m_law_size (aCons (eBin addV (eCall 2 m_law_cell_at (aCons (eVar 0) (aCons (eBin addV (eVar 10) (eVar 7)) aNil))) (eBin mulV (eVar 11) (eBin addV (eVar 10) (eBin mulV (eK (.int 2)) (eVar 7))))) aNil)) (fun k : Nat => PV.int (k : Int)) (fun k : Nat => PV.int ((sizeN (cellI ns (st + k) + (cellI ns 1).fdiv 4 * ((st : Int) + 2 * (k : Int))) : Nat) : Int)) (List.range w) [] (vs := [7]) (it := iRange1 (eVar 4))
        (ρ := [some (.rol (ns.map .int)), some (.int (cellI ns 0)), some (.int (m : Int)), some (.int (q : Int)), some (.int (w : Int)), some (sumT P), some (.obj 0), a7, some (.obj 1), some (sumT Q), some (.int (st : Int)), some (.int ((cellI ns 1).fdiv 4)), s12, s13, s14, s15, none, none, none, none]) (S := S3) (S1 := S3) (it_rng rfl (by omega)) (chk_nil _) (by rw [List.length_range]; omega) (by
          intro k hk
          have hk' := List.mem_range.mp hk
          refine ⟨[some (.rol (ns.map .int)), some (.int (cellI ns 0)), some (.int (m : Int)), some (.int (q : Int)), some (.int (w : Int)), some (sumT P), some (.obj 0), some (.int (k : Int)), some (.obj 1), some (sumT Q), some (.int (st : Int)), some (.int ((cellI ns 1).fdiv 4)), s12, s13, s14, s15, none, none, none, none], rfl, fun zs => ?_⟩
          have cc := cell_eq ns (st + k) (S3 ++ [.lst zs]) hl
          have se := (size_eq (cellI ns (st + k) + (cellI ns 1).fdiv 4 * ((st : Int) + 2 * (k : Int))) (S3 ++ [.lst zs])).1
          push_cast at cc
          have m1 : mulOk 2 (k : Int) = true := mulOk_l (by omega)
          have m2 : mulOk ((cellI ns 1).fdiv 4) ((st : Int) + 2 * (k : Int)) = true := mulOk_r (by omega)
          refine call1_of (x := .int (cellI ns (st + k) + (cellI ns 1).fdiv 4 * ((st : Int) + 2 * (k : Int)))) ?_ (by rw [se]; exact gc_self _ _)
          have r1 : eCall 2 m_law_cell_at (aCons (eVar 0) (aCons (eBin addV (eVar 10) (eVar 7)) aNil)) [some (.rol (ns.map .int)), some (.int (cellI ns 0)), some (.int (m : Int)), some (.int (q : Int)), some (.int (w : Int)), some (sumT P), some (.obj 0), some (.int (k : Int)), some (.obj 1), some (sumT Q), some (.int (st : Int)), some (.int ((cellI ns 1).fdiv 4)), s12, s13, s14, s15, none, none, none, none] (S3 ++ [.lst zs]) = .ok (.int (cellI ns (st + k))) (S3 ++ [.lst zs]) := call2_of (x := .rol (ns.map .int)) (y := .int ((st : Int) + (k : Int))) rfl rfl (by rw [cc]; exact gc_self _ _)
          rw [eBin_ap, r1]
          simp only [eBin_ap, eChain_ap, eB_ap, eTup_ap, eLst_ap, eDic_ap, aCons_ap, aNil_ap, eVar_ap, eK_ap, eNeg_ap, eNot_ap, eAnd_ap, eOr_ap, eIf_ap, eCall_ap, eGc_ap, oNone_ap, oSome_ap, eSlice_ap, tBl_ap, tTru_ap, cAnd_ap, cOr_ap, cNot_ap, bind_ap, bind_apx, sb_ap, List.getElem?_cons_succ, List.getElem?_cons_zero, List.set_cons_succ, List.set_cons_zero, List.length_cons, List.length_nil, Nat.zero_add, Nat.reduceAdd, if_true, ite_true, Bool.false_eq_true, if_false, Bool.not_true, Bool.not_false, addV_int, mulV_int, m1, m2])
      have e : ((List.range w).map fun k : Nat => PV.int ((sizeN (cellI ns (st + k) + (cellI ns 1).fdiv 4 * ((st : Int) + 2 * (k : Int))) : Nat) : Int)) = (iN sz).map .int := by
        rw [hsz]
        show _ = List.map PV.int (List.map (fun n : Nat => (n : Int)) (List.map _ _))
        rw [List.map_map, List.map_map]
        rfl
      rw [e] at lc
      exact lc
    simp only [List.set_cons_succ, List.set_cons_zero]
    obtain ⟨S4, hS4⟩ : ∃ S4, S4 = S3 ++ [PO.lst ((iN sz).map .int)] := ⟨_, rfl⟩
    have d0 : S4[0]? = some (.lst (L.map tN)) := by rw [hS4]; exact get_app b0
    have d1 : S4[S3.length]? = some (.lst ((iN sz).map .int)) := by rw [hS4]; exact get_last
    rw [← hS4]
    generalize S3.length = si at d1
    -- the lines' values
    refine st_set (.obj S4.length) (S4 ++ [.lst ((L.map fun l => ((lineN l sz : Nat) : Int)).map .int)]) ?_ ?_
    · have e : (L.map fun l => ((lineN l sz : Nat) : Int)).map PV.int = L.map fun l => PV.int ((lineN l sz : Nat) : Int) := by rw [List.map_map]; rfl
      rw [e]
      refine eLc_tm (t := .name 19) tN (fun l => PV.int ((lineN l sz : Nat) : Int)) L [(0, .lst (L.map tN))] (by rw [iAny_ap, eVar_ap]; exact items_obj d0) (chk_one d0) (by omega) ?_
      intro l hl'
      obtain ⟨ll, lx⟩ := hL.2 l hl'
      refine ⟨[some (.rol (ns.map .int)), some (.int (cellI ns 0)), some (.int (m : Int)), some (.int (q : Int)), some (.int (w : Int)), some (sumT P), some (.obj 0), a7, some (.obj 1), some (sumT Q), some (.int (st : Int)), some (.int ((cellI ns 1).fdiv 4)), some (.obj si), s13, s14, s15, none, none, none, some (tN l)], rfl, fun zs => ?_⟩
      have ic := eLc_tm (t := .name 7) (te := eBin mulV (eBin getV (eVar 19) (eBin addV (eVar 7) (eK (.int 1)))) (eBin getV (eVar 12) (eVar 7))) (fun k : Nat => PV.int (k : Int)) (fun k => PV.int ((l.getD (k + 1) 0 * sz.getD k 0 : Nat) : Int)) (List.range w) [] (vs := [7]) (it := iRange1 (eVar 4))
        (ρ := [some (.rol (ns.map .int)), some (.int (cellI ns 0)), some (.int (m : Int)), some (.int (q : Int)), some (.int (w : Int)), some (sumT P), some (.obj 0), a7, some (.obj 1), some (sumT Q), some (.int (st : Int)), some (.int ((cellI ns 1).fdiv 4)), some (.obj si), s13, s14, s15, none, none, none, some (tN l)]) (S := S4 ++ [.lst zs]) (S1 := S4 ++ [.lst zs]) (it_rng rfl (by omega)) (chk_nil _) (by rw [List.length_range]; omega) (by
          intro k hk
          have hk' := List.mem_range.mp hk
          refine ⟨[some (.rol (ns.map .int)), some (.int (cellI ns 0)), some (.int (m : Int)), some (.int (q : Int)), some (.int (w : Int)), some (sumT P), some (.obj 0), some (.int (k : Int)), some (.obj 1), some (sumT Q), some (.int (st : Int)), some (.int ((cellI ns 1).fdiv 4)), some (.obj si), s13, s14, s15, none, none, none, some (tN l)], rfl, fun zs' => ?_⟩
          have g1 := get_tN (s := l) (j := k + 1) (by omega) (S4 ++ [.lst zs] ++ [.lst zs'])
          push_cast at g1
          have g2 : getV (.obj si) (.int (k : Int)) (S4 ++ [.lst zs] ++ [.lst zs']) = .ok (.int (sz.getD k 0 : Int)) (S4 ++ [.lst zs] ++ [.lst zs']) := getV_lst (get_app (get_app d1)) (by
            rw [List.getElem?_map, List.getElem?_map, List.getD_eq_getElem?_getD, List.getElem?_eq_getElem (by omega)]
            rfl)
          have b1 : l.getD (k + 1) 0 ≤ 10 ^ 15 := by
            rw [List.getD_eq_getElem?_getD, List.getElem?_eq_getElem (by omega)]
            exact lx _ (List.getElem_mem (by omega))
          have m1 : mulOk (l.getD (k + 1) 0 : Int) (sz.getD k 0 : Int) = true := mulOk_l (by omega)
          simp only [eBin_ap, eChain_ap, eB_ap, eTup_ap, eLst_ap, eDic_ap, aCons_ap, aNil_ap, eVar_ap, eK_ap, eNeg_ap, eNot_ap, eAnd_ap, eOr_ap, eIf_ap, eCall_ap, eGc_ap, oNone_ap, oSome_ap, eSlice_ap, tBl_ap, tTru_ap, cAnd_ap, cOr_ap, cNot_ap, bind_ap, bind_apx, sb_ap, List.getElem?_cons_succ, List.getElem?_cons_zero, List.set_cons_succ, List.set_cons_zero, List.length_cons, List.length_nil, Nat.zero_add, Nat.reduceAdd, if_true, ite_true, Bool.false_eq_true, if_false, Bool.not_true, Bool.not_false, addV_int, g1, g2, mulV_int, m1]
          push_cast
          rfl)
      have e : ((List.range w).map fun k => PV.int ((l.getD (k + 1) 0 * sz.getD k 0 : Nat) : Int)) = (((List.range w).map fun k => ((l.getD (k + 1) 0 * sz.getD k 0 : Nat) : Int))).map .int := by rw [List.map_map]; rfl
      rw [e] at ic
      have sm : eGc (eB sumA (aCons (eLc (.name 7) (iRange1 (eVar 4)) tYes' (eBin mulV (eBin getV (eVar 19) (eBin addV (eVar 7) (eK (.int 1)))) (eBin getV (eVar 12) (eVar 7))) [7]) aNil)) [some (.rol (ns.map .int)), some (.int (cellI ns 0)), some (.int (m : Int)), some (.int (q : Int)), some (.int (w : Int)), some (sumT P), some (.obj 0), a7, some (.obj 1), some (sumT Q), some (.int (st : Int)), some (.int ((cellI ns 1).fdiv 4)), some (.obj si), s13, s14, s15, none, none, none, some (tN l)] (S4 ++ [.lst zs]) = .ok (.int (((List.range w).map fun k => ((l.getD (k + 1) 0 * sz.getD k 0 : Nat) : Int))).sum) (S4 ++ [.lst zs]) := by
        refine eGc_of (J := [.lst ((((List.range w).map fun k => ((l.getD (k + 1) 0 * sz.getD k 0 : Nat) : Int))).map .int)]) ?_ rfl
        rw [eB_ap, aCons_ap, ic, bind_ap, aNil_ap, bind_ap, bind_ap, sumA_obj get_last]
      have g0 := get_tN (s := l) (j := 0) (by omega) (S4 ++ [.lst zs])
      refine eGc_self ?_
      refine eBin_of (x := .int (l.getD 0 0 : Int)) (y := .int (((List.range w).map fun k => ((l.getD (k + 1) 0 * sz.getD k 0 : Nat) : Int))).sum) ?_ sm ?_
      · exact eBin_of (x := tN l) (y := .int 0) rfl rfl g0
      · have key : (l.getD 0 0 : Int) + (((List.range w).map fun k => ((l.getD (k + 1) 0 * sz.getD k 0 : Nat) : Int))).sum = (lineN l sz : Int) := by
          rw [← lineV_N l sz]
          unfold lineV
          cases l with
          | nil => simp at ll
          | cons a l =>
            have hll : l.length = w := by simpa using ll
            show (a : Int) + _ = (a : Int) + dot (iN l) (iN sz)
            rw [dot_sumR _ _ (by rw [List.length_map, List.length_map, szl]; exact hll)]
            unfold sumR
            rw [List.length_map, hll]
            have e2 : ((List.range w).map fun k => (((a :: l).getD (k + 1) 0 * sz.getD k 0 : Nat) : Int)) = (List.range w).map fun k => gi (iN l) k * gi (iN sz) k := by
              refine List.map_congr_left fun k hk => ?_
              unfold gi
              rw [getD_mapI, getD_mapI]
              push_cast
              rfl
            rw [e2]
        rw [addV_int, key]
    simp only [List.set_cons_succ, List.set_cons_zero]
    obtain ⟨S5, hS5⟩ : ∃ S5, S5 = S4 ++ [PO.lst ((L.map fun l => ((lineN l sz : Nat) : Int)).map .int)] := ⟨_, rfl⟩
    have f1 : S5[si]? = some (.lst ((iN sz).map .int)) := by rw [hS5]; exact get_app d1
    have f2 : S5[S4.length]? = some (.lst ((L.map fun l => ((lineN l sz : Nat) : Int)).map .int)) := by rw [hS5]; exact get_last
    rw [← hS5]
    generalize S4.length = vi at f2
    have szs : ∀ z ∈ sz, z ≤ 10 ^ 20 := fun z hz => Nat.le_of_lt (szb z hz)
    have sumb : sz.sum ≤ 3 * 10 ^ 20 := by
      have : ∀ s : List Nat, (∀ z ∈ s, z ≤ 10 ^ 20) → s.sum ≤ s.length * 10 ^ 20 := by
        intro s
        induction s with
        | nil => intro _; simp
        | cons a s ih =>
          intro h
          have h1 := h a (List.mem_cons_self ..)
          have h2 := ih fun z hz => h z (List.mem_cons_of_mem _ hz)
          rw [List.sum_cons, List.length_cons, Nat.succ_mul]
          omega
      have h1 := this sz szs
      have h2 : sz.length * 10 ^ 20 ≤ 3 * 10 ^ 20 := Nat.mul_le_mul_right _ (by omega)
      exact Nat.le_trans h1 h2
    obtain ⟨v1, v2, v3⟩ := law_value_eq (w := 110) (k := 130) (m := m) (by decide) (by decide) (by decide) P (by have := hP.l; omega) (.obj vi) (d := .l) (zs := L.map fun l => ((lineN l sz : Nat) : Int)) (S := S5) (seqC_obj f2) (chk_one f2) ⟨fun z hz => by
      obtain ⟨l, hl', rfl⟩ := List.mem_map.mp hz
      have h1 := lineN_le (s := sz) (hL.2 l hl').2
      have h3 : 10 ^ 15 * (1 + sz.sum) ≤ 10 ^ 15 * (1 + 3 * 10 ^ 20) := Nat.mul_le_mul_left _ (by omega)
      have h4 : 10 ^ 15 * (1 + 3 * 10 ^ 20) < 2 ^ 130 := by decide
      omega⟩ (by rw [List.length_map]; omega) (fun p hp => ⟨(hP.q p hp).1, hP.w p hp⟩)
    obtain ⟨u1, u2, u3⟩ := law_value_eq (w := 3100) (k := 70) (m := w) (by decide) (by decide) (by decide) Q (by omega) (.obj si) (d := .l) (zs := iN sz) (S := S5) (seqC_obj f1) (chk_one f1) ⟨fun z hz => by
      obtain ⟨x, hx, rfl⟩ := List.mem_map.mp hz
      have h1 := szb x hx
      have h4 : (10 : Nat) ^ 20 < 2 ^ 70 := by decide
      omega⟩ (by rw [List.length_map]; omega) bo.1
    have key := sv sz szl
    generalize dueF (L.map fun l => ((lineN l sz : Nat) : Int)) P (0, 1) = x at v1 v2 v3 key
    generalize dueF (iN sz) Q (0, 1) = y at u1 u2 u3 key
    refine st_set (pr x) S5 (call2_of (x := sumT P) (y := .obj vi) rfl rfl (by rw [v1]; exact gc_self _ _)) ?_
    simp only [List.set_cons_succ, List.set_cons_zero]
    refine st_set (pr y) S5 (call2_of (x := sumT Q) (y := .obj si) rfl rfl (by rw [u1]; exact gc_self _ _)) ?_
    simp only [List.set_cons_succ, List.set_cons_zero]
    refine nx_no (S1 := S5) ?_ ⟨a7, _, _, _, _, _, _, K ++ [.lst ((iN sz).map .int), .lst ((L.map fun l => ((lineN l sz : Nat) : Int)).map .int)], rfl, ?_⟩
    · have m1 := mulOk_AB v2 u3
      have m2 := mulOk_AB u2 v3
      rw [tBl_ap, eBin_of (f := neV) (x := .int (x.1 * y.2)) (y := .int (y.1 * x.2)) (S1 := S5) (S2 := S5) (r := .ok (.bl (!decide (x.1 * y.2 = y.1 * x.2))) S5) (by simp only [eBin_ap, eChain_ap, eB_ap, eTup_ap, eLst_ap, eDic_ap, aCons_ap, aNil_ap, eVar_ap, eK_ap, eNeg_ap, eNot_ap, eAnd_ap, eOr_ap, eIf_ap, eCall_ap, eGc_ap, oNone_ap, oSome_ap, eSlice_ap, tBl_ap, tTru_ap, cAnd_ap, cOr_ap, cNot_ap, bind_ap, bind_apx, sb_ap, List.getElem?_cons_succ, List.getElem?_cons_zero, List.set_cons_succ, List.set_cons_zero, List.length_cons, List.length_nil, Nat.zero_add, Nat.reduceAdd, if_true, ite_true, Bool.false_eq_true, if_false, Bool.not_true, Bool.not_false, get_pr0, get_pr1, mulV_int, m1]) (by simp only [eBin_ap, eChain_ap, eB_ap, eTup_ap, eLst_ap, eDic_ap, aCons_ap, aNil_ap, eVar_ap, eK_ap, eNeg_ap, eNot_ap, eAnd_ap, eOr_ap, eIf_ap, eCall_ap, eGc_ap, oNone_ap, oSome_ap, eSlice_ap, tBl_ap, tTru_ap, cAnd_ap, cOr_ap, cNot_ap, bind_ap, bind_apx, sb_ap, List.getElem?_cons_succ, List.getElem?_cons_zero, List.set_cons_succ, List.set_cons_zero, List.length_cons, List.length_nil, Nat.zero_add, Nat.reduceAdd, if_true, ite_true, Bool.false_eq_true, if_false, Bool.not_true, Bool.not_false, get_pr0, get_pr1, mulV_int, m2]) rfl, decide_eq_true key]
      rfl
    · rw [hS5, hS4, hK]
      simp

end K36

set_option Elab.async false
set_option linter.all false
set_option maxRecDepth 100000
set_option maxHeartbeats 0
/-! each def of law_k36_whole_lines_laid_in keeps its promise; the head; the law's end (printed by gen.py) -/
namespace K36
open PySem PySem.Spec PyProof.Rows L2 TL
def top (i : Nat) : Stmt := PySem.Challenge.pw_toll_k36_whole_lines_laid_in.main.body.getD i (.Pass ⟨0, 0, 0, 0⟩)
abbrev N_is_whole : List Str := ["thing"]
theorem sc_is_whole : FnScope N_is_whole ["thing"] (defScope (top 4)) := ⟨rfl, rfl, rfl, by decide +kernel, rfl, by decide +kernel, by decide +kernel⟩
abbrev N_divisor : List Str := ["one", "other", "here", "there"]
theorem sc_divisor : FnScope N_divisor ["one", "other"] (defScope (top 5)) := ⟨rfl, rfl, rfl, by decide +kernel, rfl, by decide +kernel, by decide +kernel⟩
abbrev N_ratio : List Str := ["top", "bottom", "by"]
theorem sc_ratio : FnScope N_ratio ["top", "bottom"] (defScope (top 6)) := ⟨rfl, rfl, rfl, by decide +kernel, rfl, by decide +kernel, by decide +kernel⟩
abbrev N_ways_out : List Str := ["many", "some", "found", "k"]
theorem sc_ways_out : FnScope N_ways_out ["many", "some"] (defScope (top 8)) := ⟨rfl, rfl, rfl, by decide +kernel, rfl, by decide +kernel, by decide +kernel⟩
abbrev N_one_bottom : List Str := ["one", "found", "powers", "share"]
theorem sc_one_bottom : FnScope N_one_bottom ["one"] (defScope (top 9)) := ⟨rfl, rfl, rfl, by decide +kernel, rfl, by decide +kernel, by decide +kernel⟩
abbrev N_top_at : List Str := ["one", "sizes", "bottom", "total", "powers", "share", "part", "many", "some"]
theorem sc_top_at : FnScope N_top_at ["one", "sizes", "bottom"] (defScope (top 10)) := ⟨rfl, rfl, rfl, by decide +kernel, rfl, by decide +kernel, by decide +kernel⟩
abbrev N_line_at : List Str := ["line", "sizes", "total", "number", "many"]
theorem sc_line_at : FnScope N_line_at ["line", "sizes"] (defScope (top 11)) := ⟨rfl, rfl, rfl, by decide +kernel, rfl, by decide +kernel, by decide +kernel⟩
abbrev N_powers_to : List Str := ["many", "most", "rows", "k", "longer", "row", "power"]
theorem sc_powers_to : FnScope N_powers_to ["many", "most"] (defScope (top 12)) := ⟨rfl, rfl, rfl, by decide +kernel, rfl, by decide +kernel, by decide +kernel⟩
abbrev N_laid : List Str := ["one", "lines", "many", "most", "bottom", "spots", "tops", "spot", "at", "level", "powers", "share", "line"]
theorem sc_laid : FnScope N_laid ["one", "lines", "many"] (defScope (top 13)) := ⟨rfl, rfl, rfl, by decide +kernel, rfl, by decide +kernel, by decide +kernel⟩
abbrev N__law_cell_at : List Str := ["_law_script", "_law_k"]
theorem sc__law_cell_at : FnScope N__law_cell_at ["_law_script", "_law_k"] (defScope (top 15)) := ⟨rfl, rfl, rfl, by decide +kernel, rfl, by decide +kernel, by decide +kernel⟩
abbrev N__law_whole : List Str := ["_law_found"]
theorem sc__law_whole : FnScope N__law_whole ["_law_found"] (defScope (top 16)) := ⟨rfl, rfl, rfl, by decide +kernel, rfl, by decide +kernel, by decide +kernel⟩
abbrev N__law_divisor : List Str := ["_law_one", "_law_other"]
theorem sc__law_divisor : FnScope N__law_divisor ["_law_one", "_law_other"] (defScope (top 17)) := ⟨rfl, rfl, rfl, by decide +kernel, rfl, by decide +kernel, by decide +kernel⟩
abbrev N__law_ratio : List Str := ["_law_cell", "_law_rest", "_law_top", "_law_bottom", "_law_by"]
theorem sc__law_ratio : FnScope N__law_ratio ["_law_cell"] (defScope (top 18)) := ⟨rfl, rfl, rfl, by decide +kernel, rfl, by decide +kernel, by decide +kernel⟩
abbrev N__law_powers : List Str := ["_law_cell", "_law_many", "_law_most", "_law_powers_here", "_law_k", "_law_at"]
theorem sc__law_powers : FnScope N__law_powers ["_law_cell", "_law_many", "_law_most"] (defScope (top 19)) := ⟨rfl, rfl, rfl, by decide +kernel, rfl, by decide +kernel, by decide +kernel⟩
abbrev N__law_sum : List Str := ["_law_cells", "_law_many", "_law_most", "_law_parts", "_law_one", "_law_other", "_law_powers_here", "_law_share"]
theorem sc__law_sum : FnScope N__law_sum ["_law_cells", "_law_many", "_law_most"] (defScope (top 20)) := ⟨rfl, rfl, rfl, by decide +kernel, rfl, by decide +kernel, by decide +kernel⟩
abbrev N__law_number : List Str := ["_law_script", "_law_k", "_law_cell"]
theorem sc__law_number : FnScope N__law_number ["_law_script", "_law_k"] (defScope (top 21)) := ⟨rfl, rfl, rfl, by decide +kernel, rfl, by decide +kernel, by decide +kernel⟩
abbrev N__law_size : List Str := ["_law_cell"]
theorem sc__law_size : FnScope N__law_size ["_law_cell"] (defScope (top 22)) := ⟨rfl, rfl, rfl, by decide +kernel, rfl, by decide +kernel, by decide +kernel⟩
abbrev N__law_ways : List Str := ["_law_many", "_law_some", "_law_top", "_law_k"]
theorem sc__law_ways : FnScope N__law_ways ["_law_many", "_law_some"] (defScope (top 23)) := ⟨rfl, rfl, rfl, by decide +kernel, rfl, by decide +kernel, by decide +kernel⟩
abbrev N__law_value : List Str := ["_law_parts", "_law_sizes", "_law_top", "_law_bottom", "_law_powers_here", "_law_share", "_law_ways_here", "_law_many", "_law_some"]
theorem sc__law_value : FnScope N__law_value ["_law_parts", "_law_sizes"] (defScope (top 24)) := ⟨rfl, rfl, rfl, by decide +kernel, rfl, by decide +kernel, by decide +kernel⟩
abbrev N__law_is_part : List Str := ["_law_part", "_law_many", "_law_power"]
theorem sc__law_is_part : FnScope N__law_is_part ["_law_part", "_law_many"] (defScope (top 25)) := ⟨rfl, rfl, rfl, by decide +kernel, rfl, by decide +kernel, by decide +kernel⟩
abbrev N__law_is_sum : List Str := ["_law_found", "_law_many", "_law_part", "_law_one", "_law_other"]
theorem sc__law_is_sum : FnScope N__law_is_sum ["_law_found", "_law_many"] (defScope (top 26)) := ⟨rfl, rfl, rfl, by decide +kernel, rfl, by decide +kernel, by decide +kernel⟩
abbrev N_law : List Str := ["_law_script", "_law_first", "_law_many", "_law_most", "_law_wide", "_law_parts", "_law_lines", "_law_k", "_law_handed", "_law_found", "_law_start", "_law_more", "_law_sizes", "_law_values", "_law_one", "_law_other", "_law_j", "_law_powers_here", "_law_share", "_law_line"]
theorem sc_law : FnScope N_law ["_law_script"] (defScope (top 27)) := ⟨rfl, rfl, rfl, by decide +kernel, rfl, by decide +kernel, by decide +kernel⟩
def dd (nm : Str) (i : Nat) : He.DefD := ⟨(nm, none), nm, nm, defArgs (top i), defBody (top i), defScope (top i), [], []⟩
def fn : List He.DefD := [dd "is_whole" 4, dd "divisor" 5, dd "ratio" 6, dd "ways_out" 8, dd "one_bottom" 9, dd "top_at" 10, dd "line_at" 11, dd "powers_to" 12, dd "laid" 13, dd "_law_cell_at" 15, dd "_law_whole" 16, dd "_law_divisor" 17, dd "_law_ratio" 18, dd "_law_powers" 19, dd "_law_sum" 20, dd "_law_number" 21, dd "_law_size" 22, dd "_law_ways" 23, dd "_law_value" 24, dd "_law_is_part" 25, dd "_law_is_sum" 26, dd "law" 27]
def fa : List He.Fa := [.free "abs", .free "all", .free "bool", .free "int", .free "isinstance", .free "len", .free "list", .free "max", .free "range", .free "reversed", .free "sorted", .free "sum", .free "tuple", .free "zip", .glo "is_whole", .glo "divisor", .glo "ratio", .glo "ways_out", .glo "one_bottom", .glo "top_at", .glo "line_at", .glo "powers_to", .glo "laid", .glo "_law_cell_at", .glo "_law_whole", .glo "_law_divisor", .glo "_law_ratio", .glo "_law_powers", .glo "_law_sum", .glo "_law_number", .glo "_law_size", .glo "_law_ways", .glo "_law_value", .glo "_law_is_part", .glo "_law_is_sum", .glo "law", .glo "NoRatio", .exc "NoRatio"]
def names0 : List PySem.Str := ["TollError", "NoRatio", "is_whole", "divisor", "ratio", "ways_out", "one_bottom", "top_at", "line_at", "powers_to", "laid", "_law_cell_at", "_law_whole", "_law_divisor", "_law_ratio", "_law_powers", "_law_sum", "_law_number", "_law_size", "_law_ways", "_law_value", "_law_is_part", "_law_is_sum"]
def names : List PySem.Str := names0
def exk (K : PySem.W.Frag) : Bool := true
abbrev R : PySem.W.OpenRow := PySem.W.OpenLaw.row PySem.Challenge.rw_toll_k36_whole_lines_laid_in
abbrev hk : PySem.W.Hook := hookT' 4 fa fn exk
def ob (s : PySem.W.SharedT) : AlT' := obsT' 4 fa fn exk (HandSHeadRun.getT s)
theorem ob_eq (s : PySem.W.SharedT) : ob s = hk.obs s.abs := obsT'_eq (HandSHeadRun.getT_eq s)
theorem run (w : World) : HandSHeadRun.RunEq R (PySem.W.view R.prog [27]) hk ob 20000 names w := by
  intro os
  kernel_rfl
structure Tx (K : PySem.W.Frag) (mg : Str → Option Value) : Prop where
  n_abs : mg "abs" = none
  n_all : mg "all" = none
  n_bool : mg "bool" = none
  n_int : mg "int" = none
  n_isinstance : mg "isinstance" = none
  n_len : mg "len" = none
  n_list : mg "list" = none
  n_max : mg "max" = none
  n_range : mg "range" = none
  n_reversed : mg "reversed" = none
  n_sorted : mg "sorted" = none
  n_sum : mg "sum" = none
  n_tuple : mg "tuple" = none
  n_zip : mg "zip" = none
  g_is_whole : mg "is_whole" = some (.ref (He.ga K "is_whole"))
  d_is_whole : ∃ fd, FunD K "is_whole" "is_whole" (defArgs (top 4)) (defBody (top 4)) (defScope (top 4)) [] [] (He.ga K "is_whole") fd
  g_divisor : mg "divisor" = some (.ref (He.ga K "divisor"))
  d_divisor : ∃ fd, FunD K "divisor" "divisor" (defArgs (top 5)) (defBody (top 5)) (defScope (top 5)) [] [] (He.ga K "divisor") fd
  g_ratio : mg "ratio" = some (.ref (He.ga K "ratio"))
  d_ratio : ∃ fd, FunD K "ratio" "ratio" (defArgs (top 6)) (defBody (top 6)) (defScope (top 6)) [] [] (He.ga K "ratio") fd
  g_ways_out : mg "ways_out" = some (.ref (He.ga K "ways_out"))
  d_ways_out : ∃ fd, FunD K "ways_out" "ways_out" (defArgs (top 8)) (defBody (top 8)) (defScope (top 8)) [] [] (He.ga K "ways_out") fd
  g_one_bottom : mg "one_bottom" = some (.ref (He.ga K "one_bottom"))
  d_one_bottom : ∃ fd, FunD K "one_bottom" "one_bottom" (defArgs (top 9)) (defBody (top 9)) (defScope (top 9)) [] [] (He.ga K "one_bottom") fd
  g_top_at : mg "top_at" = some (.ref (He.ga K "top_at"))
  d_top_at : ∃ fd, FunD K "top_at" "top_at" (defArgs (top 10)) (defBody (top 10)) (defScope (top 10)) [] [] (He.ga K "top_at") fd
  g_line_at : mg "line_at" = some (.ref (He.ga K "line_at"))
  d_line_at : ∃ fd, FunD K "line_at" "line_at" (defArgs (top 11)) (defBody (top 11)) (defScope (top 11)) [] [] (He.ga K "line_at") fd
  g_powers_to : mg "powers_to" = some (.ref (He.ga K "powers_to"))
  d_powers_to : ∃ fd, FunD K "powers_to" "powers_to" (defArgs (top 12)) (defBody (top 12)) (defScope (top 12)) [] [] (He.ga K "powers_to") fd
  g_laid : mg "laid" = some (.ref (He.ga K "laid"))
  d_laid : ∃ fd, FunD K "laid" "laid" (defArgs (top 13)) (defBody (top 13)) (defScope (top 13)) [] [] (He.ga K "laid") fd
  g__law_cell_at : mg "_law_cell_at" = some (.ref (He.ga K "_law_cell_at"))
  d__law_cell_at : ∃ fd, FunD K "_law_cell_at" "_law_cell_at" (defArgs (top 15)) (defBody (top 15)) (defScope (top 15)) [] [] (He.ga K "_law_cell_at") fd
  g__law_whole : mg "_law_whole" = some (.ref (He.ga K "_law_whole"))
  d__law_whole : ∃ fd, FunD K "_law_whole" "_law_whole" (defArgs (top 16)) (defBody (top 16)) (defScope (top 16)) [] [] (He.ga K "_law_whole") fd
  g__law_divisor : mg "_law_divisor" = some (.ref (He.ga K "_law_divisor"))
  d__law_divisor : ∃ fd, FunD K "_law_divisor" "_law_divisor" (defArgs (top 17)) (defBody (top 17)) (defScope (top 17)) [] [] (He.ga K "_law_divisor") fd
  g__law_ratio : mg "_law_ratio" = some (.ref (He.ga K "_law_ratio"))
  d__law_ratio : ∃ fd, FunD K "_law_ratio" "_law_ratio" (defArgs (top 18)) (defBody (top 18)) (defScope (top 18)) [] [] (He.ga K "_law_ratio") fd
  g__law_powers : mg "_law_powers" = some (.ref (He.ga K "_law_powers"))
  d__law_powers : ∃ fd, FunD K "_law_powers" "_law_powers" (defArgs (top 19)) (defBody (top 19)) (defScope (top 19)) [] [] (He.ga K "_law_powers") fd
  g__law_sum : mg "_law_sum" = some (.ref (He.ga K "_law_sum"))
  d__law_sum : ∃ fd, FunD K "_law_sum" "_law_sum" (defArgs (top 20)) (defBody (top 20)) (defScope (top 20)) [] [] (He.ga K "_law_sum") fd
  g__law_number : mg "_law_number" = some (.ref (He.ga K "_law_number"))
  d__law_number : ∃ fd, FunD K "_law_number" "_law_number" (defArgs (top 21)) (defBody (top 21)) (defScope (top 21)) [] [] (He.ga K "_law_number") fd
  g__law_size : mg "_law_size" = some (.ref (He.ga K "_law_size"))
  d__law_size : ∃ fd, FunD K "_law_size" "_law_size" (defArgs (top 22)) (defBody (top 22)) (defScope (top 22)) [] [] (He.ga K "_law_size") fd
  g__law_ways : mg "_law_ways" = some (.ref (He.ga K "_law_ways"))
  d__law_ways : ∃ fd, FunD K "_law_ways" "_law_ways" (defArgs (top 23)) (defBody (top 23)) (defScope (top 23)) [] [] (He.ga K "_law_ways") fd
  g__law_value : mg "_law_value" = some (.ref (He.ga K "_law_value"))
  d__law_value : ∃ fd, FunD K "_law_value" "_law_value" (defArgs (top 24)) (defBody (top 24)) (defScope (top 24)) [] [] (He.ga K "_law_value") fd
  g__law_is_part : mg "_law_is_part" = some (.ref (He.ga K "_law_is_part"))
  d__law_is_part : ∃ fd, FunD K "_law_is_part" "_law_is_part" (defArgs (top 25)) (defBody (top 25)) (defScope (top 25)) [] [] (He.ga K "_law_is_part") fd
  g__law_is_sum : mg "_law_is_sum" = some (.ref (He.ga K "_law_is_sum"))
  d__law_is_sum : ∃ fd, FunD K "_law_is_sum" "_law_is_sum" (defArgs (top 26)) (defBody (top 26)) (defScope (top 26)) [] [] (He.ga K "_law_is_sum") fd
  g_law : mg "law" = some (.ref (He.ga K "law"))
  d_law : ∃ fd, FunD K "law" "law" (defArgs (top 27)) (defBody (top 27)) (defScope (top 27)) [] [] (He.ga K "law") fd
  r_NoRatio : RaiseF K mg "NoRatio"
section
variable {P : Program} {w : World} {K : PySem.W.Frag} {mg : Str → Option Value} {base : Heap}
theorem ok_is_whole (T : Tx K mg) : DefOk P w K mg base 1 "is_whole" ["thing"] m_is_whole := by
  obtain ⟨fd, F⟩ := T.d_is_whole
  refine defOk_mk (N := N_is_whole) (k := 0) (b := b_is_whole) F sc_is_whole (fun us hl kV doc pm an cdv ct => match us, hl with | [_], _ => by kernel_rfl) T.g_is_whole (fun cdv A outer s H E hr => ?_)
  unfold b_is_whole
  exact (dss_one (ds_ret (de_and (de_B call_isi (opC_isinst (b := "int") (by decide)) T.n_isinstance (da_cons (de_var 0) (da_cons (de_ty (n := "int") T.n_int) da_nil))) (de_one (de_not (de_B call_isi (opC_isinst (b := "bool") (by decide)) T.n_isinstance (da_cons (de_var 0) (da_cons (de_ty (n := "bool") T.n_bool) da_nil))))))))

theorem ok_divisor (T : Tx K mg) : DefOk P w K mg base 1 "divisor" ["one", "other"] m_divisor := by
  obtain ⟨fd, F⟩ := T.d_divisor
  refine defOk_mk (N := N_divisor) (k := 0) (b := b_divisor) F sc_divisor (fun us hl kV doc pm an cdv ct => match us, hl with | [_, _], _ => by kernel_rfl) T.g_divisor (fun cdv A outer s H E hr => ?_)
  unfold b_divisor
  exact (dss_cons (ds_set 2 sc_divisor.nd (de_B call_abs opC_abs T.n_abs (da_cons (de_var 0) da_nil)))
    (dss_cons (ds_set 3 sc_divisor.nd (de_B call_abs opC_abs T.n_abs (da_cons (de_var 1) da_nil)))
    (dss_cons (ds_while poD (dt_cmp op_gt op2_gt (de_var 3) de_int) (dss_one (ds_par 2 3 rfl sc_divisor.nd (de_var 3) (de_op op_modN op2_mod (de_var 2) (de_var 3)))))
    (dss_one (ds_ret (de_var 2))))))

theorem ok_ratio (T : Tx K mg) : DefOk P w K mg base 2 "ratio" ["top", "bottom"] m_ratio := by
  obtain ⟨fd, F⟩ := T.d_ratio
  refine defOk_mk (N := N_ratio) (k := 1) (b := b_ratio) F sc_ratio (fun us hl kV doc pm an cdv ct => match us, hl with | [_, _], _ => by kernel_rfl) T.g_ratio (fun cdv A outer s H E hr => ?_)
  unfold b_ratio
  exact (dss_cons (ds_if (dt_w (dw_or (dt_not (dt_tru (de_callD tkD (ok_is_whole T) (hr.mono (by decide)) (da_cons (de_var 0) da_nil)))) (dw_or (dt_not (dt_tru (de_callD tkD (ok_is_whole T) (hr.mono (by decide)) (da_cons (de_var 1) da_nil)))) (dw_or1 (dt_cmp (op_eqX (hu64 hr)) (op2_eqG _) (de_var 1) de_int))))) (dss_one (ds_raiseF T.r_NoRatio rfl tkD)) dss_nil)
    (dss_cons (ds_set 2 sc_ratio.nd (de_callD tkD (ok_divisor T) (hr.mono (by decide)) (da_cons (de_var 0) (da_cons (de_var 1) da_nil))))
    (dss_cons (ds_if (dt_cmp op_lt op2_lt (de_var 1) de_int) (dss_one (ds_set 2 sc_ratio.nd (de_op op_sub op2_sub de_int (de_var 2)))) dss_nil)
    (dss_one (ds_ret (de_tup (da_cons (de_op op_fdivX op2_fdiv (de_var 0) (de_var 2)) (da_cons (de_op op_fdivX op2_fdiv (de_var 1) (de_var 2)) da_nil))))))))

theorem ok_ways_out (T : Tx K mg) : DefOk P w K mg base 1 "ways_out" ["many", "some"] m_ways_out := by
  obtain ⟨fd, F⟩ := T.d_ways_out
  refine defOk_mk (N := N_ways_out) (k := 0) (b := b_ways_out) F sc_ways_out (fun us hl kV doc pm an cdv ct => match us, hl with | [_, _], _ => by kernel_rfl) T.g_ways_out (fun cdv A outer s H E hr => ?_)
  unfold b_ways_out
  exact (dss_cons (ds_set 2 sc_ways_out.nd de_int)
    (dss_cons (ds_for poD rfl (di_range1 T.n_range (de_var 1)) (dg_name 3 sc_ways_out.nd) (dss_one (ds_set 2 sc_ways_out.nd (de_op op_fdivX op2_fdiv (de_op op_mulV op2_mul (de_var 2) (de_op op_sub op2_sub (de_var 0) (de_var 3))) (de_op op_addV op2_add (de_var 3) de_int)))))
    (dss_one (ds_ret (de_var 2)))))

theorem ok_one_bottom (T : Tx K mg) : DefOk P w K mg base 2 "one_bottom" ["one"] m_one_bottom := by
  obtain ⟨fd, F⟩ := T.d_one_bottom
  refine defOk_mk (N := N_one_bottom) (k := 1) (b := b_one_bottom) F sc_one_bottom (fun us hl kV doc pm an cdv ct => match us, hl with | [_], _ => by kernel_rfl) T.g_one_bottom (fun cdv A outer s H E hr => ?_)
  unfold b_one_bottom
  exact (dss_cons (ds_set 1 sc_one_bottom.nd de_int)
    (dss_cons (ds_for poD rfl (di_any (de_var 0)) (dg_tup (is := [2, 3]) rfl (dgs_cons 2 sc_one_bottom.nd (dgs_cons 3 sc_one_bottom.nd dgs_nil))) (dss_one (ds_set 1 sc_one_bottom.nd (de_op op_fdivX op2_fdiv (de_op op_mulV op2_mul (de_var 1) (de_ix (hu1 hr) (de_var 3) de_int)) (de_callD tkD (ok_divisor T) (hr.mono (by decide)) (da_cons (de_var 1) (da_cons (de_ix (hu1 hr) (de_var 3) de_int) da_nil)))))))
    (dss_one (ds_ret (de_var 1)))))

theorem ok_top_at (T : Tx K mg) : DefOk P w K mg base 2 "top_at" ["one", "sizes", "bottom"] m_top_at := by
  obtain ⟨fd, F⟩ := T.d_top_at
  refine defOk_mk (N := N_top_at) (k := 1) (b := b_top_at) F sc_top_at (fun us hl kV doc pm an cdv ct => match us, hl with | [_, _, _], _ => by kernel_rfl) T.g_top_at (fun cdv A outer s H E hr => ?_)
  unfold b_top_at
  exact (dss_cons (ds_set 3 sc_top_at.nd de_int)
    (dss_cons (ds_for poD rfl (di_any (de_var 0)) (dg_tup (is := [4, 5]) rfl (dgs_cons 4 sc_top_at.nd (dgs_cons 5 sc_top_at.nd dgs_nil))) (dss_cons (ds_set 6 sc_top_at.nd (de_op op_mulV op2_mul (de_ix (hu1 hr) (de_var 5) de_int) (de_op op_fdivX op2_fdiv (de_var 2) (de_ix (hu1 hr) (de_var 5) de_int))))
    (dss_cons (ds_for poD rfl (di_zip T.n_zip (de_var 1) (de_var 4)) (dg_tup (is := [7, 8]) rfl (dgs_cons 7 sc_top_at.nd (dgs_cons 8 sc_top_at.nd dgs_nil))) (dss_one (ds_set 6 sc_top_at.nd (de_op op_mulV op2_mul (de_var 6) (de_callD tkD (ok_ways_out T) (hr.mono (by decide)) (da_cons (de_var 7) (da_cons (de_var 8) da_nil)))))))
    (dss_one (ds_aug 3 sc_top_at.nd ip_add (op2_ip) (de_var 6))))))
    (dss_one (ds_ret (de_var 3)))))

theorem ok_line_at (T : Tx K mg) : DefOk P w K mg base 1 "line_at" ["line", "sizes"] m_line_at := by
  obtain ⟨fd, F⟩ := T.d_line_at
  refine defOk_mk (N := N_line_at) (k := 0) (b := b_line_at) F sc_line_at (fun us hl kV doc pm an cdv ct => match us, hl with | [_, _], _ => by kernel_rfl) T.g_line_at (fun cdv A outer s H E hr => ?_)
  unfold b_line_at
  exact (dss_cons (ds_set 2 sc_line_at.nd (de_ix (hu1 hr) (de_var 0) de_int))
    (dss_cons (ds_for poD rfl (di_zip T.n_zip (de_slice (de_var 0) (do_some de_int) do_none) (de_var 1)) (dg_tup (is := [3, 4]) rfl (dgs_cons 3 sc_line_at.nd (dgs_cons 4 sc_line_at.nd dgs_nil))) (dss_one (ds_aug 2 sc_line_at.nd ip_add (op2_ip) (de_op op_mulV op2_mul (de_var 3) (de_var 4)))))
    (dss_one (ds_ret (de_var 2)))))

theorem ok_powers_to (T : Tx K mg) : DefOk P w K mg base 1 "powers_to" ["many", "most"] m_powers_to := by
  obtain ⟨fd, F⟩ := T.d_powers_to
  refine defOk_mk (N := N_powers_to) (k := 0) (b := b_powers_to) F sc_powers_to (fun us hl kV doc pm an cdv ct => match us, hl with | [_, _], _ => by kernel_rfl) T.g_powers_to (fun cdv A outer s H E hr => ?_)
  unfold b_powers_to
  exact (dss_cons (ds_set 2 sc_powers_to.nd (de_lst (da_cons (de_tup da_nil) da_nil)))
    (dss_cons (ds_for poD rfl (di_range1 T.n_range (de_var 0)) (dg_name 3 sc_powers_to.nd) (dss_cons (ds_set 4 sc_powers_to.nd (de_lst da_nil))
    (dss_cons (ds_for poD rfl (di_any (de_var 2)) (dg_name 5 sc_powers_to.nd) (dss_one (ds_for poD rfl (di_range1 T.n_range (de_op op_addV op2_add (de_op op_sub op2_sub (de_var 1) (de_B (call_sumA rfl) opC_sumA T.n_sum (da_cons (de_var 5) da_nil))) de_int)) (dg_name 6 sc_powers_to.nd) (dss_one (ds_expr (de_M PySem.F.slot_list_append PySem.F.type_list_append mt_append opM_append (de_var 4) (da_cons (de_op op_addV op2_add (de_var 5) (de_tup (da_cons (de_var 6) da_nil))) da_nil)))))))
    (dss_one (ds_set 2 sc_powers_to.nd (de_var 4))))))
    (dss_one (ds_ret (de_var 2)))))

theorem ok_laid (T : Tx K mg) : DefOk P w K mg base 3 "laid" ["one", "lines", "many"] m_laid := by
  obtain ⟨fd, F⟩ := T.d_laid
  refine defOk_mk (N := N_laid) (k := 2) (b := b_laid) F sc_laid (fun us hl kV doc pm an cdv ct => match us, hl with | [_, _, _], _ => by kernel_rfl) T.g_laid (fun cdv A outer s H E hr => ?_)
  unfold b_laid
  exact (dss_cons (ds_set 3 sc_laid.nd (de_gc (de_gc (de_maxD rfl T.n_max (de_lc [("powers", 10), ("share", 11)] rfl sc_laid.nd (di_any (de_var 0)) (blkOk_by (N := N_laid) (sc := defScope (top 13)) (by decide +kernel)) (fun _ _ _ _ _ => (dg_tup (is := [10, 11]) rfl (dgs_cons 10 sc_laid.nd (dgs_cons 11 sc_laid.nd dgs_nil)))) (fun _ _ _ _ _ => dts_nil) (fun _ _ _ _ _ => (de_B (call_sumA rfl) opC_sumA T.n_sum (da_cons (de_var 10) da_nil)))) de_int))))
    (dss_cons (ds_set 4 sc_laid.nd (de_callD tkD (ok_one_bottom T) (hr.mono (by decide)) (da_cons (de_var 0) da_nil)))
    (dss_cons (ds_set 5 sc_laid.nd (de_callD tkD (ok_powers_to T) (hr.mono (by decide)) (da_cons (de_var 2) (da_cons (de_var 3) da_nil))))
    (dss_cons (ds_set 6 sc_laid.nd de_dic)
    (dss_cons (ds_for poD rfl (di_any (de_var 5)) (dg_name 7 sc_laid.nd) (dss_one (ds_setIx (hu1 hr) (de_gc (de_callD tkD (ok_top_at T) (hr.mono (by decide)) (da_cons (de_var 0) (da_cons (de_lc [("line", 12)] rfl sc_laid.nd (di_any (de_var 1)) (blkOk_by (N := N_laid) (sc := defScope (top 13)) (by decide +kernel)) (fun _ _ _ _ _ => (dg_name 12 sc_laid.nd)) (fun _ _ _ _ _ => dts_nil) (fun _ _ _ _ _ => (de_callD takes0 (ok_line_at T) (hr.mono (by decide)) (da_cons (de_var 12) (da_cons (de_var 7) da_nil))))) (da_cons (de_var 4) da_nil))))) (de_var 6) (de_var 7))))
    (dss_cons (ds_for poD rfl (di_range1 T.n_range (de_var 2)) (dg_name 8 sc_laid.nd) (dss_one (ds_for poD rfl (di_range2 T.n_range de_int (de_op op_addV op2_add (de_var 3) de_int)) (dg_name 9 sc_laid.nd) (dss_one (ds_for poD rfl (di_rev T.n_reversed (de_var 5)) (dg_name 7 sc_laid.nd) (dss_one (ds_if (dt_cmp op_ge op2_ge (de_ix (hu1 hr) (de_var 7) (de_var 8)) (de_var 9)) (dss_one (ds_setIx (hu1 hr) (de_gc (de_op op_sub op2_sub (de_ix (hu1 hr) (de_var 6) (de_var 7)) (de_ix (hu1 hr) (de_var 6) (de_op op_addV op2_add (de_op op_addV op2_add (de_slice (de_var 7) do_none (do_some (de_var 8))) (de_tup (da_cons (de_op op_sub op2_sub (de_ix (hu1 hr) (de_var 7) (de_var 8)) de_int) da_nil))) (de_slice (de_var 7) (do_some (de_op op_addV op2_add (de_var 8) de_int)) do_none))))) (de_var 6) (de_var 7))) dss_nil)))))))
    (dss_one (ds_ret (de_gc (de_gc (de_Ty call_tuple_of opC_tuple T.n_tuple (da_cons (de_lc [("spot", 7)] rfl sc_laid.nd (di_any (de_var 5)) (blkOk_by (N := N_laid) (sc := defScope (top 13)) (by decide +kernel)) (fun _ _ _ _ _ => (dg_name 7 sc_laid.nd)) (fun _ _ _ _ _ => dts_one (dt_cmp (op_neX (hu64 hr)) (op2_eqG _) (de_ix (hu1 hr) (de_var 6) (de_var 7)) de_int)) (fun _ _ _ _ _ => (de_tup (da_cons (de_var 7) (da_cons (de_callD takes0 (ok_ratio T) (hr.mono (by decide)) (da_cons (de_ix (hu1 hr) (de_var 6) (de_var 7)) (da_cons (de_var 4) da_nil))) da_nil))))) da_nil))))))))))))

theorem ok__law_cell_at (T : Tx K mg) : DefOk P w K mg base 1 "_law_cell_at" ["_law_script", "_law_k"] m_law_cell_at := by
  obtain ⟨fd, F⟩ := T.d__law_cell_at
  refine defOk_mk (N := N__law_cell_at) (k := 0) (b := b_law_cell_at) F sc__law_cell_at (fun us hl kV doc pm an cdv ct => match us, hl with | [_, _], _ => by kernel_rfl) T.g__law_cell_at (fun cdv A outer s H E hr => ?_)
  unfold b_law_cell_at
  exact (dss_cons (ds_if (dt_cmp op_lt op2_lt (de_var 1) (de_B call_len opC_len T.n_len (da_cons (de_var 0) da_nil))) (dss_one (ds_ret (de_ix (hu1 hr) (de_var 0) (de_var 1)))) dss_nil)
    (dss_one (ds_ret de_int)))

theorem ok__law_whole (T : Tx K mg) : DefOk P w K mg base 1 "_law_whole" ["_law_found"] m_law_whole := by
  obtain ⟨fd, F⟩ := T.d__law_whole
  refine defOk_mk (N := N__law_whole) (k := 0) (b := b_law_whole) F sc__law_whole (fun us hl kV doc pm an cdv ct => match us, hl with | [_], _ => by kernel_rfl) T.g__law_whole (fun cdv A outer s H E hr => ?_)
  unfold b_law_whole
  exact (dss_one (ds_ret (de_and (de_B call_isi (opC_isinst (b := "int") (by decide)) T.n_isinstance (da_cons (de_var 0) (da_cons (de_ty (n := "int") T.n_int) da_nil))) (de_one (de_not (de_B call_isi (opC_isinst (b := "bool") (by decide)) T.n_isinstance (da_cons (de_var 0) (da_cons (de_ty (n := "bool") T.n_bool) da_nil))))))))

theorem ok__law_divisor (T : Tx K mg) : DefOk P w K mg base 1 "_law_divisor" ["_law_one", "_law_other"] m_law_divisor := by
  obtain ⟨fd, F⟩ := T.d__law_divisor
  refine defOk_mk (N := N__law_divisor) (k := 0) (b := b_law_divisor) F sc__law_divisor (fun us hl kV doc pm an cdv ct => match us, hl with | [_, _], _ => by kernel_rfl) T.g__law_divisor (fun cdv A outer s H E hr => ?_)
  unfold b_law_divisor
  exact (dss_cons (ds_set 0 sc__law_divisor.nd (de_B call_abs opC_abs T.n_abs (da_cons (de_var 0) da_nil)))
    (dss_cons (ds_set 1 sc__law_divisor.nd (de_B call_abs opC_abs T.n_abs (da_cons (de_var 1) da_nil)))
    (dss_cons (ds_while poD (dt_cmp op_gt op2_gt (de_var 1) de_int) (dss_one (ds_par 0 1 rfl sc__law_divisor.nd (de_var 1) (de_op op_modN op2_mod (de_var 0) (de_var 1)))))
    (dss_one (ds_ret (de_var 0))))))

theorem ok__law_ratio (T : Tx K mg) : DefOk P w K mg base 2 "_law_ratio" ["_law_cell"] m_law_ratio := by
  obtain ⟨fd, F⟩ := T.d__law_ratio
  refine defOk_mk (N := N__law_ratio) (k := 1) (b := b_law_ratio) F sc__law_ratio (fun us hl kV doc pm an cdv ct => match us, hl with | [_], _ => by kernel_rfl) T.g__law_ratio (fun cdv A outer s H E hr => ?_)
  unfold b_law_ratio
  exact (dss_cons (ds_set 1 sc__law_ratio.nd (de_op op_fdivX op2_fdiv (de_var 0) de_int))
    (dss_cons (ds_set 2 sc__law_ratio.nd (de_gc (de_ix (hu1 hr) (de_lst (da_cons (de_op op_modN op2_mod (de_var 1) de_int) (da_cons (de_op op_mulV op2_mul (de_op op_modN op2_mod (de_var 1) de_int) (de_op op_sub op2_sub de_int (de_op op_mulV op2_mul de_int (de_Ty call_intV opC_int T.n_int (da_cons (de_cmp (op_eqX (hu64 hr)) (op2_eqG _) (de_op op_modN op2_mod (de_op op_fdivX op2_fdiv (de_var 1) de_int) de_int) de_int) da_nil))))) (da_cons (de_op op_modN op2_mod (de_var 1) (de_op op_pow op2_pow de_int de_int)) da_nil)))) (de_op op_modN op2_mod (de_var 0) de_int))))
    (dss_cons (ds_set 3 sc__law_ratio.nd (de_gc (de_ix (hu1 hr) (de_lst (da_cons de_int (da_cons (de_op op_addV op2_add de_int (de_op op_modN op2_mod (de_op op_fdivX op2_fdiv (de_var 1) de_int) de_int)) (da_cons (de_op op_addV op2_add de_int (de_op op_modN op2_mod (de_op op_mulV op2_mul (de_var 1) de_int) de_int)) da_nil)))) (de_op op_modN op2_mod (de_var 0) de_int))))
    (dss_cons (ds_set 4 sc__law_ratio.nd (de_callD tkD (ok__law_divisor T) (hr.mono (by decide)) (da_cons (de_var 2) (da_cons (de_var 3) da_nil))))
    (dss_one (ds_ret (de_tup (da_cons (de_op op_fdivX op2_fdiv (de_var 2) (de_var 4)) (da_cons (de_op op_fdivX op2_fdiv (de_var 3) (de_var 4)) da_nil)))))))))

theorem ok__law_powers (T : Tx K mg) : DefOk P w K mg base 1 "_law_powers" ["_law_cell", "_law_many", "_law_most"] m_law_powers := by
  obtain ⟨fd, F⟩ := T.d__law_powers
  refine defOk_mk (N := N__law_powers) (k := 0) (b := b_law_powers) F sc__law_powers (fun us hl kV doc pm an cdv ct => match us, hl with | [_, _, _], _ => by kernel_rfl) T.g__law_powers (fun cdv A outer s H E hr => ?_)
  unfold b_law_powers
  exact (dss_cons (ds_set 3 sc__law_powers.nd (de_gc (de_op op_mulV op2_mul (de_lst (da_cons de_int da_nil)) (de_var 1))))
    (dss_cons (ds_for poD rfl (di_range1 T.n_range (de_var 2)) (dg_name 4 sc__law_powers.nd) (dss_cons (ds_set 5 sc__law_powers.nd (de_op op_modN op2_mod (de_var 0) (de_op op_addV op2_add (de_var 1) de_int)))
    (dss_cons (ds_set 0 sc__law_powers.nd (de_op op_fdivX op2_fdiv (de_var 0) (de_op op_addV op2_add (de_var 1) de_int)))
    (dss_one (ds_if (dt_cmp op_lt op2_lt (de_var 5) (de_var 1)) (dss_one (ds_setIx (hu1 hr) (de_op op_addV op2_add (de_ix (hu1 hr) (de_var 3) (de_var 5)) de_int) (de_var 3) (de_var 5))) dss_nil)))))
    (dss_one (ds_ret (de_Ty call_tuple_of opC_tuple T.n_tuple (da_cons (de_var 3) da_nil))))))

theorem ok__law_sum (T : Tx K mg) : DefOk P w K mg base 3 "_law_sum" ["_law_cells", "_law_many", "_law_most"] m_law_sum := by
  obtain ⟨fd, F⟩ := T.d__law_sum
  refine defOk_mk (N := N__law_sum) (k := 2) (b := b_law_sum) F sc__law_sum (fun us hl kV doc pm an cdv ct => match us, hl with | [_, _, _], _ => by kernel_rfl) T.g__law_sum (fun cdv A outer s H E hr => ?_)
  unfold b_law_sum
  exact (dss_cons (ds_set 3 sc__law_sum.nd de_dic)
    (dss_cons (ds_for poD rfl (di_zip T.n_zip (de_slc (de_var 0) do_none do_none (do_some de_int)) (de_slc (de_var 0) (do_some de_int) do_none (do_some de_int))) (dg_tup (is := [4, 5]) rfl (dgs_cons 4 sc__law_sum.nd (dgs_cons 5 sc__law_sum.nd dgs_nil))) (dss_cons (ds_set 6 sc__law_sum.nd (de_callD tkD (ok__law_powers T) (hr.mono (by decide)) (da_cons (de_var 4) (da_cons (de_var 1) (da_cons (de_var 2) da_nil)))))
    (dss_cons (ds_set 7 sc__law_sum.nd (de_callD tkD (ok__law_ratio T) (hr.mono (by decide)) (da_cons (de_var 5) da_nil)))
    (dss_one (ds_if (dt_w (dw_and (dt_cmp (op_nin (hu65 hr)) (op2_in _) (de_var 6) (de_var 3)) (dw_and1 (dt_cmp (op_neX (hu64 hr)) (op2_eqG _) (de_ix (hu1 hr) (de_var 7) de_int) de_int)))) (dss_one (ds_setIx (hu1 hr) (de_var 7) (de_var 3) (de_var 6))) dss_nil)))))
    (dss_one (ds_ret (de_gc (de_gc (de_Ty call_tuple_of opC_tuple T.n_tuple (da_cons (de_lc [("_law_powers_here", 6)] rfl sc__law_sum.nd (di_any (de_B (call_sortedV rfl) opC_sorted T.n_sorted (da_cons (de_var 3) da_nil))) (blkOk_by (N := N__law_sum) (sc := defScope (top 20)) (by decide +kernel)) (fun _ _ _ _ _ => (dg_name 6 sc__law_sum.nd)) (fun _ _ _ _ _ => dts_nil) (fun _ _ _ _ _ => (de_tup (da_cons (de_var 6) (da_cons (de_ix (hu1 hr) (de_var 3) (de_var 6)) da_nil))))) da_nil))))))))

theorem ok__law_number (T : Tx K mg) : DefOk P w K mg base 2 "_law_number" ["_law_script", "_law_k"] m_law_number := by
  obtain ⟨fd, F⟩ := T.d__law_number
  refine defOk_mk (N := N__law_number) (k := 1) (b := b_law_number) F sc__law_number (fun us hl kV doc pm an cdv ct => match us, hl with | [_, _], _ => by kernel_rfl) T.g__law_number (fun cdv A outer s H E hr => ?_)
  unfold b_law_number
  exact (dss_cons (ds_set 2 sc__law_number.nd (de_op op_mulV op2_mul (de_op op_addV op2_add (de_op op_addV op2_add (de_callD tkD (ok__law_cell_at T) (hr.mono (by decide)) (da_cons (de_var 0) (da_cons (de_op op_addV op2_add de_int (de_op op_modN op2_mod (de_var 1) de_int)) da_nil))) (de_op op_fdivX op2_fdiv (de_callD tkD (ok__law_cell_at T) (hr.mono (by decide)) (da_cons (de_var 0) (da_cons de_int da_nil))) de_int)) (de_var 1)) (de_op op_addV op2_add de_int (de_op op_mulV op2_mul (de_op op_mulV op2_mul de_int (de_var 1)) (de_var 1)))))
    (dss_cons (ds_if (dt_cmp (op_eqX (hu64 hr)) (op2_eqG _) (de_op op_modN op2_mod (de_var 2) de_int) de_int) (dss_one (ds_ret (de_op op_modN op2_mod (de_op op_fdivX op2_fdiv (de_var 2) de_int) (de_op op_pow op2_pow de_int de_int)))) dss_nil)
    (dss_one (ds_ret (de_op op_modN op2_mod (de_op op_fdivX op2_fdiv (de_var 2) de_int) de_int)))))

theorem ok__law_size (T : Tx K mg) : DefOk P w K mg base 1 "_law_size" ["_law_cell"] m_law_size := by
  obtain ⟨fd, F⟩ := T.d__law_size
  refine defOk_mk (N := N__law_size) (k := 0) (b := b_law_size) F sc__law_size (fun us hl kV doc pm an cdv ct => match us, hl with | [_], _ => by kernel_rfl) T.g__law_size (fun cdv A outer s H E hr => ?_)
  unfold b_law_size
  exact (dss_cons (ds_if (dt_cmp (op_eqX (hu64 hr)) (op2_eqG _) (de_op op_modN op2_mod (de_var 0) de_int) de_int) (dss_one (ds_ret (de_op op_modN op2_mod (de_op op_fdivX op2_fdiv (de_var 0) de_int) de_int))) dss_nil)
    (dss_one (ds_ret (de_op op_modN op2_mod (de_op op_fdivX op2_fdiv (de_var 0) de_int) (de_op op_pow op2_pow de_int de_int)))))

theorem ok__law_ways (T : Tx K mg) : DefOk P w K mg base 1 "_law_ways" ["_law_many", "_law_some"] m_law_ways := by
  obtain ⟨fd, F⟩ := T.d__law_ways
  refine defOk_mk (N := N__law_ways) (k := 0) (b := b_law_ways) F sc__law_ways (fun us hl kV doc pm an cdv ct => match us, hl with | [_, _], _ => by kernel_rfl) T.g__law_ways (fun cdv A outer s H E hr => ?_)
  unfold b_law_ways
  exact (dss_cons (ds_set 2 sc__law_ways.nd de_int)
    (dss_cons (ds_for poD rfl (di_range1 T.n_range (de_var 1)) (dg_name 3 sc__law_ways.nd) (dss_one (ds_set 2 sc__law_ways.nd (de_op op_mulV op2_mul (de_var 2) (de_op op_sub op2_sub (de_var 0) (de_var 3))))))
    (dss_one (ds_ret (de_gc (de_op op_fdivX op2_fdiv (de_var 2) (de_ix (hu1 hr) (de_lst (da_cons de_int (da_cons de_int (da_cons de_int (da_cons de_int da_nil))))) (de_var 1))))))))

theorem ok__law_value (T : Tx K mg) : DefOk P w K mg base 2 "_law_value" ["_law_parts", "_law_sizes"] m_law_value := by
  obtain ⟨fd, F⟩ := T.d__law_value
  refine defOk_mk (N := N__law_value) (k := 1) (b := b_law_value) F sc__law_value (fun us hl kV doc pm an cdv ct => match us, hl with | [_, _], _ => by kernel_rfl) T.g__law_value (fun cdv A outer s H E hr => ?_)
  unfold b_law_value
  exact (dss_cons (ds_set 2 sc__law_value.nd de_int)
    (dss_cons (ds_set 3 sc__law_value.nd de_int)
    (dss_cons (ds_for poD rfl (di_any (de_var 0)) (dg_tup (is := [4, 5]) rfl (dgs_cons 4 sc__law_value.nd (dgs_cons 5 sc__law_value.nd dgs_nil))) (dss_cons (ds_set 6 sc__law_value.nd (de_ix (hu1 hr) (de_var 5) de_int))
    (dss_cons (ds_for poD rfl (di_zip T.n_zip (de_var 1) (de_var 4)) (dg_tup (is := [7, 8]) rfl (dgs_cons 7 sc__law_value.nd (dgs_cons 8 sc__law_value.nd dgs_nil))) (dss_one (ds_set 6 sc__law_value.nd (de_op op_mulV op2_mul (de_var 6) (de_callD tkD (ok__law_ways T) (hr.mono (by decide)) (da_cons (de_var 7) (da_cons (de_var 8) da_nil)))))))
    (dss_cons (ds_set 2 sc__law_value.nd (de_op op_addV op2_add (de_op op_mulV op2_mul (de_var 2) (de_ix (hu1 hr) (de_var 5) de_int)) (de_op op_mulV op2_mul (de_var 6) (de_var 3))))
    (dss_one (ds_set 3 sc__law_value.nd (de_op op_mulV op2_mul (de_var 3) (de_ix (hu1 hr) (de_var 5) de_int))))))))
    (dss_one (ds_ret (de_tup (da_cons (de_var 2) (da_cons (de_var 3) da_nil))))))))

theorem ok__law_is_part (T : Tx K mg) : DefOk P w K mg base 2 "_law_is_part" ["_law_part", "_law_many"] m_law_is_part := by
  obtain ⟨fd, F⟩ := T.d__law_is_part
  refine defOk_mk (N := N__law_is_part) (k := 1) (b := b_law_is_part) F sc__law_is_part (fun us hl kV doc pm an cdv ct => match us, hl with | [_, _], _ => by kernel_rfl) T.g__law_is_part (fun cdv A outer s H E hr => ?_)
  unfold b_law_is_part
  exact (dss_cons (ds_if (dt_w (dw_or (dt_not (dt_tru (de_B call_isi (opC_isinst (b := "tuple") (by decide)) T.n_isinstance (da_cons (de_var 0) (da_cons (de_ty (n := "tuple") T.n_tuple) da_nil))))) (dw_or (dt_cmp (op_neX (hu64 hr)) (op2_eqG _) (de_B call_len opC_len T.n_len (da_cons (de_var 0) da_nil)) de_int) (dw_or (dt_not (dt_tru (de_B call_isi (opC_isinst (b := "tuple") (by decide)) T.n_isinstance (da_cons (de_ix (hu1 hr) (de_var 0) de_int) (da_cons (de_ty (n := "tuple") T.n_tuple) da_nil))))) (dw_or1 (dt_cmp (op_neX (hu64 hr)) (op2_eqG _) (de_B call_len opC_len T.n_len (da_cons (de_ix (hu1 hr) (de_var 0) de_int) da_nil)) (de_var 1))))))) (dss_one (ds_ret de_bl)) dss_nil)
    (dss_cons (ds_if (dt_w (dw_or (dt_not (dt_tru (de_B call_isi (opC_isinst (b := "tuple") (by decide)) T.n_isinstance (da_cons (de_ix (hu1 hr) (de_var 0) de_int) (da_cons (de_ty (n := "tuple") T.n_tuple) da_nil))))) (dw_or (dt_cmp (op_neX (hu64 hr)) (op2_eqG _) (de_B call_len opC_len T.n_len (da_cons (de_ix (hu1 hr) (de_var 0) de_int) da_nil)) de_int) (dw_or (dt_not (dt_tru (de_callD tkD (ok__law_whole T) (hr.mono (by decide)) (da_cons (de_ix (hu1 hr) (de_ix (hu1 hr) (de_var 0) de_int) de_int) da_nil)))) (dw_or1 (dt_not (dt_tru (de_callD tkD (ok__law_whole T) (hr.mono (by decide)) (da_cons (de_ix (hu1 hr) (de_ix (hu1 hr) (de_var 0) de_int) de_int) da_nil))))))))) (dss_one (ds_ret de_bl)) dss_nil)
    (dss_cons (ds_if (dt_w (dw_or (dt_cmp (op_eqX (hu64 hr)) (op2_eqG _) (de_ix (hu1 hr) (de_ix (hu1 hr) (de_var 0) de_int) de_int) de_int) (dw_or (dt_cmp op_lt op2_lt (de_ix (hu1 hr) (de_ix (hu1 hr) (de_var 0) de_int) de_int) de_int) (dw_or1 (dt_cmp (op_neX (hu64 hr)) (op2_eqG _) (de_callD tkD (ok__law_divisor T) (hr.mono (by decide)) (da_cons (de_ix (hu1 hr) (de_ix (hu1 hr) (de_var 0) de_int) de_int) (da_cons (de_ix (hu1 hr) (de_ix (hu1 hr) (de_var 0) de_int) de_int) da_nil))) de_int))))) (dss_one (ds_ret de_bl)) dss_nil)
    (dss_one (ds_ret (de_gc (de_gc (de_B (cr_all rfl) opC_all T.n_all (da_cons (de_lc [("_law_power", 2)] rfl sc__law_is_part.nd (di_any (de_ix (hu1 hr) (de_var 0) de_int)) (blkOk_by (N := N__law_is_part) (sc := defScope (top 25)) (by decide +kernel)) (fun _ _ _ _ _ => (dg_name 2 sc__law_is_part.nd)) (fun _ _ _ _ _ => dts_nil) (fun _ _ _ _ _ => (de_and (de_callD takes0 (ok__law_whole T) (hr.mono (by decide)) (da_cons (de_var 2) da_nil)) (de_one (de_chain op_le op2_le op_le op2_le de_int (de_var 2) de_int))))) da_nil)))))))))

theorem ok__law_is_sum (T : Tx K mg) : DefOk P w K mg base 3 "_law_is_sum" ["_law_found", "_law_many"] m_law_is_sum := by
  obtain ⟨fd, F⟩ := T.d__law_is_sum
  refine defOk_mk (N := N__law_is_sum) (k := 2) (b := b_law_is_sum) F sc__law_is_sum (fun us hl kV doc pm an cdv ct => match us, hl with | [_, _], _ => by kernel_rfl) T.g__law_is_sum (fun cdv A outer s H E hr => ?_)
  unfold b_law_is_sum
  exact (dss_cons (ds_if (dt_not (dt_tru (de_B call_isi (opC_isinst (b := "tuple") (by decide)) T.n_isinstance (da_cons (de_var 0) (da_cons (de_ty (n := "tuple") T.n_tuple) da_nil))))) (dss_one (ds_ret de_bl)) dss_nil)
    (dss_cons (ds_for poD rfl (di_any (de_var 0)) (dg_name 2 sc__law_is_sum.nd) (dss_one (ds_if (dt_not (dt_tru (de_callD tkD (ok__law_is_part T) (hr.mono (by decide)) (da_cons (de_var 2) (da_cons (de_var 1) da_nil))))) (dss_one (ds_ret de_bl)) dss_nil)))
    (dss_one (ds_ret (de_gc (de_gc (de_B (cr_all rfl) opC_all T.n_all (da_cons (de_lc [("_law_one", 3), ("_law_other", 4)] rfl sc__law_is_sum.nd (di_zip T.n_zip (de_slice (de_var 0) do_none (do_some (de_neg de_int))) (de_slice (de_var 0) (do_some de_int) do_none)) (blkOk_by (N := N__law_is_sum) (sc := defScope (top 26)) (by decide +kernel)) (fun _ _ _ _ _ => (dg_tup (is := [3, 4]) rfl (dgs_cons 3 sc__law_is_sum.nd (dgs_cons 4 sc__law_is_sum.nd dgs_nil)))) (fun _ _ _ _ _ => dts_nil) (fun _ _ _ _ _ => (de_cmp (op_ltA (hu1 hr)) op2_ltA (de_ix (hu1 hr) (de_var 3) de_int) (de_ix (hu1 hr) (de_var 4) de_int)))) da_nil))))))))

theorem fn_law (T : Tx K mg) {fd : FuncData} (F : FunD K "law" "law" (defArgs (top 27)) (defBody (top 27)) (defScope (top 27)) [] [] (He.ga K "law") fd) : FnOk P w K mg base (L2.CX P w) 4 (He.ga K "law") fd ["_law_script"] (spF K mg 1 m_law) := by
  refine fnOk_mk (N := N_law) (k := 3) (b := b_law) F sc_law (fun cdv A outer s H E hr => ?_)
  unfold b_law
  exact (dss_cons (ds_set 1 sc_law.nd (de_callD tkD (ok__law_cell_at T) (hr.mono (by decide)) (da_cons (de_var 0) (da_cons de_int da_nil))))
    (dss_cons (ds_set 2 sc_law.nd (de_op op_modN op2_mod (de_var 1) de_int))
    (dss_cons (ds_set 3 sc_law.nd de_int)
    (dss_cons (ds_if (dt_cmp (op_eqX (hu64 hr)) (op2_eqG _) (de_op op_modN op2_mod (de_op op_fdivX op2_fdiv (de_var 1) de_int) de_int) de_int) (dss_cons (ds_set 2 sc_law.nd (de_op op_addV op2_add de_int (de_op op_modN op2_mod (de_op op_fdivX op2_fdiv (de_var 1) de_int) de_int)))
    (dss_one (ds_set 3 sc_law.nd de_int))) dss_nil)
    (dss_cons (ds_set 4 sc_law.nd (de_op op_modN op2_mod (de_callD tkD (ok__law_cell_at T) (hr.mono (by decide)) (da_cons (de_var 0) (da_cons de_int da_nil))) de_int))
    (dss_cons (ds_set 5 sc_law.nd (de_gc (de_callD tkD (ok__law_sum T) (hr.mono (by decide)) (da_cons (de_gc (de_slice (de_var 0) (do_some de_int) (do_some de_int))) (da_cons (de_var 2) (da_cons (de_var 3) da_nil))))))
    (dss_cons (ds_set 6 sc_law.nd (de_lst da_nil))
    (dss_cons (ds_for poD rfl (di_range1 T.n_range (de_var 2)) (dg_name 7 sc_law.nd) (dss_one (ds_expr (de_M PySem.F.slot_list_append PySem.F.type_list_append mt_append opM_append (de_var 6) (da_cons (de_gc (de_gc (de_Ty call_tuple_of opC_tuple T.n_tuple (da_cons (de_lc [("_law_j", 16)] rfl sc_law.nd (di_range1 T.n_range (de_op op_addV op2_add (de_var 4) de_int)) (blkOk_by (N := N_law) (sc := defScope (top 27)) (by decide +kernel)) (fun _ _ _ _ _ => (dg_name 16 sc_law.nd)) (fun _ _ _ _ _ => dts_nil) (fun _ _ _ _ _ => (de_callD takes0 (ok__law_number T) (hr.mono (by decide)) (da_cons (de_var 0) (da_cons (de_op op_addV op2_add (de_op op_mulV op2_mul (de_var 7) (de_op op_addV op2_add (de_var 4) de_int)) (de_var 16)) da_nil))))) da_nil)))) da_nil)))))
    (dss_cons (ds_set 8 sc_law.nd (de_gc (de_Ty (call_listV rfl) opC_list T.n_list (da_cons (de_var 6) da_nil))))
    (dss_cons (ds_set 9 sc_law.nd (de_callD tkD (ok_laid T) (hr.mono (by decide)) (da_cons (de_var 5) (da_cons (de_var 8) (da_cons (de_var 4) da_nil)))))
    (dss_cons (ds_if (dt_w (dw_or (dt_not (dt_tru (de_callD tkD (ok__law_is_sum T) (hr.mono (by decide)) (da_cons (de_var 9) (da_cons (de_var 4) da_nil))))) (dw_or1 (dt_cmp (op_neX (hu64 hr)) (op2_eqG _) (de_var 8) (de_var 6))))) (dss_one (ds_ret de_bl)) dss_nil)
    (dss_cons (ds_if (dt_gc (dt_w (dw_and (dt_tru (de_gc (de_B (cr_all rfl) opC_all T.n_all (da_cons (de_lc [("_law_powers_here", 17), ("_law_share", 18)] rfl sc_law.nd (di_any (de_var 5)) (blkOk_by (N := N_law) (sc := defScope (top 27)) (by decide +kernel)) (fun _ _ _ _ _ => (dg_tup (is := [17, 18]) rfl (dgs_cons 17 sc_law.nd (dgs_cons 18 sc_law.nd dgs_nil)))) (fun _ _ _ _ _ => dts_nil) (fun _ _ _ _ _ => (de_cmp op_gt op2_gt (de_ix (hu1 hr) (de_var 18) de_int) de_int))) da_nil)))) (dw_and1 (dt_not (dt_tru (de_gc (de_B (cr_all rfl) opC_all T.n_all (da_cons (de_lc [("_law_powers_here", 17), ("_law_share", 18)] rfl sc_law.nd (di_any (de_var 9)) (blkOk_by (N := N_law) (sc := defScope (top 27)) (by decide +kernel)) (fun _ _ _ _ _ => (dg_tup (is := [17, 18]) rfl (dgs_cons 17 sc_law.nd (dgs_cons 18 sc_law.nd dgs_nil)))) (fun _ _ _ _ _ => dts_nil) (fun _ _ _ _ _ => (de_cmp op_gt op2_gt (de_ix (hu1 hr) (de_var 18) de_int) de_int))) da_nil))))))))) (dss_one (ds_ret de_bl)) dss_nil)
    (dss_cons (ds_for poD rfl (di_any (de_lst (da_cons de_int (da_cons de_int da_nil)))) (dg_name 10 sc_law.nd) (dss_cons (ds_set 11 sc_law.nd (de_op op_fdivX op2_fdiv (de_callD tkD (ok__law_cell_at T) (hr.mono (by decide)) (da_cons (de_var 0) (da_cons de_int da_nil))) de_int))
    (dss_cons (ds_set 12 sc_law.nd (de_lc [("_law_k", 7)] rfl sc_law.nd (di_range1 T.n_range (de_var 4)) (blkOk_by (N := N_law) (sc := defScope (top 27)) (by decide +kernel)) (fun _ _ _ _ _ => (dg_name 7 sc_law.nd)) (fun _ _ _ _ _ => dts_nil) (fun _ _ _ _ _ => (de_callD takes0 (ok__law_size T) (hr.mono (by decide)) (da_cons (de_op op_addV op2_add (de_callD takes0 (ok__law_cell_at T) (hr.mono (by decide)) (da_cons (de_var 0) (da_cons (de_op op_addV op2_add (de_var 10) (de_var 7)) da_nil))) (de_op op_mulV op2_mul (de_var 11) (de_op op_addV op2_add (de_var 10) (de_op op_mulV op2_mul de_int (de_var 7))))) da_nil)))))
    (dss_cons (ds_setLc 13 [("_law_line", 19)] rfl sc_law.nd (di_any (de_var 6)) (blkOk_by (N := N_law) (sc := defScope (top 27)) (by decide +kernel)) (fun _ _ _ _ _ => (dg_name 19 sc_law.nd)) (fun _ _ _ _ _ => dts_nil) (fun _ _ _ _ _ => (de_gc (de_op op_addV op2_add (de_ix (hu1 hr) (de_var 19) de_int) (de_gc (de_B (call_sumA rfl) opC_sumA T.n_sum (da_cons (de_lc [("_law_k", 7)] rfl sc_law.nd (di_range1 T.n_range (de_var 4)) (blkOk_by (N := N_law) (sc := { kind := PySem.ScopeKind.function, names := [ (PySem.Str.ofString ".0", PySem.NameKind.local), (PySem.Str.ofString "_law_line", PySem.NameKind.cell), (PySem.Str.ofString "sum", PySem.NameKind.globalImplicit), (PySem.Str.ofString "range", PySem.NameKind.globalImplicit), (PySem.Str.ofString "_law_sizes", PySem.NameKind.cell), (PySem.Str.ofString "_law_wide", PySem.NameKind.cell)], isGenerator := false, isCoroutine := false, more := [] : PySem.Scope }) (by decide +kernel)) (fun _ _ _ _ _ => (dg_name 7 sc_law.nd)) (fun _ _ _ _ _ => dts_nil) (fun _ _ _ _ _ => (de_op op_mulV op2_mul (de_ix (hu1 hr) (de_var 19) (de_op op_addV op2_add (de_var 7) de_int)) (de_ix (hu1 hr) (de_var 12) (de_var 7))))) da_nil)))))))
    (dss_cons (ds_set 14 sc_law.nd (de_callD tkD (ok__law_value T) (hr.mono (by decide)) (da_cons (de_var 5) (da_cons (de_var 13) da_nil))))
    (dss_cons (ds_set 15 sc_law.nd (de_callD tkD (ok__law_value T) (hr.mono (by decide)) (da_cons (de_var 9) (da_cons (de_var 12) da_nil))))
    (dss_one (ds_if (dt_cmp (op_neX (hu64 hr)) (op2_eqG _) (de_op op_mulV op2_mul (de_ix (hu1 hr) (de_var 14) de_int) (de_ix (hu1 hr) (de_var 15) de_int)) (de_op op_mulV op2_mul (de_ix (hu1 hr) (de_var 15) de_int) (de_ix (hu1 hr) (de_var 14) de_int))) (dss_one (ds_ret de_bl)) dss_nil))))))))
    (dss_one (ds_ret de_bl)))))))))))))))
end
theorem tx {K : PySem.W.Frag} {h : Heap} {mg : Str → Option Value} (X : K.In h) (G : h.Ns mainGlobals mg) (c : He.SaysD fa fn K) (e : exk K = true) : Tx K mg := by
  refine ⟨He.free_ok X G (c.fact 0 (f := .free "abs") rfl),
    He.free_ok X G (c.fact 1 (f := .free "all") rfl),
    He.free_ok X G (c.fact 2 (f := .free "bool") rfl),
    He.free_ok X G (c.fact 3 (f := .free "int") rfl),
    He.free_ok X G (c.fact 4 (f := .free "isinstance") rfl),
    He.free_ok X G (c.fact 5 (f := .free "len") rfl),
    He.free_ok X G (c.fact 6 (f := .free "list") rfl),
    He.free_ok X G (c.fact 7 (f := .free "max") rfl),
    He.free_ok X G (c.fact 8 (f := .free "range") rfl),
    He.free_ok X G (c.fact 9 (f := .free "reversed") rfl),
    He.free_ok X G (c.fact 10 (f := .free "sorted") rfl),
    He.free_ok X G (c.fact 11 (f := .free "sum") rfl),
    He.free_ok X G (c.fact 12 (f := .free "tuple") rfl),
    He.free_ok X G (c.fact 13 (f := .free "zip") rfl),
    He.glo_ok X G (c.fact 14 (f := .glo "is_whole") rfl),
    c.def_ 0 (d := dd "is_whole" 4) rfl,
    He.glo_ok X G (c.fact 15 (f := .glo "divisor") rfl),
    c.def_ 1 (d := dd "divisor" 5) rfl,
    He.glo_ok X G (c.fact 16 (f := .glo "ratio") rfl),
    c.def_ 2 (d := dd "ratio" 6) rfl,
    He.glo_ok X G (c.fact 17 (f := .glo "ways_out") rfl),
    c.def_ 3 (d := dd "ways_out" 8) rfl,
    He.glo_ok X G (c.fact 18 (f := .glo "one_bottom") rfl),
    c.def_ 4 (d := dd "one_bottom" 9) rfl,
    He.glo_ok X G (c.fact 19 (f := .glo "top_at") rfl),
    c.def_ 5 (d := dd "top_at" 10) rfl,
    He.glo_ok X G (c.fact 20 (f := .glo "line_at") rfl),
    c.def_ 6 (d := dd "line_at" 11) rfl,
    He.glo_ok X G (c.fact 21 (f := .glo "powers_to") rfl),
    c.def_ 7 (d := dd "powers_to" 12) rfl,
    He.glo_ok X G (c.fact 22 (f := .glo "laid") rfl),
    c.def_ 8 (d := dd "laid" 13) rfl,
    He.glo_ok X G (c.fact 23 (f := .glo "_law_cell_at") rfl),
    c.def_ 9 (d := dd "_law_cell_at" 15) rfl,
    He.glo_ok X G (c.fact 24 (f := .glo "_law_whole") rfl),
    c.def_ 10 (d := dd "_law_whole" 16) rfl,
    He.glo_ok X G (c.fact 25 (f := .glo "_law_divisor") rfl),
    c.def_ 11 (d := dd "_law_divisor" 17) rfl,
    He.glo_ok X G (c.fact 26 (f := .glo "_law_ratio") rfl),
    c.def_ 12 (d := dd "_law_ratio" 18) rfl,
    He.glo_ok X G (c.fact 27 (f := .glo "_law_powers") rfl),
    c.def_ 13 (d := dd "_law_powers" 19) rfl,
    He.glo_ok X G (c.fact 28 (f := .glo "_law_sum") rfl),
    c.def_ 14 (d := dd "_law_sum" 20) rfl,
    He.glo_ok X G (c.fact 29 (f := .glo "_law_number") rfl),
    c.def_ 15 (d := dd "_law_number" 21) rfl,
    He.glo_ok X G (c.fact 30 (f := .glo "_law_size") rfl),
    c.def_ 16 (d := dd "_law_size" 22) rfl,
    He.glo_ok X G (c.fact 31 (f := .glo "_law_ways") rfl),
    c.def_ 17 (d := dd "_law_ways" 23) rfl,
    He.glo_ok X G (c.fact 32 (f := .glo "_law_value") rfl),
    c.def_ 18 (d := dd "_law_value" 24) rfl,
    He.glo_ok X G (c.fact 33 (f := .glo "_law_is_part") rfl),
    c.def_ 19 (d := dd "_law_is_part" 25) rfl,
    He.glo_ok X G (c.fact 34 (f := .glo "_law_is_sum") rfl),
    c.def_ 20 (d := dd "_law_is_sum" 26) rfl,
    He.glo_ok X G (c.fact 35 (f := .glo "law") rfl),
    c.def_ 21 (d := dd "law" 27) rfl,
    ⟨He.glo_ok X G (c.fact 36 (f := .glo "NoRatio") rfl), c.fact 37 (f := .exc "NoRatio") rfl⟩⟩
end K36
open PySem PySem.W PySem.Calls PyProof.Rows
set_option maxHeartbeats 0 in
theorem PySem.Challenge.cw_toll_k36_whole_lines_laid_in_holds : PySem.Challenge.rw_toll_k36_whole_lines_laid_in.Holds := by
  w_on; o_law
  refine HandSHeadRun.head_any (r := OpenLaw.row PySem.Challenge.rw_toll_k36_whole_lines_laid_in) (q := view (OpenLaw.row PySem.Challenge.rw_toll_k36_whole_lines_laid_in).prog [27]) (H := K36.hk) (ob := K36.ob) (M := 20000) (loose := K36.names) (d := HandSHeadRun.topDef (OpenLaw.row PySem.Challenge.rw_toll_k36_whole_lines_laid_in).prog 27) (kwd := []) K36.ob_eq
    (by kernel_rfl) (fun s => by kernel_rfl) K36.run (by kernel_rfl) (by kernel_rfl) (by kernel_rfl) (by rfl) (by first | assumption | decide +kernel) (by decide +kernel) ⟨rfl, rfl, rfl, rfl, rfl, by decide +kernel⟩ ?hw ?hc
  case hw => w_witness2
  case hc =>
    refine TL.walk_ofX (l := PySem.Challenge.rw_toll_k36_whole_lines_laid_in) (n := 63) (k := 4) (x := "_law_script") (CX := fun w => L2.CX PySem.Challenge.rw_toll_k36_whole_lines_laid_in.prog w) rfl (by decide) (by kernel_rfl) ⟨rfl, by decide, by decide⟩ ?F (fun w H s e s' z => TL.cx_end _ _ H s e s' z)
    intro w mg fa h Y G hmg0
    obtain ⟨K, KX, c, e⟩ := Y
    have hmg : mg ("law" : PySem.Str) = some (.ref fa) := by
      have e : (HandSHeadRun.topDef (OpenLaw.row PySem.Challenge.rw_toll_k36_whole_lines_laid_in).prog 27).name = ("law" : PySem.Str) := by kernel_rfl
      rw [← e]
      exact hmg0
    have T : K36.Tx K mg := K36.tx KX G c e
    obtain ⟨fd, F⟩ := T.d_law
    have efa := TL.glo_ga KX G (c.fact 35 (f := .glo "law") rfl) hmg
    subst efa
    exact ⟨K, fd, _, KX, fun s v => L2.FunD.bindsA (ps := ["_law_script"]) F (fun _ _ _ _ _ _ us hl => match us, hl with | [_], _ => rfl) s [v] rfl, fun H a ns hl hO hS => TL.law_sp (mg := mg) K36.law_pure H a ns hl hO hS, fun base _ _ => K36.fn_law T F⟩

