import PyProof.Rows.All
import Wide.All
import OpenK.AllK
import Wide.FinOn
import KE.KStateDown
import PySem.Challenge.RW_toll_k80_numbers_and_lists
import HandS.Base
import HandS.Call
import HandS.List
import HandS.Comp
import HandS.Ends
import HandS.Dict
import HandS.Iter
import HandS.Text
import HandS.More
import HandS.Words
import HandS.WordsList
import HandS.WordsDict
import HandS.WordsExc
import HandS.Exc
import HandS.ExcOwn
import HandS.ExcIs
import HandS.TryOnly
import HandS.TryMany
import HandS.TryElse
import HandS.IsInst
import HandS.TupAny
import HandS.Wide
import HandS.CallSlots
import HandS.Deep
import HandS.Flow
import HandS.Style
import HandS.Defaults
import HandS.Head0
import HandS.Head1
import HandS.Head2
import HandS.HeadEnd
import HandS.HeadHook1
import HandS.HeadHook2
import HandS.Zip0
import HandS.Zip
import HandS.TupSets
import HandS.DeepEq
import HandS.DictComp
import PyProof.NeKinds
import PyProof.P3Eq
import KE.KMinKey
import KE.KDictWalk
import PyProof.Rows.SetFrom
import HandS.Rev
import KE.KEqDict
import KE.KDictPairs
import KE.KTupSum
import HandS.RevRange
import PyProof.Rows.CountFlat
import HandS.StrMore
import PyProof.StrOps2
set_option Elab.async false
set_option linter.all false
set_option maxRecDepth 100000
set_option maxHeartbeats 1000000
/-! TL0: values without a heap (PV), a store of what may change (PO), how they lie in the layer's heap (Rp, Rel). -/
namespace TL
open PySem PySem.Spec PyProof.Rows L2

inductive PV where
  | non | bl (b : Bool) | int (i : Int) | str (x : Str) | tup (xs : List PV) | rol (xs : List PV) | kup (xs : List PV) | obj (n : Nat) | fn (a : Addr) | ty (n : String)

mutual
def pvb : PV → PV → Bool
  | .non, .non => true
  | .bl a, .bl b => a == b
  | .int a, .int b => a == b
  | .str a, .str b => a == b
  | .tup a, .tup b => pvbs a b
  | .rol a, .rol b => pvbs a b
  | .kup a, .kup b => pvbs a b
  | .obj a, .obj b => a == b
  | .fn a, .fn b => decide (a = b)
  | .ty a, .ty b => a == b
  | _, _ => false
def pvbs : List PV → List PV → Bool
  | [], [] => true
  | x :: xs, y :: ys => pvb x y && pvbs xs ys
  | _, _ => false
end
mutual
theorem pvb_iff : ∀ a b : PV, pvb a b = true ↔ a = b
  | .non, b => by cases b <;> simp [pvb]
  | .bl a, b => by cases b <;> simp [pvb]
  | .int a, b => by cases b <;> simp [pvb]
  | .str a, b => by cases b <;> simp [pvb]
  | .tup a, b => by
    cases b with
    | tup b => simp [pvb, pvbs_iff a b]
    | _ => simp [pvb]
  | .rol a, b => by
    cases b with
    | rol b => simp [pvb, pvbs_iff a b]
    | _ => simp [pvb]
  | .kup a, b => by
    cases b with
    | kup b => simp [pvb, pvbs_iff a b]
    | _ => simp [pvb]
  | .obj a, b => by cases b <;> simp [pvb]
  | .fn a, b => by cases b <;> simp [pvb]
  | .ty a, b => by cases b <;> simp [pvb]
theorem pvbs_iff : ∀ a b : List PV, pvbs a b = true ↔ a = b
  | [], b => by cases b <;> simp [pvbs]
  | x :: xs, b => by
    cases b with
    | nil => simp [pvbs]
    | cons y ys => simp [pvbs, pvb_iff x y, pvbs_iff xs ys]
end
instance : DecidableEq PV := fun a b => decidable_of_iff _ (pvb_iff a b)

mutual
/-- all that it names in the store lies below n -/
def bnd (n : Nat) : PV → Bool
  | .tup xs => bnds n xs
  | .rol xs => bnds n xs
  | .kup xs => bnds n xs
  | .obj i => decide (i < n)
  | .non => true
  | .bl _ => true
  | .int _ => true
  | .str _ => true
  | .fn _ => true
  | .ty _ => true
def bnds (n : Nat) : List PV → Bool
  | [] => true
  | x :: xs => bnd n x && bnds n xs
end
mutual
theorem bnd_mono {n m : Nat} (h : n ≤ m) : ∀ x : PV, bnd n x = true → bnd m x = true
  | .tup xs, q => bnds_mono h xs q
  | .rol xs, q => bnds_mono h xs q
  | .kup xs, q => bnds_mono h xs q
  | .obj i, q => by
    have q' : i < n := of_decide_eq_true q
    exact decide_eq_true (Nat.lt_of_lt_of_le q' h)
  | .non, _ => rfl
  | .bl _, _ => rfl
  | .int _, _ => rfl
  | .str _, _ => rfl
  | .fn _, _ => rfl
  | .ty _, _ => rfl
theorem bnds_mono {n m : Nat} (h : n ≤ m) : ∀ xs : List PV, bnds n xs = true → bnds m xs = true
  | [], _ => rfl
  | x :: xs, q => by
    have q' := Bool.and_eq_true_iff.mp q
    exact Bool.and_eq_true_iff.mpr ⟨bnd_mono h x q'.1, bnds_mono h xs q'.2⟩
end
theorem bnds_all {n : Nat} : ∀ {xs : List PV}, bnds n xs = true ↔ ∀ x ∈ xs, bnd n x = true
  | [] => by simp [bnds]
  | x :: xs => by simp [bnds, bnds_all (xs := xs)]
theorem bnds_get {n : Nat} {xs : List PV} (h : bnds n xs = true) {i : Nat} {x : PV} (e : xs[i]? = some x) : bnd n x = true :=
  bnds_all.mp h x (List.mem_of_getElem? e)
theorem bnds_append {n : Nat} {xs ys : List PV} : bnds n (xs ++ ys) = true ↔ bnds n xs = true ∧ bnds n ys = true := by
  rw [bnds_all, bnds_all, bnds_all]
  constructor
  · intro h
    exact ⟨fun x hx => h x (List.mem_append_left _ hx), fun x hx => h x (List.mem_append_right _ hx)⟩
  · rintro ⟨h1, h2⟩ x hx
    exact (List.mem_append.mp hx).elim (h1 x) (h2 x)

/-- what may change: a list, a dict (its pairs in order), an instance (its class, its attributes) -/
inductive PO where
  | lst (xs : List PV)
  | dic (lk : Bool) (kvs : List (PV × PV))
  | ins (C : Str) (fs : List (Str × PV))
abbrev Store := List PO
def bndO (n : Nat) : PO → Bool
  | .lst xs => bnds n xs
  | .dic _ kvs => bnds n (kvs.map (·.2))
  | .ins _ fs => bnds n (fs.map (·.2))
theorem bndO_mono {n m : Nat} (h : n ≤ m) : ∀ o : PO, bndO n o = true → bndO m o = true
  | .lst xs, q => bnds_mono h xs q
  | .dic _ kvs, q => bnds_mono h _ q
  | .ins _ fs, q => bnds_mono h _ q

abbrev Mp := Nat → Addr
def SqF (K : PySem.W.Frag) (H : Hp) (a : Addr) (xs : List V) : Prop :=
  (∃ o, H a = some (.frz o (.lst xs))) ∨
    ∃ (o : Obj) (its : Array Value) (n : Nat), K.lookup a = some o ∧ o.cls = .type "list" ∧ o.dict = none ∧ o.data = .seq its n ∧ its.size ≤ sizeLine ∧ Vals xs its.toList
/-- a tuple that is known to have no dict of its own: one that was laid strong, or one of the frame -/
def SqK (K : PySem.W.Frag) (H : Hp) (a : Addr) (xs : List V) : Prop :=
  (∃ o, H a = some (.frz o (.tup xs)) ∧ o.dict = none) ∨
    ∃ (o : Obj) (its : Array Value) (n : Nat), K.lookup a = some o ∧ o.cls = .type "tuple" ∧ o.dict = none ∧ o.data = .seq its n ∧ its.size ≤ sizeLine ∧ Vals xs its.toList
theorem SqK.t {K : PySem.W.Frag} {H : Hp} {a : Addr} {xs : List V} (h : SqK K H a xs) : SqT K H a xs := by
  rcases h with ⟨o, h, _⟩ | ⟨o, its, n, h1, h2, _, h3⟩
  · exact .inl (.inr ⟨o, h⟩)
  · exact .inr ⟨o, its, n, h1, h2, h3⟩
theorem SqF.l {K : PySem.W.Frag} {H : Hp} {a : Addr} {xs : List V} (h : SqF K H a xs) : SqL K H a xs := by
  rcases h with ⟨o, h⟩ | h
  · exact .inl (.inr ⟨o, h⟩)
  · exact .inr h
mutual
def Rp (K : PySem.W.Frag) (m : Mp) (H : Hp) : PV → V → Prop
  | .tup xs, v => ∃ a vs, v = .ref a ∧ H a = some (.tup vs) ∧ Rps K m H xs vs
  | .rol xs, v => ∃ a vs, v = .ref a ∧ SqF K H a vs ∧ Rps K m H xs vs
  | .kup xs, v => ∃ a vs, v = .ref a ∧ SqK K H a vs ∧ Rps K m H xs vs
  | .obj n, v => v = .ref (m n)
  | .non, v => v = .non
  | .bl b, v => v = .bl b
  | .int i, v => v = .int i
  | .str x, v => v = .str x
  | .fn a, v => v = .ref a
  | .ty n, v => v = .ty n
def Rps (K : PySem.W.Frag) (m : Mp) (H : Hp) : List PV → List V → Prop
  | [], vs => vs = []
  | x :: xs, vs => ∃ v r, vs = v :: r ∧ Rp K m H x v ∧ Rps K m H xs r
end
/-- from (m, H) on to (m', H'): what lies below n keeps its place, tuples and what is frozen stay -/
structure Ext (K : PySem.W.Frag) (n : Nat) (m : Mp) (H : Hp) (m' : Mp) (H' : Hp) : Prop where
  mi : ∀ i, i < n → m' i = m i
  tu : ∀ a xs, H a = some (.tup xs) → H' a = some (.tup xs)
  xd : ∀ a fs, H a = some (.xd fs) → H' a = some (.xd fs)
  fz : ∀ a xs, SqF K H a xs → SqF K H' a xs
  lk : ∀ a o u, H a = some (.frz o u) → H' a = some (.frz o u)
/-- the same, but that something may have been unlocked -/
structure Ext0 (K : PySem.W.Frag) (n : Nat) (m : Mp) (H : Hp) (m' : Mp) (H' : Hp) : Prop where
  mi : ∀ i, i < n → m' i = m i
  tu : ∀ a xs, H a = some (.tup xs) → H' a = some (.tup xs)
  xd : ∀ a fs, H a = some (.xd fs) → H' a = some (.xd fs)
  fz : ∀ a xs, SqF K H a xs → SqF K H' a xs
  fk : ∀ a xs, SqK K H a xs → SqK K H' a xs
theorem Ext.e0 {K : PySem.W.Frag} {n : Nat} {m m' : Mp} {H H' : Hp} (e : Ext K n m H m' H') : Ext0 K n m H m' H' := ⟨e.mi, e.tu, e.xd, e.fz, fun a _ h => h.elim (fun ⟨o, h1, h2⟩ => .inl ⟨o, e.lk a o _ h1, h2⟩) .inr⟩
section
variable {K : PySem.W.Frag} {n n' : Nat} {m m' m2 : Mp} {H H' H2 : Hp}
theorem Ext.refl : Ext K n m H m H := ⟨fun _ _ => rfl, fun _ _ h => h, fun _ _ h => h, fun _ _ h => h, fun _ _ _ h => h⟩
theorem Ext.trans (a : Ext K n m H m' H') (b : Ext K n' m' H' m2 H2) (h : n ≤ n') : Ext K n m H m2 H2 :=
  ⟨fun i hi => (b.mi i (Nat.lt_of_lt_of_le hi h)).trans (a.mi i hi), fun c xs q => b.tu c xs (a.tu c xs q), fun c xs q => b.xd c xs (a.xd c xs q), fun c xs q => b.fz c xs (a.fz c xs q), fun c o u q => b.lk c o u (a.lk c o u q)⟩
mutual
theorem Rp.ext0 (e : Ext0 K n m H m' H') : ∀ (x : PV) (v : V), bnd n x = true → Rp K m H x v → Rp K m' H' x v
  | .tup xs, v, b, h => by
    obtain ⟨a, vs, q, t, r⟩ := h
    exact ⟨a, vs, q, e.tu a vs t, Rps.ext0 e xs vs b r⟩
  | .rol xs, v, b, h => by
    obtain ⟨a, vs, q, t, r⟩ := h
    exact ⟨a, vs, q, e.fz a vs t, Rps.ext0 e xs vs b r⟩
  | .kup xs, v, b, h => by
    obtain ⟨a, vs, q, t, r⟩ := h
    exact ⟨a, vs, q, e.fk a vs t, Rps.ext0 e xs vs b r⟩
  | .obj i, v, b, h => by
    have b' : i < n := of_decide_eq_true b
    have h' : v = .ref (m i) := h
    show v = .ref (m' i)
    rw [e.mi i b']
    exact h'
  | .non, v, _, h => h
  | .bl _, v, _, h => h
  | .int _, v, _, h => h
  | .str _, v, _, h => h
  | .fn _, v, _, h => h
  | .ty _, v, _, h => h
theorem Rps.ext0 (e : Ext0 K n m H m' H') : ∀ (xs : List PV) (vs : List V), bnds n xs = true → Rps K m H xs vs → Rps K m' H' xs vs
  | [], vs, _, h => h
  | x :: xs, vs, b, h => by
    obtain ⟨v, r, q, h1, h2⟩ := h
    have b' := Bool.and_eq_true_iff.mp b
    exact ⟨v, r, q, Rp.ext0 e x v b'.1 h1, Rps.ext0 e xs r b'.2 h2⟩
end
theorem Rp.ext (e : Ext K n m H m' H') (x : PV) (v : V) (b : bnd n x = true) (h : Rp K m H x v) : Rp K m' H' x v := Rp.ext0 e.e0 x v b h
theorem Rps.ext (e : Ext K n m H m' H') (xs : List PV) (vs : List V) (b : bnds n xs = true) (h : Rps K m H xs vs) : Rps K m' H' xs vs := Rps.ext0 e.e0 xs vs b h
theorem Rps.length : ∀ {xs : List PV} {vs : List V}, Rps K m H xs vs → vs.length = xs.length
  | [], vs, h => by
    have h' : vs = [] := h
    rw [h']; rfl
  | x :: xs, vs, h => by
    obtain ⟨v, r, rfl, _, h2⟩ := h
    rw [List.length_cons, List.length_cons, Rps.length h2]
theorem Rps.get : ∀ {xs : List PV} {vs : List V} {i : Nat} {x : PV}, Rps K m H xs vs → xs[i]? = some x → ∃ v, vs[i]? = some v ∧ Rp K m H x v
  | [], vs, i, x, h, e => by simp at e
  | y :: xs, vs, 0, x, h, e => by
    obtain ⟨v, r, rfl, h1, _⟩ := h
    simp at e
    subst e
    exact ⟨v, rfl, h1⟩
  | y :: xs, vs, i + 1, x, h, e => by
    obtain ⟨v, r, rfl, _, h2⟩ := h
    obtain ⟨u, e1, e2⟩ := Rps.get (i := i) h2 (by simpa using e)
    exact ⟨u, by simpa using e1, e2⟩
theorem Rps.get' : ∀ {xs : List PV} {vs : List V} {i : Nat} {v : V}, Rps K m H xs vs → vs[i]? = some v → ∃ x, xs[i]? = some x ∧ Rp K m H x v := by
  intro xs vs i v h e
  have hl : i < vs.length := (List.getElem?_eq_some_iff.mp e).1
  rw [h.length] at hl
  obtain ⟨u, e1, e2⟩ := h.get (List.getElem?_eq_getElem hl)
  rw [e] at e1
  cases e1
  exact ⟨_, List.getElem?_eq_getElem hl, e2⟩
theorem Rps.append : ∀ {xs ys : List PV} {vs us : List V}, Rps K m H xs vs → Rps K m H ys us → Rps K m H (xs ++ ys) (vs ++ us)
  | [], ys, vs, us, h, h' => by
    have e : vs = [] := h
    subst e
    exact h'
  | x :: xs, ys, vs, us, h, h' => by
    obtain ⟨v, r, rfl, h1, h2⟩ := h
    exact ⟨v, r ++ us, rfl, h1, Rps.append h2 h'⟩
theorem Rps.take : ∀ {xs : List PV} {vs : List V} (k : Nat), Rps K m H xs vs → Rps K m H (xs.take k) (vs.take k)
  | xs, vs, 0, h => by
    show [] = _ <;> simp
  | [], vs, k + 1, h => by
    have e : vs = [] := h
    subst e
    exact rfl
  | x :: xs, vs, k + 1, h => by
    obtain ⟨v, r, rfl, h1, h2⟩ := h
    exact ⟨v, r.take k, rfl, h1, Rps.take k h2⟩
theorem Rps.drop : ∀ {xs : List PV} {vs : List V} (k : Nat), Rps K m H xs vs → Rps K m H (xs.drop k) (vs.drop k)
  | xs, vs, 0, h => h
  | [], vs, k + 1, h => by
    have e : vs = [] := h
    subst e
    exact rfl
  | x :: xs, vs, k + 1, h => by
    obtain ⟨v, r, rfl, h1, h2⟩ := h
    exact Rps.drop k h2
theorem Rps.set : ∀ {xs : List PV} {vs : List V} {x : PV} {v : V} (k : Nat), Rps K m H xs vs → Rp K m H x v → Rps K m H (xs.set k x) (vs.set k v)
  | [], vs, x, v, k, h, _ => by
    have e : vs = [] := h
    subst e
    exact rfl
  | y :: xs, vs, x, v, 0, h, h' => by
    obtain ⟨u, r, rfl, _, h2⟩ := h
    exact ⟨v, r, rfl, h', h2⟩
  | y :: xs, vs, x, v, k + 1, h, h' => by
    obtain ⟨u, r, rfl, h1, h2⟩ := h
    exact ⟨u, r.set k v, rfl, h1, Rps.set k h2 h'⟩
theorem Rps.reverse : ∀ {xs : List PV} {vs : List V}, Rps K m H xs vs → Rps K m H xs.reverse vs.reverse
  | [], vs, h => by
    have e : vs = [] := h
    subst e
    exact rfl
  | x :: xs, vs, h => by
    obtain ⟨v, r, rfl, h1, h2⟩ := h
    rw [List.reverse_cons, List.reverse_cons]
    exact Rps.append (Rps.reverse h2) ⟨v, [], rfl, h1, rfl⟩
theorem Rps.one {x : PV} {v : V} (h : Rp K m H x v) : Rps K m H [x] [v] := ⟨v, [], rfl, h, rfl⟩

/-! ### keys of dicts -/
def keyOf : PV → Option Key
  | .int i => some (.inl i)
  | .str x => some (.inr x)
  | _ => none
def keysOf : List PV → Option (List Key)
  | [] => some []
  | x :: xs => match keyOf x, keysOf xs with
    | some k, some ks => some (k :: ks)
    | _, _ => none
def tkeyOf : PV → Option (List Key)
  | .tup xs => keysOf xs
  | _ => none
def KvK (K : PySem.W.Frag) (m : Mp) (H : Hp) : List (PV × PV) → List (Key × V) → Prop
  | [], l => l = []
  | p :: ps, l => ∃ q r, l = q :: r ∧ keyOf p.1 = some q.1 ∧ Rp K m H p.2 q.2 ∧ KvK K m H ps r
def KvT (K : PySem.W.Frag) (m : Mp) (H : Hp) : List (PV × PV) → List (List Key × V) → Prop
  | [], l => l = []
  | p :: ps, l => ∃ q r, l = q :: r ∧ tkeyOf p.1 = some q.1 ∧ Rp K m H p.2 q.2 ∧ KvT K m H ps r
def FsR (K : PySem.W.Frag) (m : Mp) (H : Hp) : List (Str × PV) → List (Str × V) → Prop
  | [], l => l = []
  | p :: ps, l => ∃ q r, l = q :: r ∧ p.1 = q.1 ∧ Rp K m H p.2 q.2 ∧ FsR K m H ps r
/-- the address of a module's class -/
def ca (mg : Str → Option Value) (x : Str) : Addr := match mg x with
  | some (.ref a) => a
  | _ => 0
def ObR (K : PySem.W.Frag) (mg : Str → Option Value) (m : Mp) (H : Hp) (a : Addr) : PO → Prop
  | .lst xs => ∃ vs, H a = some (.lst vs) ∧ Rps K m H xs vs
  | .dic false kvs => (∃ l, H a = some (.dK l) ∧ KvK K m H kvs l) ∨ ∃ l, H a = some (.dT l) ∧ KvT K m H kvs l
  | .dic true kvs => (∃ o l, H a = some (.frz o (.dK l)) ∧ KvK K m H kvs l) ∨ ∃ o l, H a = some (.frz o (.dT l)) ∧ KvT K m H kvs l
  | .ins C fs => ∃ dx l, H a = some (.ins (ca mg C) dx l) ∧ FsR K m H fs l
structure Rel (K : PySem.W.Frag) (mg : Str → Option Value) (m : Mp) (S : Store) (H : Hp) : Prop where
  inj : ∀ (i j : Nat), i < S.length → j < S.length → m i = m j → i = j
  ob : ∀ (i : Nat) (o : PO), S[i]? = some o → ObR K mg m H (m i) o
  wf : ∀ (i : Nat) (o : PO), S[i]? = some o → bndO S.length o = true
theorem KvK.ext0 (e : Ext0 K n m H m' H') : ∀ (kvs : List (PV × PV)) (l : List (Key × V)), bnds n (kvs.map (·.2)) = true → KvK K m H kvs l → KvK K m' H' kvs l
  | [], l, _, h => h
  | p :: ps, l, b, h => by
    obtain ⟨q, r, e0, h1, h2, h3⟩ := h
    have b' := Bool.and_eq_true_iff.mp b
    exact ⟨q, r, e0, h1, Rp.ext0 e _ _ b'.1 h2, KvK.ext0 e ps r b'.2 h3⟩
theorem KvT.ext0 (e : Ext0 K n m H m' H') : ∀ (kvs : List (PV × PV)) (l : List (List Key × V)), bnds n (kvs.map (·.2)) = true → KvT K m H kvs l → KvT K m' H' kvs l
  | [], l, _, h => h
  | p :: ps, l, b, h => by
    obtain ⟨q, r, e0, h1, h2, h3⟩ := h
    have b' := Bool.and_eq_true_iff.mp b
    exact ⟨q, r, e0, h1, Rp.ext0 e _ _ b'.1 h2, KvT.ext0 e ps r b'.2 h3⟩
theorem FsR.ext0 (e : Ext0 K n m H m' H') : ∀ (kvs : List (Str × PV)) (l : List (Str × V)), bnds n (kvs.map (·.2)) = true → FsR K m H kvs l → FsR K m' H' kvs l
  | [], l, _, h => h
  | p :: ps, l, b, h => by
    obtain ⟨q, r, e0, h1, h2, h3⟩ := h
    have b' := Bool.and_eq_true_iff.mp b
    exact ⟨q, r, e0, h1, Rp.ext0 e _ _ b'.1 h2, FsR.ext0 e ps r b'.2 h3⟩
/-- an object's own place keeps its content, the rest goes on -/
theorem ObR.ext0 {mg : Str → Option Value} (e : Ext0 K n m H m' H') {a : Addr} (ha : H' a = H a) : ∀ (o : PO), bndO n o = true → ObR K mg m H a o → ObR K mg m' H' a o
  | .lst xs, b, h => by
    obtain ⟨vs, h1, h2⟩ := h
    exact ⟨vs, ha.trans h1, h2.ext0 e xs vs b⟩
  | .dic false kvs, b, h => by
    rcases h with ⟨l, h1, h2⟩ | ⟨l, h1, h2⟩
    · exact .inl ⟨l, ha.trans h1, KvK.ext0 e kvs l b h2⟩
    · exact .inr ⟨l, ha.trans h1, KvT.ext0 e kvs l b h2⟩
  | .dic true kvs, b, h => by
    rcases h with ⟨o, l, h1, h2⟩ | ⟨o, l, h1, h2⟩
    · exact .inl ⟨o, l, ha.trans h1, KvK.ext0 e kvs l b h2⟩
    · exact .inr ⟨o, l, ha.trans h1, KvT.ext0 e kvs l b h2⟩
  | .ins C fs, b, h => by
    obtain ⟨dx, l, h1, h2⟩ := h
    exact ⟨dx, l, ha.trans h1, FsR.ext0 e fs l b h2⟩
theorem KvK.ext (e : Ext K n m H m' H') (kvs : List (PV × PV)) (l : List (Key × V)) (b : bnds n (kvs.map (·.2)) = true) (h : KvK K m H kvs l) : KvK K m' H' kvs l := KvK.ext0 e.e0 kvs l b h
theorem KvT.ext (e : Ext K n m H m' H') (kvs : List (PV × PV)) (l : List (List Key × V)) (b : bnds n (kvs.map (·.2)) = true) (h : KvT K m H kvs l) : KvT K m' H' kvs l := KvT.ext0 e.e0 kvs l b h
theorem FsR.ext (e : Ext K n m H m' H') (kvs : List (Str × PV)) (l : List (Str × V)) (b : bnds n (kvs.map (·.2)) = true) (h : FsR K m H kvs l) : FsR K m' H' kvs l := FsR.ext0 e.e0 kvs l b h
theorem ObR.ext {mg : Str → Option Value} (e : Ext K n m H m' H') {a : Addr} (ha : H' a = H a) (o : PO) (b : bndO n o = true) (h : ObR K mg m H a o) : ObR K mg m' H' a o := ObR.ext0 e.e0 ha o b h
/-- a place that is no tuple, no exception's dict, nothing frozen that is a list -/
def Wr (H : Hp) (a : Addr) : Prop := ∀ o, H a = some o → (∀ xs, o ≠ .tup xs) ∧ (∀ fs, o ≠ .xd fs) ∧ (∀ ob u, o ≠ .frz ob u)
theorem ObR.some {mg : Str → Option Value} {a : Addr} : ∀ {o : PO}, ObR K mg m H a o → ∃ u, H a = some u
  | .lst xs, h => by
    obtain ⟨vs, h1, _⟩ := h
    exact ⟨_, h1⟩
  | .dic false kvs, h => by
    rcases h with ⟨l, h1, h2⟩ | ⟨l, h1, h2⟩
    · exact ⟨_, h1⟩
    · exact ⟨_, h1⟩
  | .dic true kvs, h => by
    rcases h with ⟨o, l, h1, h2⟩ | ⟨o, l, h1, h2⟩
    · exact ⟨_, h1⟩
    · exact ⟨_, h1⟩
  | .ins C fs, h => by
    obtain ⟨dx, l, h1, _⟩ := h
    exact ⟨_, h1⟩
theorem ObR.wr {mg : Str → Option Value} {a : Addr} : ∀ {o : PO}, ObR K mg m H a o → (∀ kvs, o ≠ .dic true kvs) → Wr H a
  | .lst xs, h, _ => by
    obtain ⟨vs, h1, _⟩ := h
    intro o e
    rw [h1] at e
    cases e
    exact ⟨(fun _ z => by cases z), (fun _ z => by cases z), (fun _ _ z => by cases z)⟩
  | .dic false kvs, h, _ => by
    intro o e
    rcases h with ⟨l, h1, h2⟩ | ⟨l, h1, h2⟩ <;>
    · rw [h1] at e
      cases e
      exact ⟨(fun _ z => by cases z), (fun _ z => by cases z), (fun _ _ z => by cases z)⟩
  | .dic true kvs, _, hl => (hl kvs rfl).elim
  | .ins C fs, h, _ => by
    obtain ⟨dx, l, h1, _⟩ := h
    intro o e
    rw [h1] at e
    cases e
    exact ⟨(fun _ z => by cases z), (fun _ z => by cases z), (fun _ _ z => by cases z)⟩
/-- nothing that is tracked changes but at a, which holds no tuple and nothing frozen -/
theorem ext_upd {a : Addr} {u : HO} (ha : Wr H a) (mi : ∀ i, i < n → m' i = m i) : Ext K n m H m' (upd H a u) := by
  refine ⟨mi, fun b xs h => ?_, fun b xs h => ?_, fun b xs h => ?_, fun b o u h => ?_⟩
  · have hb : b ≠ a := fun z => by
      rw [z] at h
      exact (ha _ h).1 _ rfl
    rw [upd_ne hb]; exact h
  · have hb : b ≠ a := fun z => by
      rw [z] at h
      exact (ha _ h).2.1 _ rfl
    rw [upd_ne hb]; exact h
  · rcases h with ⟨o, h⟩ | h
    · have hb : b ≠ a := fun z => by
        rw [z] at h
        exact (ha _ h).2.2 _ _ rfl
      exact .inl ⟨o, by rw [upd_ne hb]; exact h⟩
    · exact .inr h
  · have hb : b ≠ a := fun z => by
      rw [z] at h
      exact (ha _ h).2.2 _ _ rfl
    rw [upd_ne hb]; exact h
theorem ext_new {a : Addr} {u : HO} (ha : H a = none) (mi : ∀ i, i < n → m' i = m i) : Ext K n m H m' (upd H a u) :=
  ext_upd (fun o q => by rw [ha] at q; cases q) mi
variable {mg : Str → Option Value} {S : Store}
theorem Rel.ne_new (r : Rel K mg m S H) {a : Addr} (ha : H a = none) {i : Nat} (hi : i < S.length) : m i ≠ a := fun z => by
  obtain ⟨u, h⟩ := (r.ob i S[i] (List.getElem?_eq_getElem hi)).some
  rw [z, ha] at h
  cases h
/-- a tuple (or what is not of the store) is laid -/
theorem Rel.newT (r : Rel K mg m S H) {a : Addr} {u : HO} (ha : H a = none) : Rel K mg m S (upd H a u) :=
  ⟨r.inj, fun i o e => (r.ob i o e).ext (ext_new (n := S.length) ha fun _ _ => rfl) (upd_ne (r.ne_new ha (List.getElem?_eq_some_iff.mp e).1)) o (r.wf i o e), r.wf⟩
def mNew (m : Mp) (n : Nat) (a : Addr) : Mp := fun i => if i = n then a else m i
theorem mNew_at {a : Addr} : mNew m n a n = a := by unfold mNew; rw [if_pos rfl]
theorem mNew_lt {a : Addr} {i : Nat} (h : i < n) : mNew m n a i = m i := by unfold mNew; rw [if_neg (by omega)]
/-- a new object of the store -/
theorem Rel.newO (r : Rel K mg m S H) {a : Addr} {u : HO} {o : PO} (ha : H a = none) (hb : bndO (S.length + 1) o = true) (ho : ObR K mg (mNew m S.length a) (upd H a u) a o) : Rel K mg (mNew m S.length a) (S ++ [o]) (upd H a u) := by
  refine ⟨fun i j hi hj e => ?_, fun i p e => ?_, fun i p e => ?_⟩
  · rw [List.length_append, List.length_singleton] at hi hj
    by_cases h1 : i = S.length
    · by_cases h2 : j = S.length
      · omega
      · have hj' : j < S.length := by omega
        rw [h1, mNew_at, mNew_lt hj'] at e
        exact absurd e.symm (r.ne_new ha hj')
    · have hi' : i < S.length := by omega
      by_cases h2 : j = S.length
      · rw [h2, mNew_at, mNew_lt hi'] at e
        exact absurd e (r.ne_new ha hi')
      · have hj' : j < S.length := by omega
        rw [mNew_lt hi', mNew_lt hj'] at e
        exact r.inj i j hi' hj' e
  · by_cases h1 : i < S.length
    · rw [List.getElem?_append_left h1] at e
      rw [mNew_lt h1]
      exact (r.ob i p e).ext (ext_new (n := S.length) ha fun i hi => mNew_lt hi) (upd_ne (r.ne_new ha h1)) p (r.wf i p e)
    · have h2 := (List.getElem?_eq_some_iff.mp e).1
      rw [List.length_append, List.length_singleton] at h2
      have h3 : i = S.length := by omega
      subst h3
      rw [List.getElem?_append_right (Nat.le_refl _), Nat.sub_self] at e
      have e' : o = p := Option.some.inj e
      subst e'
      rw [mNew_at]
      exact ho
  · rw [List.length_append, List.length_singleton]
    by_cases h1 : i < S.length
    · rw [List.getElem?_append_left h1] at e
      exact bndO_mono (Nat.le_succ _) p (r.wf i p e)
    · have h2 := (List.getElem?_eq_some_iff.mp e).1
      rw [List.length_append, List.length_singleton] at h2
      have h3 : i = S.length := by omega
      subst h3
      rw [List.getElem?_append_right (Nat.le_refl _), Nat.sub_self] at e
      have e' : o = p := Option.some.inj e
      subst e'
      exact hb
/-- an object of the store is written -/
theorem Rel.write (r : Rel K mg m S H) {k : Nat} {u : HO} {o q : PO} (hq : S[k]? = some q) (hl : ∀ kvs, q ≠ .dic true kvs) (hb : bndO S.length o = true) (ho : ObR K mg m (upd H (m k) u) (m k) o) : Rel K mg m (S.set k o) (upd H (m k) u) := by
  have hk := (List.getElem?_eq_some_iff.mp hq).1
  have he : Ext K S.length m H m (upd H (m k) u) := ext_upd ((r.ob k _ hq).wr hl) fun _ _ => rfl
  refine ⟨fun i j hi hj e => ?_, fun i p e => ?_, fun i p e => ?_⟩
  · rw [List.length_set] at hi hj
    exact r.inj i j hi hj e
  · by_cases h : k = i
    · subst h
      rw [List.getElem?_set_self hk] at e
      cases e
      exact ho
    · rw [List.getElem?_set_ne h] at e
      have hi := (List.getElem?_eq_some_iff.mp e).1
      exact (r.ob i p e).ext he (upd_ne fun z => h (r.inj k i hk hi z.symm)) p (r.wf i p e)
  · rw [List.length_set]
    by_cases h : k = i
    · subst h
      rw [List.getElem?_set_self hk] at e
      cases e
      exact hb
    · rw [List.getElem?_set_ne h] at e
      exact r.wf i p e
theorem Rel.ext_write (r : Rel K mg m S H) {k : Nat} {u : HO} {q : PO} (hq : S[k]? = some q) (hl : ∀ kvs, q ≠ .dic true kvs) : Ext K S.length m H m (upd H (m k) u) := ext_upd ((r.ob k _ hq).wr hl) fun _ _ => rfl
end
end TL

set_option Elab.async false
set_option linter.all false
set_option maxRecDepth 100000
set_option maxHeartbeats 1000000
/-! TL1: what an expression does on the store (Res), its reading in the layer (rdE, rdT, rdA), the rules of expressions. -/
namespace TL
open PySem PySem.Spec PyProof.Rows L2

inductive Res (α : Type) where
  | ok (x : α) (S : Store)
  | exc (c : Str) (p : Option (Str × PV)) (S : Store)
  | stuck
def Res.bind {α β : Type} (r : Res α) (k : α → Store → Res β) : Res β := match r with
  | .ok x S => k x S
  | .exc c p S => .exc c p S
  | .stuck => .stuck
theorem bind_ok {α β : Type} {x : α} {S : Store} {k : α → Store → Res β} : (Res.ok x S).bind k = k x S := rfl
theorem bind_exc {α β : Type} {c : Str} {p : Option (Str × PV)} {S : Store} {k : α → Store → Res β} : (Res.exc c p S).bind k = .exc c p S := rfl
theorem bind_stuck {α β : Type} {k : α → Store → Res β} : (Res.stuck : Res α).bind k = .stuck := rfl
abbrev Sl := List (Option PV)
abbrev CE (α : Type) := Sl → Store → Res α

def EnvR (K : PySem.W.Frag) (n : Nat) (m : Mp) (H : Hp) (ρ : Sl) (σ : L2.St) : Prop :=
  ρ.length = σ.length ∧ ∀ (i : Nat) (x : PV), ρ[i]? = some (some x) → bnd n x = true ∧ ∃ v, σ[i]? = some (some v) ∧ Rp K m H x v
structure At (K : PySem.W.Frag) (mg : Str → Option Value) (m : Mp) (S : Store) (H : Hp) (ρ : Sl) (σ : L2.St) : Prop where
  rel : Rel K mg m S H
  env : EnvR K S.length m H ρ σ
section
variable {K : PySem.W.Frag} {mg : Str → Option Value} {n n' : Nat} {m m' : Mp} {H H' : Hp} {S S' : Store} {ρ : Sl} {σ : L2.St}
theorem EnvR.ext (h : EnvR K n m H ρ σ) (e : Ext K n m H m' H') (l : n ≤ n') : EnvR K n' m' H' ρ σ :=
  ⟨h.1, fun i x q => by
    obtain ⟨b, v, e1, r⟩ := h.2 i x q
    exact ⟨bnd_mono l x b, v, e1, r.ext e x v b⟩⟩
theorem EnvR.set (h : EnvR K n m H ρ σ) {i : Nat} {x : PV} {v : V} (b : bnd n x = true) (r : Rp K m H x v) : EnvR K n m H (ρ.set i (some x)) (σ.set i (some v)) := by
  refine ⟨by rw [List.length_set, List.length_set]; exact h.1, fun j y q => ?_⟩
  by_cases hj : i = j
  · subst hj
    have hl : i < ρ.length := by
      have := (List.getElem?_eq_some_iff.mp q).1
      rw [List.length_set] at this
      exact this
    rw [List.getElem?_set_self hl] at q
    cases q
    exact ⟨b, v, by rw [List.getElem?_set_self (by rw [← h.1]; exact hl)], r⟩
  · rw [List.getElem?_set_ne hj] at q
    rw [List.getElem?_set_ne hj]
    exact h.2 j y q
/-- forgetting a slot -/
theorem EnvR.drop (h : EnvR K n m H ρ σ) {i : Nat} : EnvR K n m H (ρ.set i none) σ := by
  refine ⟨by rw [List.length_set]; exact h.1, fun j y q => ?_⟩
  by_cases hj : i = j
  · subst hj
    have hl : i < ρ.length := by
      have := (List.getElem?_eq_some_iff.mp q).1
      rw [List.length_set] at this
      exact this
    rw [List.getElem?_set_self hl] at q
    cases q
  · rw [List.getElem?_set_ne hj] at q
    exact h.2 j y q
theorem EnvR.setN (h : EnvR K n m H ρ σ) {i : Nat} {w : Option V} : EnvR K n m H (ρ.set i none) (σ.set i w) := by
  refine ⟨by rw [List.length_set, List.length_set]; exact h.1, fun j y q => ?_⟩
  by_cases hj : i = j
  · subst hj
    have hl : i < ρ.length := by
      have := (List.getElem?_eq_some_iff.mp q).1
      rw [List.length_set] at this
      exact this
    rw [List.getElem?_set_self hl] at q
    cases q
  · rw [List.getElem?_set_ne hj] at q
    rw [List.getElem?_set_ne hj]
    exact h.2 j y q
end

abbrev RR (α β : Type) := Nat → Mp → Hp → α → β → Prop
def RV (K : PySem.W.Frag) : RR PV V := fun n m H x v => bnd n x = true ∧ Rp K m H x v
def RL (K : PySem.W.Frag) : RR (List PV) (List V) := fun n m H x v => bnds n x = true ∧ Rps K m H x v
def RB : RR Bool Bool := fun _ _ _ b c => b = c
def RO : RR (Option Int) (Option Int) := fun _ _ _ b c => b = c
def Stb (K : PySem.W.Frag) {α β : Type} (R : RR α β) : Prop := ∀ {n n' : Nat} {m m' : Mp} {H H' : Hp} {x : α} {v : β}, Ext K n m H m' H' → n ≤ n' → R n m H x v → R n' m' H' x v
theorem stbV {K : PySem.W.Frag} : Stb K (RV K) := fun e l h => ⟨bnd_mono l _ h.1, h.2.ext e _ _ h.1⟩
theorem stbL {K : PySem.W.Frag} : Stb K (RL K) := fun e l h => ⟨bnds_mono l _ h.1, h.2.ext e _ _ h.1⟩
theorem stbB {K : PySem.W.Frag} : Stb K RB := fun _ _ h => h
theorem stbO {K : PySem.W.Frag} : Stb K RO := fun _ _ h => h

/-- what an exception carries -/
def XR (K : PySem.W.Frag) (n : Nat) (m : Mp) (H : Hp) : Option (Str × PV) → Option Addr → Prop
  | .none, d => d = .none
  | .some p, d => ∃ dd v, d = .some dd ∧ H dd = .some (.xd [(p.1, v)]) ∧ RV K n m H p.2 v
/-- what is wanted behind r, begun at (m, S, H) -/
def Fin (K : PySem.W.Frag) (mg : Str → Option Value) (W : WX) (σ : L2.St) (m : Mp) (S : Store) (H : Hp) {α β : Type} (R : RR α β) (Q : β → Hp → Prop) : Res α → Prop
  | .ok x S' => ∀ (m' : Mp) (H' : Hp) (v : β), Ext K S.length m H m' H' → S.length ≤ S'.length → Rel K mg m' S' H' → R S'.length m' H' x v → Q v H'
  | .exc c p S' => ∀ (m' : Mp) (H' : Hp) (d : Option Addr), Ext K S.length m H m' H' → S.length ≤ S'.length → Rel K mg m' S' H' → XR K S'.length m' H' p d → W (.ref (ca mg c)) d σ H'
  | .stuck => False
section
variable {K : PySem.W.Frag} {mg : Str → Option Value} {W : WX} {σ : L2.St} {m m1 : Mp} {S S1 : Store} {H H1 : Hp} {α β γ δ : Type} {R : RR α β} {R' : RR γ δ} {Q Q' : β → Hp → Prop}
theorem Fin.mono {r : Res α} (h : Fin K mg W σ m S H R Q r) (q : ∀ v H, Q v H → Q' v H) : Fin K mg W σ m S H R Q' r := by
  cases r with
  | ok x S' => exact fun m' H' v e l r rr => q _ _ (h m' H' v e l r rr)
  | exc c p S' => exact h
  | stuck => exact h
theorem Fin.from {r : Res α} (h : Fin K mg W σ m S H R Q r) (e : Ext K S.length m H m1 H1) (l : S.length ≤ S1.length) : Fin K mg W σ m1 S1 H1 R Q r := by
  cases r with
  | ok x S' => exact fun m' H' v e' l' r rr => h m' H' v (e.trans e' l) (Nat.le_trans l l') r rr
  | exc c p S' => exact fun m' H' d e' l' r => h m' H' d (e.trans e' l) (Nat.le_trans l l') r
  | stuck => exact h
theorem Fin.here {x : α} {v : β} (h : Fin K mg W σ m S H R Q (.ok x S)) (r : Rel K mg m S H) (q : R S.length m H x v) : Q v H :=
  h m H v Ext.refl (Nat.le_refl _) r q
/-- what goes on behind the first part -/
def Go (K : PySem.W.Frag) (mg : Str → Option Value) (W : WX) (ρ : Sl) (σ : L2.St) (m : Mp) (S : Store) (H : Hp) {α β γ δ : Type} (R : RR α β) (R' : RR γ δ) (Q : δ → Hp → Prop) (k : α → Store → Res γ) : β → Hp → Prop := fun v H1 =>
  ∃ m1 S1 x, At K mg m1 S1 H1 ρ σ ∧ R S1.length m1 H1 x v ∧ Ext K S.length m H m1 H1 ∧ S.length ≤ S1.length ∧ Fin K mg W σ m1 S1 H1 R' Q (k x S1)
theorem Fin.bind {ρ : Sl} {r : Res α} {k : α → Store → Res γ} {Q : δ → Hp → Prop} (a : At K mg m S H ρ σ) (h : Fin K mg W σ m S H R' Q (r.bind k)) : Fin K mg W σ m S H R (Go K mg W ρ σ m S H R R' Q k) r := by
  cases r with
  | ok x S1 => exact fun m1 H1 v e l r rr => ⟨m1, S1, x, ⟨r, a.env.ext e l⟩, rr, e, l, Fin.from h e l⟩
  | exc c p S' => exact h
  | stuck => exact h
end
def rdE (K : PySem.W.Frag) (mg : Str → Option Value) (W : WX) (c : CE PV) : TE := fun σ H Q => ∃ m S ρ, At K mg m S H ρ σ ∧ Fin K mg W σ m S H (RV K) Q (c ρ S)
def rdT (K : PySem.W.Frag) (mg : Str → Option Value) (W : WX) (c : CE Bool) : TT := fun σ H Q => ∃ m S ρ, At K mg m S H ρ σ ∧ Fin K mg W σ m S H RB Q (c ρ S)
def rdA (K : PySem.W.Frag) (mg : Str → Option Value) (W : WX) (c : CE (List PV)) : TA := fun σ H Q => ∃ m S ρ, At K mg m S H ρ σ ∧ Fin K mg W σ m S H (RL K) Q (c ρ S)
def rdO (K : PySem.W.Frag) (mg : Str → Option Value) (W : WX) (c : CE (Option Int)) : TO := fun σ H Q => ∃ m S ρ, At K mg m S H ρ σ ∧ Fin K mg W σ m S H RO Q (c ρ S)

abbrev DE (X : Cx) (W : WX) (e : Expr) (c : CE PV) : Prop := PE X e (rdE X.K X.mg W c)
abbrev DT (X : Cx) (W : WX) (e : Expr) (c : CE Bool) : Prop := PT X e (rdT X.K X.mg W c)
abbrev DW (X : Cx) (W : WX) (e : Expr) (c : CE Bool) : Prop := PW X e (rdT X.K X.mg W c)
abbrev DA (X : Cx) (W : WX) (es : List Expr) (c : CE (List PV)) : Prop := PA X es (rdA X.K X.mg W c)
abbrev DO (X : Cx) (W : WX) (e : Option Expr) (c : CE (Option Int)) : Prop := L2.PO X e (rdO X.K X.mg W c)

theorem pe_imp {X : Cx} {e : Expr} {t t' : TE} (h : PE X e t) (i : ∀ σ H Q, t' σ H Q → t σ H Q) : PE X e t' := ⟨fun pins s σ H Q I q => h.run pins s σ H Q I (i σ H Q q)⟩
theorem pt_imp {X : Cx} {e : Expr} {t t' : TT} (h : PT X e t) (i : ∀ σ H Q, t' σ H Q → t σ H Q) : PT X e t' := ⟨fun pins s σ H Q I q => h.run pins s σ H Q I (i σ H Q q)⟩
theorem pw_imp {X : Cx} {e : Expr} {t t' : TT} (h : PW X e t) (i : ∀ σ H Q, t' σ H Q → t σ H Q) : PW X e t' := ⟨fun wh pins s σ H Q I q => h.run wh pins s σ H Q I (i σ H Q q)⟩
theorem pa_imp {X : Cx} {e : List Expr} {t t' : TA} (h : PA X e t) (i : ∀ σ H Q, t' σ H Q → t σ H Q) : PA X e t' := ⟨fun p pins s σ H Q I q => h.run p pins s σ H Q I (i σ H Q q)⟩
theorem po_imp {X : Cx} {e : Option Expr} {t t' : TO} (h : L2.PO X e t) (i : ∀ σ H Q, t' σ H Q → t σ H Q) : L2.PO X e t' := ⟨fun pins s σ H Q I q => h.run pins s σ H Q I (i σ H Q q)⟩

/-! ### names, constants -/
def eVar (i : Nat) : CE PV := fun ρ S => match ρ[i]? with
  | some (some x) => .ok x S
  | _ => .stuck
def eK (x : PV) : CE PV := fun _ S => .ok x S
section
variable {X : Cx} {W : WX} {pos : Pos} {a b : Expr} {ca cb : CE PV}
theorem de_var (i : Nat) {x : Str} (hN : X.N[i]? = some x := by rfl) (hv : Vis X.env.scope x := by first | exact Or.inl rfl | exact Or.inr (Or.inl rfl) | exact Or.inr (Or.inr rfl)) (hd : (x == ("__debug__" : Str)) = false := by decide)
    (hcd : (x == ("__classdict__" : Str)) = false := by decide) : DE X W (.Name x pos) (eVar i) := by
  refine pe_imp (pe_var hN hv hd hcd) fun σ H Q h => ?_
  obtain ⟨m, S, ρ, at_, f⟩ := h
  unfold eVar at f
  cases e : ρ[i]? with
  | none => rw [e] at f; exact f.elim
  | some o =>
    rw [e] at f
    cases o with
    | none => exact f.elim
    | some x =>
      obtain ⟨hb, v, e1, r⟩ := at_.env.2 i x e
      exact ⟨v, e1, f.here at_.rel ⟨hb, r⟩⟩
theorem de_k {v : V} {x : PV} {e : Expr} (h : PE X e (tC v)) (b : ∀ n, bnd n x = true) (r : ∀ m H, Rp X.K m H x v) : DE X W e (eK x) := by
  refine pe_imp h fun σ H Q h => ?_
  obtain ⟨m, S, ρ, at_, f⟩ := h
  exact f.here at_.rel ⟨b _, r _ _⟩
theorem de_int {i j pos} : DE X W (.Constant (.int i) j pos) (eK (.int i)) := de_k pe_int (fun _ => rfl) fun _ _ => rfl
theorem de_bl {i j pos} : DE X W (.Constant (.bool i) j pos) (eK (.bl i)) := de_k pe_bl (fun _ => rfl) fun _ _ => rfl
theorem de_non {j pos} : DE X W (.Constant .none j pos) (eK .non) := de_k pe_non (fun _ => rfl) fun _ _ => rfl
theorem de_str {x j pos} : DE X W (.Constant (.str x) j pos) (eK (.str x)) := de_k pe_str (fun _ => rfl) fun _ _ => rfl

/-! ### two parts and an operation on their values -/
abbrev F2 := PV → PV → Store → Res PV
def eBin (f : F2) (ca cb : CE PV) : CE PV := fun ρ S => (ca ρ S).bind fun x S1 => (cb ρ S1).bind fun y S2 => f x y S2
def Op2 (K : PySem.W.Frag) (mg : Str → Option Value) (f : F2) (r : R2) : Prop := ∀ (W : WX) (σ : L2.St) (m : Mp) (S : Store) (H : Hp) (x y : PV) (v u : V) (Q : VK),
  Rel K mg m S H → RV K S.length m H x v → RV K S.length m H y u → Fin K mg W σ m S H (RV K) Q (f x y S) → r v u H Q
theorem rd_bin {f : F2} {r : R2} (h2 : Op2 X.K X.mg f r) (σ : L2.St) (H : Hp) (Q : VK) (h : rdE X.K X.mg W (eBin f ca cb) σ H Q) : tOp r (rdE X.K X.mg W ca) (rdE X.K X.mg W cb) σ H Q := by
  obtain ⟨m, S, ρ, at_, fin⟩ := h
  refine ⟨m, S, ρ, at_, (Fin.bind at_ fin).mono fun v H1 h1 => ?_⟩
  obtain ⟨m1, S1, x, at1, r1, e1, l1, f1⟩ := h1
  refine ⟨m1, S1, ρ, at1, (Fin.bind at1 f1).mono fun u H2 h2' => ?_⟩
  obtain ⟨m2, S2, y, at2, r2, e2, l2, f2⟩ := h2'
  exact h2 W σ m2 S2 H2 x y v u Q at2.rel (stbV e2 l2 r1) r2 f2
theorem de_op {op : Operator} {f : F2} {r : R2} (ho : OpR X (binaryOp op) r) (h2 : Op2 X.K X.mg f r) (ha : DE X W a ca) (hb : DE X W b cb) : DE X W (.BinOp a op b pos) (eBin f ca cb) :=
  pe_imp (pe_op ho ha hb) (rd_bin h2)
theorem de_cmp {op : CmpOp} {f : F2} {r : R2} (ho : OpR X (compareOp op) r) (h2 : Op2 X.K X.mg f r) (ha : DE X W a ca) (hb : DE X W b cb) (hm : behindInMarks op b = false := by first | exact nomark _ | rfl) : DE X W (.Compare a [op] [b] pos) (eBin f ca cb) :=
  pe_imp (pe_cmpR ho ha hb hm) (rd_bin h2)
/-- a value that ought to be a truth, as a test -/
def tBl (c : CE PV) : CE Bool := fun ρ S => (c ρ S).bind fun x S1 => match x with
  | .bl b => .ok b S1
  | _ => .stuck
theorem rd_tBl {c : CE PV} {t : TE} (i : ∀ σ H Q, rdE X.K X.mg W c σ H Q → t σ H Q) (σ : L2.St) (H : Hp) (Q : Bool → Hp → Prop) (h : rdT X.K X.mg W (tBl c) σ H Q) : t σ H fun x H' => ∃ k, x = .bl k ∧ Q k H' := by
  obtain ⟨m, S, ρ, at_, fin⟩ := h
  refine i _ _ _ ⟨m, S, ρ, at_, (Fin.bind at_ fin).mono fun v H1 h1 => ?_⟩
  obtain ⟨m1, S1, x, at1, r1, e1, l1, f1⟩ := h1
  cases x with
  | bl b =>
    have e : v = .bl b := r1.2
    exact ⟨b, e, f1.here at1.rel rfl⟩
  | _ => exact f1.elim
theorem dt_cmp {op : CmpOp} {f : F2} {r : R2} (ho : OpR X (compareOp op) r) (h2 : Op2 X.K X.mg f r) (ha : DE X W a ca) (hb : DE X W b cb) (hm : behindInMarks op b = false := by first | exact nomark _ | rfl) : DT X W (.Compare a [op] [b] pos) (tBl (eBin f ca cb)) :=
  pt_imp (pt_cmpR ho ha hb hm) fun σ H Q h => rd_tBl (t := tOp r (rdE X.K X.mg W ca) (rdE X.K X.mg W cb)) (rd_bin h2) σ H Q h
/-- a < b < c -/
def eChain (f g : F2) (ca cb cc : CE PV) : CE PV := fun ρ S => (ca ρ S).bind fun x S1 => (cb ρ S1).bind fun y S2 => (f x y S2).bind fun z S3 => match z with
  | .bl true => (cc ρ S3).bind fun u S4 => g y u S4
  | .bl false => .ok (.bl false) S3
  | _ => .stuck
theorem rd_chain {c : Expr} {cc : CE PV} {f g : F2} {r r' : R2} (h1 : Op2 X.K X.mg f r) (h2 : Op2 X.K X.mg g r') (σ : L2.St) (H : Hp) (Q : VK) (h : rdE X.K X.mg W (eChain f g ca cb cc) σ H Q) : tChain r r' (rdE X.K X.mg W ca) (rdE X.K X.mg W cb) (rdE X.K X.mg W cc) σ H Q := by
  obtain ⟨m, S, ρ, at_, fin⟩ := h
  refine ⟨m, S, ρ, at_, (Fin.bind at_ fin).mono fun v H1 q1 => ?_⟩
  obtain ⟨m1, S1, x, at1, r1, e1, l1, f1⟩ := q1
  refine ⟨m1, S1, ρ, at1, (Fin.bind at1 f1).mono fun u H2 q2 => ?_⟩
  obtain ⟨m2, S2, y, at2, r2, e2, l2, f2⟩ := q2
  refine h1 W σ m2 S2 H2 x y v u _ at2.rel (stbV e2 l2 r1) r2 ((Fin.bind at2 f2).mono fun z H3 q3 => ?_)
  obtain ⟨m3, S3, z', at3, r3, e3, l3, f3⟩ := q3
  cases z' with
  | bl b =>
    have ez : z = .bl b := r3.2
    refine ⟨b, ez, ?_⟩
    cases b with
    | false =>
      show (if false = true then _ else _)
      rw [if_neg Bool.false_ne_true]
      exact f3.here at3.rel ⟨rfl, rfl⟩
    | true =>
      show (if true = true then _ else _)
      rw [if_pos rfl]
      refine ⟨m3, S3, ρ, at3, (Fin.bind at3 f3).mono fun w H4 q4 => ?_⟩
      obtain ⟨m4, S4, t, at4, r4, e4, l4, f4⟩ := q4
      exact h2 W σ m4 S4 H4 y t u w Q at4.rel (stbV e4 l4 (stbV e3 l3 r2)) r4 f4
  | _ => exact f3.elim
end
end TL

set_option Elab.async false
set_option linter.all false
set_option maxRecDepth 100000
set_option maxHeartbeats 1000000
/-! TL2: operations on values. -/
namespace TL
open PySem PySem.Spec PyProof.Rows L2
section
variable {K : PySem.W.Frag} {mg : Str → Option Value} {W : WX} {σ : L2.St} {m : Mp} {S : Store} {H : Hp} {α β : Type} {Q : VK}
theorem Op2.or {f : F2} {r r' : R2} (h : ∀ (W : WX) (σ : L2.St) (m : Mp) (S : Store) (H : Hp) (x y : PV) (v u : V) (Q : VK),
    Rel K mg m S H → RV K S.length m H x v → RV K S.length m H y u → Fin K mg W σ m S H (RV K) Q (f x y S) → r v u H Q ∨ r' v u H Q) : Op2 K mg f (fun x y H Q => r x y H Q ∨ r' x y H Q) :=
  fun W σ m S H x y v u Q a b c d => h W σ m S H x y v u Q a b c d
/-- a new tuple -/
theorem Fin.tup {zs : List PV} {vs : List V} (f : Fin K mg W σ m S H (RV K) Q (.ok (.tup zs) S)) (r : Rel K mg m S H) (b : bnds S.length zs = true) (h : Rps K m H zs vs) {p : Addr} (hp : H p = none) : Q (.ref p) (upd H p (.tup vs)) := by
  have e : Ext K S.length m H m (upd H p (.tup vs)) := ext_new hp fun _ _ => rfl
  exact f m _ _ e (Nat.le_refl _) (r.newT hp) ⟨b, p, vs, rfl, upd_same, h.ext e zs vs b⟩
/-- a new list -/
theorem Fin.lst {zs : List PV} {vs : List V} (f : Fin K mg W σ m S H (RV K) Q (.ok (.obj S.length) (S ++ [.lst zs]))) (r : Rel K mg m S H) (b : bnds S.length zs = true) (h : Rps K m H zs vs) {p : Addr} (hp : H p = none) : Q (.ref p) (upd H p (.lst vs)) := by
  have e : Ext K S.length m H (mNew m S.length p) (upd H p (.lst vs)) := ext_new hp fun i hi => mNew_lt hi
  have l : S.length ≤ (S ++ [PO.lst zs]).length := by rw [List.length_append]; omega
  refine f (mNew m S.length p) _ _ e l (r.newO hp (bnds_mono (Nat.le_succ _) zs b) ⟨vs, upd_same, h.ext e zs vs b⟩) ⟨decide_eq_true ?_, ?_⟩
  · rw [List.length_append, List.length_singleton]; omega
  · show V.ref p = V.ref (mNew m S.length p S.length)
    rw [mNew_at]
theorem Fin.dicK {zs : List (PV × PV)} {vs : List (Key × V)} (f : Fin K mg W σ m S H (RV K) Q (.ok (.obj S.length) (S ++ [.dic false zs]))) (r : Rel K mg m S H) (b : bnds S.length (zs.map (·.2)) = true) (h : KvK K m H zs vs) {p : Addr} (hp : H p = none) : Q (.ref p) (upd H p (.dK vs)) := by
  have e : Ext K S.length m H (mNew m S.length p) (upd H p (.dK vs)) := ext_new hp fun i hi => mNew_lt hi
  have l : S.length ≤ (S ++ [PO.dic false zs]).length := by rw [List.length_append]; omega
  refine f (mNew m S.length p) _ _ e l (r.newO hp (bnds_mono (Nat.le_succ _) _ b) (.inl ⟨vs, upd_same, KvK.ext e zs vs b h⟩)) ⟨decide_eq_true ?_, ?_⟩
  · rw [List.length_append, List.length_singleton]; omega
  · show V.ref p = V.ref (mNew m S.length p S.length)
    rw [mNew_at]
/-- the list that stands at i in the store -/
theorem Rel.lst (r : Rel K mg m S H) {i : Nat} {xs : List PV} (e : S[i]? = some (.lst xs)) : bnds S.length xs = true ∧ ∃ vs, H (m i) = some (.lst vs) ∧ Rps K m H xs vs := ⟨r.wf i _ e, r.ob i _ e⟩
end

/-! ### arithmetic -/
def f2I (g : Int → Int → PV) : F2 := fun x y S => match x, y with
  | .int i, .int j => .ok (g i j) S
  | _, _ => .stuck
theorem op2_I {K : PySem.W.Frag} {mg : Str → Option Value} {g : Int → Int → PV} {g' : Int → Int → V} (hb : ∀ n i j, bnd n (g i j) = true) (hr : ∀ m H i j, Rp K m H (g i j) (g' i j)) : Op2 K mg (f2I g) (rI0 g') := by
  intro W σ m S H x y v u Q rel rx ry f
  unfold f2I at f
  cases x with
  | int i =>
    cases y with
    | int j => exact ⟨i, j, rx.2, ry.2, f.here rel ⟨hb _ _ _, hr _ _ _ _⟩⟩
    | _ => exact f.elim
  | _ => exact f.elim
def f2C (c : Int → Int → Bool) (g : Int → Int → Int) : F2 := fun x y S => match x, y with
  | .int i, .int j => if c i j = true then .ok (.int (g i j)) S else .stuck
  | _, _ => .stuck
theorem op2_C {K : PySem.W.Frag} {mg : Str → Option Value} {c : Int → Int → Bool} {C : Int → Int → Prop} {g : Int → Int → Int} (hc : ∀ i j, c i j = true → C i j) : Op2 K mg (f2C c g) (rI C fun i j => .int (g i j)) := by
  intro W σ m S H x y v u Q rel rx ry f
  unfold f2C at f
  cases x with
  | int i =>
    cases y with
    | int j =>
      by_cases h : c i j = true
      · have f' : Fin K mg W σ m S H (RV K) Q (if c i j = true then .ok (.int (g i j)) S else .stuck) := f
        rw [if_pos h] at f'
        exact ⟨i, j, rx.2, ry.2, hc i j h, f'.here rel ⟨rfl, rfl⟩⟩
      · have f' : Fin K mg W σ m S H (RV K) Q (if c i j = true then .ok (.int (g i j)) S else .stuck) := f
        rw [if_neg h] at f'
        exact f'.elim
    | _ => exact f.elim
  | _ => exact f.elim
/-- a + b: ints, texts, tuples, lists -/
def addV : F2 := fun x y S => match x, y with
  | .int i, .int j => .ok (.int (i + j)) S
  | .str a, .str b => if a.length + b.length ≤ sizeLine then .ok (.str (a ++ b)) S else .stuck
  | .tup a, .tup b => if a.length + b.length ≤ sizeLine then .ok (.tup (a ++ b)) S else .stuck
  | .kup a, .tup b => if a.length + b.length ≤ sizeLine ∧ a ≠ [] ∧ b ≠ [] then .ok (.tup (a ++ b)) S else .stuck
  | .obj i, .obj j => match S[i]?, S[j]? with
    | some (.lst a), some (.lst b) => if a.length + b.length ≤ sizeLine then .ok (.obj S.length) (S ++ [.lst (a ++ b)]) else .stuck
    | _, _ => .stuck
  | _, _ => .stuck
def rAddV (K : PySem.W.Frag) : R2 := fun x y H Q => rI0 (fun i j => .int (i + j)) x y H Q ∨ (∃ i j, x = .str i ∧ y = .str j ∧ i.length + j.length ≤ sizeLine ∧ Q (.str (i ++ j)) H) ∨ rCatA K x y H Q ∨ rCat x y H Q
theorem op_addV {X : Cx} : OpR X (binaryOp .Add) (rAddV X.K) := op_add.or (op_add_str.or (op_catA.or op_cat))
theorem op2_add {K : PySem.W.Frag} {mg : Str → Option Value} : Op2 K mg addV (rAddV K) := by
  intro W σ m S H x y v u Q rel rx ry f
  unfold addV at f
  cases x with
  | int i =>
    cases y with
    | int j => exact .inl ⟨i, j, rx.2, ry.2, f.here rel ⟨rfl, rfl⟩⟩
    | _ => exact f.elim
  | str a =>
    cases y with
    | str b =>
      simp only at f
      by_cases h : a.length + b.length ≤ sizeLine
      · rw [if_pos h] at f
        exact .inr (.inl ⟨a, b, rx.2, ry.2, h, f.here rel ⟨rfl, rfl⟩⟩)
      · rw [if_neg h] at f
        exact f.elim
    | _ => exact f.elim
  | tup a =>
    cases y with
    | tup b =>
      simp only at f
      obtain ⟨b1, p, vs, rfl, hp, hvs⟩ := rx
      obtain ⟨b2, q, us, rfl, hq, hus⟩ := ry
      have la := hvs.length
      have lb := hus.length
      by_cases h : a.length + b.length ≤ sizeLine
      · rw [if_pos h] at f
        refine .inr (.inr (.inl ⟨p, q, vs, us, rfl, rfl, SqT.of hp, SqT.of hq, by omega, fun e => ?_, fun e1 e2 => ?_, fun e1 e2 r hr => ?_⟩))
        · subst e
          have ea : a = [] := List.eq_nil_of_length_eq_zero (by rw [← la]; rfl)
          subst ea
          exact f.here rel ⟨b2, q, us, rfl, hq, hus⟩
        · subst e2
          have eb : b = [] := List.eq_nil_of_length_eq_zero (by rw [← lb]; rfl)
          subst eb
          rw [List.append_nil] at f
          exact f.here rel ⟨b1, p, vs, rfl, hp, hvs⟩
        · exact f.tup rel (bnds_append.mpr ⟨b1, b2⟩) (hvs.append hus) hr
      · rw [if_neg h] at f
        exact f.elim
    | _ => exact f.elim
  | kup a =>
    cases y with
    | tup b =>
      simp only at f
      obtain ⟨b1, p, vs, rfl, hp, hvs⟩ := rx
      obtain ⟨b2, q, us, rfl, hq, hus⟩ := ry
      have la := hvs.length
      have lb := hus.length
      by_cases h : a.length + b.length ≤ sizeLine ∧ a ≠ [] ∧ b ≠ []
      · rw [if_pos h] at f
        refine .inr (.inr (.inl ⟨p, q, vs, us, rfl, rfl, hp.t, SqT.of hq, by omega, fun e => ?_, fun e1 e2 => ?_, fun e1 e2 r hr => ?_⟩))
        · subst e
          exact absurd (List.eq_nil_of_length_eq_zero (by rw [← la]; rfl)) h.2.1
        · subst e2
          exact absurd (List.eq_nil_of_length_eq_zero (by rw [← lb]; rfl)) h.2.2
        · exact f.tup rel (bnds_append.mpr ⟨b1, b2⟩) (hvs.append hus) hr
      · rw [if_neg h] at f
        exact f.elim
    | _ => exact f.elim
  | obj i =>
    cases y with
    | obj j =>
      simp only at f
      have ex : v = .ref (m i) := rx.2
      have ey : u = .ref (m j) := ry.2
      cases ei : S[i]? with
      | none => rw [ei] at f; exact f.elim
      | some o =>
        rw [ei] at f
        cases o with
        | lst a =>
          cases ej : S[j]? with
          | none => rw [ej] at f; exact f.elim
          | some o' =>
            rw [ej] at f
            cases o' with
            | lst b =>
              simp only at f
              obtain ⟨b1, vs, h1, r1⟩ := rel.lst ei
              obtain ⟨b2, us, h2, r2⟩ := rel.lst ej
              have la := r1.length
              have lb := r2.length
              by_cases h : a.length + b.length ≤ sizeLine
              · rw [if_pos h] at f
                exact .inr (.inr (.inr ⟨m i, m j, vs, us, ex, ey, h1, h2, by omega, fun p hp => f.lst rel (bnds_append.mpr ⟨b1, b2⟩) (r1.append r2) hp⟩))
              · rw [if_neg h] at f
                exact f.elim
            | _ => exact f.elim
        | _ => exact f.elim
    | _ => exact f.elim
  | _ => exact f.elim
abbrev subV : F2 := f2I fun i j => .int (i - j)
theorem op2_sub {K : PySem.W.Frag} {mg : Str → Option Value} : Op2 K mg subV (rI0 fun i j => .int (i - j)) := op2_I (fun _ _ _ => rfl) fun _ _ _ _ => rfl
def mulOk (i j : Int) : Bool := (decide (i.natAbs < 2 ^ 64) || decide (j.natAbs < 2 ^ 64)) || decide (i.natAbs.log2 + j.natAbs.log2 < 1000000)
def CMulX (i j : Int) : Prop := IntMulOk i j
theorem mulOk_ok {i j : Int} (h : mulOk i j = true) : CMulX i j := by
  unfold mulOk at h
  rw [Bool.or_eq_true, Bool.or_eq_true] at h
  rcases h with (h | h) | h
  · have h' := of_decide_eq_true h
    exact CMul.ok (.inl (by omega))
  · have h' := of_decide_eq_true h
    exact CMul.ok (.inr (by omega))
  · have h' := of_decide_eq_true h
    exact CMulW.ok h'
/-- a * b: ints; a list some times over -/
def mulV : F2 := fun x y S => match x, y with
  | .int i, .int j => if mulOk i j = true then .ok (.int (i * j)) S else .stuck
  | .obj i, .int k => match S[i]? with
    | some (.lst a) => if -(2 ^ 63) ≤ k ∧ k < 2 ^ 63 ∧ a.length * k.toNat ≤ sizeLine then .ok (.obj S.length) (S ++ [.lst (List.replicate k.toNat a).flatten]) else .stuck
    | _ => .stuck
  | _, _ => .stuck
def rMulV : R2 := fun x y H Q => rI CMulX (fun i j => .int (i * j)) x y H Q ∨ rRep x y H Q
theorem op_mulV {X : Cx} : OpR X (binaryOp .Mult) rMulV := (opI fun _ _ _ _ _ _ _ hc q => mul_int q hc).or op_rep
theorem Rps.flat {K : PySem.W.Frag} {m : Mp} {H : Hp} {xs : List PV} {vs : List V} (h : Rps K m H xs vs) : ∀ k : Nat, Rps K m H (List.replicate k xs).flatten (List.replicate k vs).flatten
  | 0 => rfl
  | k + 1 => by
    rw [List.replicate_succ, List.replicate_succ, List.flatten_cons, List.flatten_cons]
    exact h.append (Rps.flat h k)
theorem bnds_flat {n : Nat} {xs : List PV} (h : bnds n xs = true) : ∀ k : Nat, bnds n (List.replicate k xs).flatten = true
  | 0 => rfl
  | k + 1 => by
    rw [List.replicate_succ, List.flatten_cons]
    exact bnds_append.mpr ⟨h, bnds_flat h k⟩
theorem op2_mul {K : PySem.W.Frag} {mg : Str → Option Value} : Op2 K mg mulV rMulV := by
  intro W σ m S H x y v u Q rel rx ry f
  unfold mulV at f
  cases x with
  | int i =>
    cases y with
    | int j =>
      simp only at f
      by_cases h : mulOk i j = true
      · rw [if_pos h] at f
        exact .inl ⟨i, j, rx.2, ry.2, mulOk_ok h, f.here rel ⟨rfl, rfl⟩⟩
      · rw [if_neg h] at f
        exact f.elim
    | _ => exact f.elim
  | obj i =>
    cases y with
    | int k =>
      simp only at f
      have ex : v = .ref (m i) := rx.2
      cases ei : S[i]? with
      | none => rw [ei] at f; exact f.elim
      | some o =>
        rw [ei] at f
        cases o with
        | lst a =>
          simp only at f
          obtain ⟨b1, vs, h1, r1⟩ := rel.lst ei
          have la := r1.length
          by_cases h : -(2 ^ 63) ≤ k ∧ k < 2 ^ 63 ∧ a.length * k.toNat ≤ sizeLine
          · rw [if_pos h] at f
            exact .inr ⟨m i, k, vs, ex, ry.2, h1, h.1, h.2.1, by rw [la]; exact h.2.2, fun p hp => f.lst rel (bnds_flat b1 _) (r1.flat _) hp⟩
          · rw [if_neg h] at f
            exact f.elim
        | _ => exact f.elim
    | _ => exact f.elim
  | _ => exact f.elim
def divOk (j : Int) : Bool := decide (j ≠ 0) && decide (j.natAbs.log2 < 9000)
def CDivX (_ j : Int) : Prop := j ≠ 0 ∧ j.natAbs.log2 < 9000
theorem op_fdivX {X : Cx} : OpR X (binaryOp .FloorDiv) (rI CDivX fun i j => .int (i.fdiv j)) := opI fun _ _ _ _ _ _ _ hc q => floordiv_int hc.1 q (.inl (PyProof.noPylong_of_log2 hc.2))
abbrev fdivV : F2 := f2C (fun _ j => divOk j) fun i j => i.fdiv j
theorem op2_fdiv {K : PySem.W.Frag} {mg : Str → Option Value} : Op2 K mg fdivV (rI CDivX fun i j => .int (i.fdiv j)) := op2_C fun i j h => by
  have h' := Bool.and_eq_true_iff.mp h
  exact ⟨of_decide_eq_true h'.1, of_decide_eq_true h'.2⟩
abbrev modV : F2 := f2C (fun _ j => decide (j ≠ 0)) fun i j => i.fmod j
theorem op2_mod {K : PySem.W.Frag} {mg : Str → Option Value} : Op2 K mg modV (rI (fun _ j => j ≠ 0) fun i j => .int (i.fmod j)) := op2_C fun i j h => of_decide_eq_true h
def powOk (i j : Int) : Bool := decide (0 ≤ j) && decide (j ≤ 1000000) && decide (i.natAbs < 2 ^ 64)
abbrev powV : F2 := f2C powOk fun i j => i ^ j.toNat
theorem op2_pow {K : PySem.W.Frag} {mg : Str → Option Value} : Op2 K mg powV (rI CPow fun i j => .int (i ^ j.toNat)) := op2_C fun i j h => by
  have h' := Bool.and_eq_true_iff.mp h
  have h2 := Bool.and_eq_true_iff.mp h'.1
  exact ⟨of_decide_eq_true h2.1, of_decide_eq_true h2.2, of_decide_eq_true h'.2⟩
/-! ### comparisons -/
abbrev ltV : F2 := f2I fun i j => .bl (decide (i < j))
abbrev leV : F2 := f2I fun i j => .bl (decide (i ≤ j))
abbrev gtV : F2 := f2I fun i j => .bl (decide (j < i))
abbrev geV : F2 := f2I fun i j => .bl (decide (j ≤ i))
theorem op2_lt {K : PySem.W.Frag} {mg : Str → Option Value} : Op2 K mg ltV (rI0 fun i j => .bl (decide (i < j))) := op2_I (fun _ _ _ => rfl) fun _ _ _ _ => rfl
theorem op2_le {K : PySem.W.Frag} {mg : Str → Option Value} : Op2 K mg leV (rI0 fun i j => .bl (decide (i ≤ j))) := op2_I (fun _ _ _ => rfl) fun _ _ _ _ => rfl
theorem op2_gt {K : PySem.W.Frag} {mg : Str → Option Value} : Op2 K mg gtV (rI0 fun i j => .bl (decide (j < i))) := op2_I (fun _ _ _ => rfl) fun _ _ _ _ => rfl
theorem op2_ge {K : PySem.W.Frag} {mg : Str → Option Value} : Op2 K mg geV (rI0 fun i j => .bl (decide (j ≤ i))) := op2_I (fun _ _ _ => rfl) fun _ _ _ _ => rfl
/-- the data that a value is -/
def dList (f : PV → Option PyData) : List PV → Option (List PyData)
  | [] => some []
  | x :: xs => match f x, dList f xs with
    | some d, some ds => some (d :: ds)
    | _, _ => none
def toD (S : Store) : Nat → PV → Option PyData
  | _, .non => some .none
  | _, .bl b => some (.bool b)
  | _, .int i => some (.int i)
  | _, .str x => some (.str x)
  | k + 1, .tup xs => (dList (toD S k) xs).map .tuple
  | k + 1, .kup xs => (dList (toD S k) xs).map .tuple
  | k + 1, .rol xs => (dList (toD S k) xs).map .list
  | k + 1, .obj i => match S[i]? with
    | some (.lst xs) => (dList (toD S k) xs).map .list
    | _ => none
  | _, _ => none
theorem dp_of {K : PySem.W.Frag} {mg : Str → Option Value} {m : Mp} {S : Store} {H : Hp} (r : Rel K mg m S H) : ∀ (k : Nat) (x : PV) (v : V) (d : PyData), Rp K m H x v → toD S k x = some d → Dp K H v d := by
  have all : ∀ (f : PV → Option PyData), (∀ x v d, Rp K m H x v → f x = some d → Dp K H v d) → ∀ (xs : List PV) (vs : List V) (ds : List PyData), Rps K m H xs vs → dList f xs = some ds → DpAll K H vs ds := by
    intro f hf xs
    induction xs with
    | nil =>
      intro vs ds h e
      have h' : vs = [] := h
      subst h'
      have e' : some [] = some ds := e
      cases e'
      exact .nil
    | cons x xs ih =>
      intro vs ds h e
      obtain ⟨v, r, rfl, h1, h2⟩ := h
      unfold dList at e
      cases e1 : f x with
      | none => rw [e1] at e; cases e
      | some d =>
        cases e2 : dList f xs with
        | none => rw [e1, e2] at e; cases e
        | some ds' =>
          rw [e1, e2] at e
          cases e
          exact .cons (hf x v d h1 e1) (ih r ds' h2 e2)
  intro k
  induction k with
  | zero =>
    intro x v d h e
    cases x with
    | non => cases e; have h' : v = .non := h; subst h'; exact .non
    | bl b => cases e; have h' : v = .bl b := h; subst h'; exact .bl b
    | int i => cases e; have h' : v = .int i := h; subst h'; exact .int i
    | str z => cases e; have h' : v = .str z := h; subst h'; exact .str z
    | _ => cases e
  | succ k ih =>
    intro x v d h e
    cases x with
    | non => cases e; have h' : v = .non := h; subst h'; exact .non
    | bl b => cases e; have h' : v = .bl b := h; subst h'; exact .bl b
    | int i => cases e; have h' : v = .int i := h; subst h'; exact .int i
    | str z => cases e; have h' : v = .str z := h; subst h'; exact .str z
    | tup xs =>
      obtain ⟨a, vs, rfl, h1, h2⟩ := h
      have e' : (dList (toD S k) xs).map PyData.tuple = some d := e
      cases q : dList (toD S k) xs with
      | none => rw [q] at e'; cases e'
      | some ds =>
        rw [q] at e'
        cases e'
        exact .tup (SqT.of h1) (all _ (fun x v d => ih x v d) xs vs ds h2 q)
    | kup xs =>
      obtain ⟨a, vs, rfl, h1, h2⟩ := h
      have e' : (dList (toD S k) xs).map PyData.tuple = some d := e
      cases q : dList (toD S k) xs with
      | none => rw [q] at e'; cases e'
      | some ds =>
        rw [q] at e'
        cases e'
        exact .tup h1.t (all _ (fun x v d => ih x v d) xs vs ds h2 q)
    | rol xs =>
      obtain ⟨a, vs, rfl, h1, h2⟩ := h
      have e' : (dList (toD S k) xs).map PyData.list = some d := e
      cases q : dList (toD S k) xs with
      | none => rw [q] at e'; cases e'
      | some ds =>
        rw [q] at e'
        cases e'
        exact .lst h1.l (all _ (fun x v d => ih x v d) xs vs ds h2 q)
    | obj i =>
      have h' : v = .ref (m i) := h
      subst h'
      cases ei : S[i]? with
      | none =>
        have e' : (match S[i]? with | some (.lst xs) => (dList (toD S k) xs).map PyData.list | _ => none) = some d := e
        rw [ei] at e'; cases e'
      | some o =>
        have e' : (match S[i]? with | some (.lst xs) => (dList (toD S k) xs).map PyData.list | _ => none) = some d := e
        rw [ei] at e'
        cases o with
        | lst xs =>
          obtain ⟨_, vs, h1, h2⟩ := r.lst ei
          simp only at e'
          cases q : dList (toD S k) xs with
          | none => rw [q] at e'; cases e'
          | some ds =>
            rw [q] at e'
            cases e'
            exact .lst (SqL.of h1) (all _ (fun x v d => ih x v d) xs vs ds h2 q)
        | _ => cases e'
    | fn a => cases e
    | ty n => cases e
def eqD (g : Bool → Bool) (x y : PV) (S : Store) : Res PV := match toD S 66 x, toD S 66 y with
  | some d, some e => if SeqAt.shaped d = true ∧ SeqAt.shaped e = true then .ok (.bl (g (PyData.eqv d e))) S else .stuck
  | _, _ => .stuck
def eqG (g : Bool → Bool) : F2 := fun x y S => match x, y with
  | .int i, .int j => .ok (.bl (g (decide (i = j)))) S
  | .str i, .str j => .ok (.bl (g (decide (i = j)))) S
  | x, y => eqD g x y S
abbrev eqV : F2 := eqG fun b => b
abbrev neV : F2 := eqG fun b => !b
def rEqX (K : PySem.W.Frag) (g : Bool → Bool) : R2 := fun x y H Q => (scal x y = true ∧ Q (.bl (g (decide (x = y)))) H) ∨ ∃ d e, Dp K H x d ∧ Dp K H y e ∧ SeqAt.shaped d = true ∧ SeqAt.shaped e = true ∧ Q (.bl (g (PyData.eqv d e))) H
theorem op_eqX {X : Cx} (hu : X.A.units + 64 < cLine) : OpR X (compareOp .Eq) (rEqX X.K fun b => b) := op_eq.or (op_eqD hu)
theorem op_neX {X : Cx} (hu : X.A.units + 64 < cLine) : OpR X (compareOp .NotEq) (rEqX X.K fun b => !b) := op_ne.or (op_neD hu)
theorem op2_eqG {K : PySem.W.Frag} {mg : Str → Option Value} (g : Bool → Bool) : Op2 K mg (eqG g) (rEqX K g) := by
  have gen : ∀ (W : WX) (σ : L2.St) (m : Mp) (S : Store) (H : Hp) (x y : PV) (v u : V) (Q : VK), Rel K mg m S H → RV K S.length m H x v → RV K S.length m H y u → Fin K mg W σ m S H (RV K) Q (eqD g x y S) → rEqX K g v u H Q := by
    intro W σ m S H x y v u Q rel rx ry f
    unfold eqD at f
    cases e1 : toD S 66 x with
    | none => rw [e1] at f; exact f.elim
    | some d =>
      cases e2 : toD S 66 y with
      | none => rw [e1, e2] at f; exact f.elim
      | some e =>
        rw [e1, e2] at f
        simp only at f
        by_cases h : SeqAt.shaped d = true ∧ SeqAt.shaped e = true
        · rw [if_pos h] at f
          exact .inr ⟨d, e, dp_of rel 66 x v d rx.2 e1, dp_of rel 66 y u e ry.2 e2, h.1, h.2, f.here rel ⟨rfl, rfl⟩⟩
        · rw [if_neg h] at f
          exact f.elim
  intro W σ m S H x y v u Q rel rx ry f
  unfold eqG at f
  cases x with
  | int i =>
    cases y with
    | int j =>
      have e1 : v = .int i := rx.2
      have e2 : u = .int j := ry.2
      subst e1 e2
      refine .inl ⟨rfl, ?_⟩
      have e : decide (V.int i = V.int j) = decide (i = j) := by rw [dec_int]; rfl
      rw [e]
      exact f.here rel ⟨rfl, rfl⟩
    | _ => exact gen W σ m S H _ _ v u Q rel rx ry f
  | str i =>
    cases y with
    | str j =>
      have e1 : v = .str i := rx.2
      have e2 : u = .str j := ry.2
      subst e1 e2
      refine .inl ⟨rfl, ?_⟩
      have e : decide (V.str i = V.str j) = decide (i = j) := by
        by_cases q : i = j
        · subst q; simp
        · rw [decide_eq_false q, decide_eq_false fun z => q (V.str.inj z)]
      rw [e]
      exact f.here rel ⟨rfl, rfl⟩
    | _ => exact gen W σ m S H _ _ v u Q rel rx ry f
  | _ => exact gen W σ m S H _ _ v u Q rel rx ry f
/-- is None, is not None -/
def isNon : PV → Bool
  | .non => true
  | _ => false
def isG (g : Bool → Bool) : F2 := fun x y S => match y with
  | .non => .ok (.bl (g (isNon x))) S
  | _ => .stuck
abbrev isV : F2 := isG fun b => b
abbrev isnV : F2 := isG fun b => !b
theorem op2_isG {K : PySem.W.Frag} {mg : Str → Option Value} (g : Bool → Bool) : Op2 K mg (isG g) (fun x y H Q => y = .non ∧ Q (.bl (g (decide (x = .non)))) H) := by
  intro W σ m S H x y v u Q rel rx ry f
  unfold isG at f
  cases y with
  | non =>
    refine ⟨ry.2, ?_⟩
    have e : decide (v = V.non) = isNon x := by
      cases x with
      | non =>
        have h : v = .non := rx.2
        subst h
        rfl
      | bl b => have h : v = .bl b := rx.2; subst h; rfl
      | int b => have h : v = .int b := rx.2; subst h; rfl
      | str b => have h : v = .str b := rx.2; subst h; rfl
      | tup b => obtain ⟨_, a, vs, rfl, _⟩ := rx; rfl
      | rol b => obtain ⟨_, a, vs, rfl, _⟩ := rx; rfl
      | kup b => obtain ⟨_, a, vs, rfl, _⟩ := rx; rfl
      | obj b => have h : v = .ref (m b) := rx.2; subst h; rfl
      | fn b => have h : v = .ref b := rx.2; subst h; rfl
      | ty b => have h : v = .ty b := rx.2; subst h; rfl
    rw [e]
    exact f.here rel ⟨rfl, rfl⟩
  | _ => exact f.elim
end TL

set_option Elab.async false
set_option linter.all false
set_option maxRecDepth 100000
set_option maxHeartbeats 1000000
/-! TL3: tests, displays, subscripts, dicts, slices, calls of defs. -/
namespace TL
open PySem PySem.Spec PyProof.Rows L2
section
variable {X : Cx} {W : WX} {pos : Pos} {a b : Expr} {rest : List Expr} {ca cb cc : CE PV} {ta tb : CE Bool}
theorem de_chain {op op' : CmpOp} {f g : F2} {r r' : R2} {c : Expr} (ho : OpR X (compareOp op) r) (h1 : Op2 X.K X.mg f r) (ho' : OpR X (compareOp op') r') (h2 : Op2 X.K X.mg g r') (ha : DE X W a ca) (hb : DE X W b cb) (hc : DE X W c cc)
    (hm : lastMarks [op, op'] [b, c] = false := by with_unfolding_all rfl) : DE X W (.Compare a [op, op'] [b, c] pos) (eChain f g ca cb cc) := pe_imp (pe_chain ho ho' ha hb hc hm) (rd_chain (c := c) h1 h2)
theorem dt_chain {op op' : CmpOp} {f g : F2} {r r' : R2} {c : Expr} (ho : OpR X (compareOp op) r) (h1 : Op2 X.K X.mg f r) (ho' : OpR X (compareOp op') r') (h2 : Op2 X.K X.mg g r') (ha : DE X W a ca) (hb : DE X W b cb) (hc : DE X W c cc)
    (hm : lastMarks [op, op'] [b, c] = false := by with_unfolding_all rfl) : DT X W (.Compare a [op, op'] [b, c] pos) (tBl (eChain f g ca cb cc)) :=
  pt_imp (pt_chain ho ho' ha hb hc hm) fun σ H Q h => rd_tBl (t := tChain r r' (rdE X.K X.mg W ca) (rdE X.K X.mg W cb) (rdE X.K X.mg W cc)) (rd_chain (c := c) h1 h2) σ H Q h
/-! ### truth -/
def truV (x : PV) (S : Store) : Option Bool := match x with
  | .non => some false
  | .bl b => some b
  | .int i => some (i != 0)
  | .str y => if y.length ≤ sizeLine then some ((y.length : Int) != 0) else none
  | .tup xs => some (!xs.isEmpty)
  | .kup xs => some (!xs.isEmpty)
  | .rol xs => some (!xs.isEmpty)
  | .obj i => match S[i]? with
    | some (.lst xs) => some (!xs.isEmpty)
    | _ => none
  | _ => none
def tTru (c : CE PV) : CE Bool := fun ρ S => (c ρ S).bind fun x S1 => match truV x S1 with
  | some b => .ok b S1
  | none => .stuck
theorem Rps.isEmpty {K : PySem.W.Frag} {m : Mp} {H : Hp} : ∀ {xs : List PV} {vs : List V}, Rps K m H xs vs → vs.isEmpty = xs.isEmpty
  | [], vs, h => by
    have h' : vs = [] := h
    rw [h']; rfl
  | x :: xs, vs, h => by
    obtain ⟨v, r, rfl, _⟩ := h
    rfl
theorem tru_of {K : PySem.W.Frag} {mg : Str → Option Value} {m : Mp} {S : Store} {H : Hp} {x : PV} {v : V} {k : Bool} (r : Rel K mg m S H) (h : RV K S.length m H x v) (e : truV x S = some k) : TruV K v H k := by
  unfold truV at e
  cases x with
  | non => have h' : v = .non := h.2; subst h'; cases e; rfl
  | bl b => have h' : v = .bl b := h.2; subst h'; cases e; rfl
  | int b => have h' : v = .int b := h.2; subst h'; cases e; rfl
  | str b =>
    have h' : v = .str b := h.2
    subst h'
    simp only at e
    by_cases q : b.length ≤ sizeLine
    · rw [if_pos q] at e
      cases e
      exact ⟨q, rfl⟩
    · rw [if_neg q] at e
      cases e
  | tup xs => obtain ⟨_, p, vs, rfl, h1, h2⟩ := h; cases e; exact .inr (.inl ⟨vs, SqT.of h1, by rw [h2.isEmpty]⟩)
  | kup xs => obtain ⟨_, p, vs, rfl, h1, h2⟩ := h; cases e; exact .inr (.inl ⟨vs, h1.t, by rw [h2.isEmpty]⟩)
  | rol xs => obtain ⟨_, p, vs, rfl, h1, h2⟩ := h; cases e; exact .inl ⟨vs, h1.l, by rw [h2.isEmpty]⟩
  | obj i =>
    have h' : v = .ref (m i) := h.2
    subst h'
    simp only at e
    cases ei : S[i]? with
    | none => rw [ei] at e; cases e
    | some o =>
      rw [ei] at e
      cases o with
      | lst xs =>
        cases e
        obtain ⟨_, vs, h1, h2⟩ := r.lst ei
        exact .inl ⟨vs, SqL.of h1, by rw [h2.isEmpty]⟩
      | _ => cases e
  | fn a => cases e
  | ty n => cases e
theorem dt_tru (h : DE X W a ca) (he : ∀ whole, isTrue a X.env whole = (do let v ← whole; standAt a.pos; holding [v] (truthy v)) := by intro _; rfl) : DT X W a (tTru ca) := by
  refine pt_imp (pt_truth h he) fun σ H Q h => ?_
  obtain ⟨m, S, ρ, at_, fin⟩ := h
  refine ⟨m, S, ρ, at_, (Fin.bind at_ fin).mono fun v H1 h1 => ?_⟩
  obtain ⟨m1, S1, x, at1, r1, e1, l1, f1⟩ := h1
  cases e : truV x S1 with
  | none => simp only [e] at f1; exact f1.elim
  | some k =>
    simp only [e] at f1
    exact ⟨k, tru_of at1.rel r1 e, f1.here at1.rel rfl⟩
/-! ### and, or, not -/
def cAnd (a b : CE Bool) : CE Bool := fun ρ S => (a ρ S).bind fun k S1 => if k = true then b ρ S1 else .ok false S1
def cOr (a b : CE Bool) : CE Bool := fun ρ S => (a ρ S).bind fun k S1 => if k = true then .ok true S1 else b ρ S1
def cNot (a : CE Bool) : CE Bool := fun ρ S => (a ρ S).bind fun k S1 => .ok (!k) S1
theorem dw_and1 (ha : DT X W a ta) : DW X W (.BoolOp .And [a] pos) ta := pw_and1 ha
theorem dw_or1 (ha : DT X W a ta) : DW X W (.BoolOp .Or [a] pos) ta := pw_or1 ha
theorem dw_and (ha : DT X W a ta) (hb : DW X W (.BoolOp .And (b :: rest) pos) tb) : DW X W (.BoolOp .And (a :: b :: rest) pos) (cAnd ta tb) := by
  refine pw_imp (L2.pw_and ha hb) fun σ H Q h => ?_
  obtain ⟨m, S, ρ, at_, fin⟩ := h
  refine ⟨m, S, ρ, at_, (Fin.bind at_ fin).mono fun v H1 h1 => ?_⟩
  obtain ⟨m1, S1, x, at1, r1, e1, l1, f1⟩ := h1
  have r1' : x = v := r1
  subst r1'
  cases x with
  | true =>
    show (if true = true then _ else _)
    rw [if_pos rfl]
    exact ⟨m1, S1, ρ, at1, f1⟩
  | false =>
    show (if false = true then _ else _)
    rw [if_neg Bool.false_ne_true]
    exact f1.here at1.rel rfl
theorem dw_or (ha : DT X W a ta) (hb : DW X W (.BoolOp .Or (b :: rest) pos) tb) : DW X W (.BoolOp .Or (a :: b :: rest) pos) (cOr ta tb) := by
  refine pw_imp (L2.pw_or ha hb) fun σ H Q h => ?_
  obtain ⟨m, S, ρ, at_, fin⟩ := h
  refine ⟨m, S, ρ, at_, (Fin.bind at_ fin).mono fun v H1 h1 => ?_⟩
  obtain ⟨m1, S1, x, at1, r1, e1, l1, f1⟩ := h1
  have r1' : x = v := r1
  subst r1'
  cases x with
  | true =>
    show (if true = true then _ else _)
    rw [if_pos rfl]
    exact f1.here at1.rel rfl
  | false =>
    show (if false = true then _ else _)
    rw [if_neg Bool.false_ne_true]
    exact ⟨m1, S1, ρ, at1, f1⟩
theorem dt_w (h : DW X W a ta) : DT X W a ta := h.pt
theorem dt_not (ha : DT X W a ta) : DT X W (.UnaryOp .Not a pos) (cNot ta) := by
  refine pt_imp (pt_not ha) fun σ H Q h => ?_
  obtain ⟨m, S, ρ, at_, fin⟩ := h
  refine ⟨m, S, ρ, at_, (Fin.bind at_ fin).mono fun v H1 h1 => ?_⟩
  obtain ⟨m1, S1, x, at1, r1, e1, l1, f1⟩ := h1
  have r1' : x = v := r1
  subst r1'
  exact f1.here at1.rel rfl
def eAnd (ca cb : CE PV) : CE PV := fun ρ S => (ca ρ S).bind fun x S1 => match x with
  | .bl k => if k = true then cb ρ S1 else .ok (.bl false) S1
  | _ => .stuck
def eOr (ca cb : CE PV) : CE PV := fun ρ S => (ca ρ S).bind fun x S1 => match x with
  | .bl k => if k = true then .ok (.bl true) S1 else cb ρ S1
  | _ => .stuck
def eNot (ca : CE PV) : CE PV := fun ρ S => (ca ρ S).bind fun x S1 => match x with
  | .bl k => .ok (.bl (!k)) S1
  | _ => .stuck
theorem de_one {op} (h : DE X W a ca) : DE X W (.BoolOp op [a] pos) ca := pe_one h
theorem de_and (ha : DE X W a ca) (hb : DE X W (.BoolOp .And (b :: rest) pos) cb) : DE X W (.BoolOp .And (a :: b :: rest) pos) (eAnd ca cb) := by
  refine pe_imp (pe_and ha hb) fun σ H Q h => ?_
  obtain ⟨m, S, ρ, at_, fin⟩ := h
  refine ⟨m, S, ρ, at_, (Fin.bind at_ fin).mono fun v H1 h1 => ?_⟩
  obtain ⟨m1, S1, x, at1, r1, e1, l1, f1⟩ := h1
  cases x with
  | bl k =>
    refine ⟨k, r1.2, ?_⟩
    cases k with
    | true =>
      show (if true = true then _ else _)
      rw [if_pos rfl]
      exact ⟨m1, S1, ρ, at1, f1⟩
    | false =>
      show (if false = true then _ else _)
      rw [if_neg Bool.false_ne_true]
      exact f1.here at1.rel ⟨rfl, rfl⟩
  | _ => exact f1.elim
theorem de_or (ha : DE X W a ca) (hb : DE X W (.BoolOp .Or (b :: rest) pos) cb) : DE X W (.BoolOp .Or (a :: b :: rest) pos) (eOr ca cb) := by
  refine pe_imp (pe_or ha hb) fun σ H Q h => ?_
  obtain ⟨m, S, ρ, at_, fin⟩ := h
  refine ⟨m, S, ρ, at_, (Fin.bind at_ fin).mono fun v H1 h1 => ?_⟩
  obtain ⟨m1, S1, x, at1, r1, e1, l1, f1⟩ := h1
  cases x with
  | bl k =>
    refine ⟨k, r1.2, ?_⟩
    cases k with
    | true =>
      show (if true = true then _ else _)
      rw [if_pos rfl]
      exact f1.here at1.rel ⟨rfl, rfl⟩
    | false =>
      show (if false = true then _ else _)
      rw [if_neg Bool.false_ne_true]
      exact ⟨m1, S1, ρ, at1, f1⟩
  | _ => exact f1.elim
theorem de_not (ha : DE X W a ca) : DE X W (.UnaryOp .Not a pos) (eNot ca) := by
  refine pe_imp (pe_not ha) fun σ H Q h => ?_
  obtain ⟨m, S, ρ, at_, fin⟩ := h
  refine ⟨m, S, ρ, at_, (Fin.bind at_ fin).mono fun v H1 h1 => ?_⟩
  obtain ⟨m1, S1, x, at1, r1, e1, l1, f1⟩ := h1
  cases x with
  | bl k => exact ⟨k, r1.2, f1.here at1.rel ⟨rfl, rfl⟩⟩
  | _ => exact f1.elim
def eIf (t : CE Bool) (ca cb : CE PV) : CE PV := fun ρ S => (t ρ S).bind fun k S1 => if k = true then ca ρ S1 else cb ρ S1
theorem de_if {c : Expr} (hc : DT X W c ta) (ha : DE X W a ca) (hb : DE X W b cb) : DE X W (.IfExp c a b pos) (eIf ta ca cb) := by
  refine pe_imp (pe_ifExp hc ha hb) fun σ H Q h => ?_
  obtain ⟨m, S, ρ, at_, fin⟩ := h
  refine ⟨m, S, ρ, at_, (Fin.bind at_ fin).mono fun v H1 h1 => ?_⟩
  obtain ⟨m1, S1, x, at1, r1, e1, l1, f1⟩ := h1
  have r1' : x = v := r1
  subst r1'
  cases x with
  | true =>
    show (if true = true then _ else _)
    rw [if_pos rfl]
    exact ⟨m1, S1, ρ, at1, f1⟩
  | false =>
    show (if false = true then _ else _)
    rw [if_neg Bool.false_ne_true]
    exact ⟨m1, S1, ρ, at1, f1⟩
def eNeg (ca : CE PV) : CE PV := fun ρ S => (ca ρ S).bind fun x S1 => match x with
  | .int i => .ok (.int (-i)) S1
  | _ => .stuck
theorem de_neg (ha : DE X W a ca) : DE X W (.UnaryOp .USub a pos) (eNeg ca) := by
  refine pe_imp (pe_un un_neg ha) fun σ H Q h => ?_
  obtain ⟨m, S, ρ, at_, fin⟩ := h
  refine ⟨m, S, ρ, at_, (Fin.bind at_ fin).mono fun v H1 h1 => ?_⟩
  obtain ⟨m1, S1, x, at1, r1, e1, l1, f1⟩ := h1
  cases x with
  | int k => exact ⟨k, r1.2, f1.here at1.rel ⟨rfl, rfl⟩⟩
  | _ => exact f1.elim
/-! ### lists of expressions, displays -/
def aNil : CE (List PV) := fun _ S => .ok [] S
def aCons (c : CE PV) (cs : CE (List PV)) : CE (List PV) := fun ρ S => (c ρ S).bind fun x S1 => (cs ρ S1).bind fun xs S2 => .ok (x :: xs) S2
variable {es : List Expr} {cs : CE (List PV)}
theorem da_nil : DA X W [] aNil := pa_imp pa_nil fun σ H Q h => by
  obtain ⟨m, S, ρ, at_, fin⟩ := h
  exact fin.here at_.rel ⟨rfl, rfl⟩
theorem da_cons (ha : DE X W a ca) (hr : DA X W es cs) (hs : starEach (a :: es) X.env = (false, eval a X.env) :: starEach es X.env := by rfl) : DA X W (a :: es) (aCons ca cs) := by
  refine pa_imp (pa_cons ha hr hs) fun σ H Q h => ?_
  obtain ⟨m, S, ρ, at_, fin⟩ := h
  refine ⟨m, S, ρ, at_, (Fin.bind at_ fin).mono fun v H1 h1 => ?_⟩
  obtain ⟨m1, S1, x, at1, r1, e1, l1, f1⟩ := h1
  refine ⟨m1, S1, ρ, at1, (Fin.bind at1 f1).mono fun vs H2 h2 => ?_⟩
  obtain ⟨m2, S2, xs, at2, r2, e2, l2, f2⟩ := h2
  obtain ⟨b1, p1⟩ := stbV e2 l2 r1
  exact f2.here at2.rel ⟨Bool.and_eq_true_iff.mpr ⟨b1, r2.1⟩, v, vs, rfl, p1, r2.2⟩
def eTup (cs : CE (List PV)) : CE PV := fun ρ S => (cs ρ S).bind fun xs S1 => if xs.length ≤ sizeLine then .ok (.tup xs) S1 else .stuck
def eLst (cs : CE (List PV)) : CE PV := fun ρ S => (cs ρ S).bind fun xs S1 => if xs.length ≤ sizeLine then .ok (.obj S1.length) (S1 ++ [.lst xs]) else .stuck
theorem de_tup {k : Nat} (h : DA X W es cs) : DE X W (.Tuple es k pos) (eTup cs) := by
  refine pe_imp (pe_tup h) fun σ H Q h => ?_
  obtain ⟨m, S, ρ, at_, fin⟩ := h
  refine ⟨m, S, ρ, at_, (Fin.bind at_ fin).mono fun v H1 h1 => ?_⟩
  obtain ⟨m1, S1, x, at1, r1, e1, l1, f1⟩ := h1
  dsimp only at f1
  by_cases q : x.length ≤ sizeLine
  · rw [if_pos q] at f1
    exact ⟨by rw [r1.2.length]; exact q, fun p hp => f1.tup at1.rel r1.1 r1.2 hp⟩
  · rw [if_neg q] at f1
    exact f1.elim
theorem de_lst (h : DA X W es cs) : DE X W (.List es pos) (eLst cs) := by
  refine pe_imp (pe_lst h) fun σ H Q h => ?_
  obtain ⟨m, S, ρ, at_, fin⟩ := h
  refine ⟨m, S, ρ, at_, (Fin.bind at_ fin).mono fun v H1 h1 => ?_⟩
  obtain ⟨m1, S1, x, at1, r1, e1, l1, f1⟩ := h1
  dsimp only at f1
  by_cases q : x.length ≤ sizeLine
  · rw [if_pos q] at f1
    exact ⟨by rw [r1.2.length]; exact q, fun p hp => f1.lst at1.rel r1.1 r1.2 hp⟩
  · rw [if_neg q] at f1
    exact f1.elim
def eDic : CE PV := fun ρ S => .ok (.obj S.length) (S ++ [.dic false []])
theorem de_dic : DE X W (.Dict [] [] pos) eDic := by
  refine pe_imp pe_dnewK fun σ H Q h => ?_
  obtain ⟨m, S, ρ, at_, fin⟩ := h
  intro p hp
  exact fin.dicK at_.rel rfl rfl hp
end
/-! ### dicts by their keys -/
def dget (kvs : List (PV × PV)) (k : PV) : Option PV := (kvs.find? fun kv => decide (kv.1 = k)).map (·.2)
def dput (kvs : List (PV × PV)) (k v : PV) : List (PV × PV) :=
  if (kvs.any fun kv => decide (kv.1 = k)) = true then kvs.map (fun kv => if kv.1 = k then (kv.1, v) else kv) else kvs ++ [(k, v)]
theorem keyOf_inj : ∀ {a b : PV} {k : Key}, keyOf a = some k → keyOf b = some k → a = b := by
  intro a b k h1 h2
  cases a with
  | int i =>
    cases b with
    | int j => rw [← h2] at h1; cases h1; rfl
    | str j => rw [← h2] at h1; cases h1
    | _ => cases h2
  | str i =>
    cases b with
    | int j => rw [← h2] at h1; cases h1
    | str j => rw [← h2] at h1; cases h1; rfl
    | _ => cases h2
  | _ => cases h1
theorem keysOf_inj : ∀ {a b : List PV} {k : List Key}, keysOf a = some k → keysOf b = some k → a = b
  | [], [], _, _, _ => rfl
  | [], y :: ys, k, h1, h2 => by
    cases h1
    unfold keysOf at h2
    split at h2 <;> cases h2
  | x :: xs, [], k, h1, h2 => by
    cases h2
    unfold keysOf at h1
    split at h1 <;> cases h1
  | x :: xs, y :: ys, k, h1, h2 => by
    unfold keysOf at h1 h2
    cases e1 : keyOf x with
    | none => rw [e1] at h1; cases h1
    | some k1 =>
      cases e2 : keysOf xs with
      | none => rw [e1, e2] at h1; cases h1
      | some ks1 =>
        cases e3 : keyOf y with
        | none => rw [e3] at h2; cases h2
        | some k2 =>
          cases e4 : keysOf ys with
          | none => rw [e3, e4] at h2; cases h2
          | some ks2 =>
            rw [e1, e2] at h1
            rw [e3, e4] at h2
            simp only [Option.some.injEq] at h1 h2
            rw [← h2] at h1
            obtain ⟨q1, q2⟩ := List.cons.inj h1
            subst q1 q2
            rw [keyOf_inj e1 e3, keysOf_inj e2 e4]
theorem tkeyOf_inj {a b : PV} {k : List Key} (h1 : tkeyOf a = some k) (h2 : tkeyOf b = some k) : a = b := by
  cases a with
  | tup xs =>
    cases b with
    | tup ys =>
      have e : xs = ys := keysOf_inj (k := k) h1 h2
      rw [e]
    | _ => cases h2
  | _ => cases h1
section
variable {K : PySem.W.Frag} {m : Mp} {H : Hp}
theorem KvK.get : ∀ {kvs : List (PV × PV)} {l : List (Key × V)} {k : PV} {kk : Key}, KvK K m H kvs l → keyOf k = some kk →
    (∀ x, dget kvs k = some x → ∃ v, valV l kk = some v ∧ Rp K m H x v) ∧ (dget kvs k = none → valV l kk = none)
  | [], l, k, kk, h, hk => by
    have h' : l = [] := h
    subst h'
    exact ⟨fun x e => (by cases e), fun _ => rfl⟩
  | p :: ps, l, k, kk, h, hk => by
    obtain ⟨q, r, rfl, h1, h2, h3⟩ := h
    by_cases e : p.1 = k
    · have eq : q.1 = kk := by
        rw [e, hk] at h1
        exact (Option.some.inj h1).symm
      have e1 : dget (p :: ps) k = some p.2 := by simp [dget, List.find?_cons, e]
      rw [valV_pos eq]
      exact ⟨fun x ex => by rw [e1] at ex; cases ex; exact ⟨q.2, rfl, h2⟩, fun z => by rw [e1] at z; cases z⟩
    · have eq : ¬ q.1 = kk := fun z => e (by rw [z] at h1; exact keyOf_inj h1 hk)
      have e1 : dget (p :: ps) k = dget ps k := by simp [dget, List.find?_cons, e]
      rw [valV_neg eq, e1]
      exact KvK.get h3 hk
theorem KvT.get : ∀ {kvs : List (PV × PV)} {l : List (List Key × V)} {k : PV} {kk : List Key}, KvT K m H kvs l → tkeyOf k = some kk →
    (∀ x, dget kvs k = some x → ∃ v, valV l kk = some v ∧ Rp K m H x v) ∧ (dget kvs k = none → valV l kk = none)
  | [], l, k, kk, h, hk => by
    have h' : l = [] := h
    subst h'
    exact ⟨fun x e => (by cases e), fun _ => rfl⟩
  | p :: ps, l, k, kk, h, hk => by
    obtain ⟨q, r, rfl, h1, h2, h3⟩ := h
    by_cases e : p.1 = k
    · have eq : q.1 = kk := by
        rw [e, hk] at h1
        exact (Option.some.inj h1).symm
      have e1 : dget (p :: ps) k = some p.2 := by simp [dget, List.find?_cons, e]
      rw [valV_pos eq]
      exact ⟨fun x ex => by rw [e1] at ex; cases ex; exact ⟨q.2, rfl, h2⟩, fun z => by rw [e1] at z; cases z⟩
    · have eq : ¬ q.1 = kk := fun z => e (by rw [z] at h1; exact tkeyOf_inj h1 hk)
      have e1 : dget (p :: ps) k = dget ps k := by simp [dget, List.find?_cons, e]
      rw [valV_neg eq, e1]
      exact KvT.get h3 hk
theorem KvK.length : ∀ {kvs : List (PV × PV)} {l : List (Key × V)}, KvK K m H kvs l → l.length = kvs.length
  | [], l, h => by
    have h' : l = [] := h
    rw [h']; rfl
  | p :: ps, l, h => by
    obtain ⟨q, r, rfl, _, _, h3⟩ := h
    rw [List.length_cons, List.length_cons, KvK.length h3]
theorem KvT.length : ∀ {kvs : List (PV × PV)} {l : List (List Key × V)}, KvT K m H kvs l → l.length = kvs.length
  | [], l, h => by
    have h' : l = [] := h
    rw [h']; rfl
  | p :: ps, l, h => by
    obtain ⟨q, r, rfl, _, _, h3⟩ := h
    rw [List.length_cons, List.length_cons, KvT.length h3]
theorem KvK.append : ∀ {kvs kws : List (PV × PV)} {l l' : List (Key × V)}, KvK K m H kvs l → KvK K m H kws l' → KvK K m H (kvs ++ kws) (l ++ l')
  | [], kws, l, l', h, h' => by
    have e : l = [] := h
    subst e
    exact h'
  | p :: ps, kws, l, l', h, h' => by
    obtain ⟨q, r, rfl, h1, h2, h3⟩ := h
    exact ⟨q, r ++ l', rfl, h1, h2, KvK.append h3 h'⟩
theorem KvT.append : ∀ {kvs kws : List (PV × PV)} {l l' : List (List Key × V)}, KvT K m H kvs l → KvT K m H kws l' → KvT K m H (kvs ++ kws) (l ++ l')
  | [], kws, l, l', h, h' => by
    have e : l = [] := h
    subst e
    exact h'
  | p :: ps, kws, l, l', h, h' => by
    obtain ⟨q, r, rfl, h1, h2, h3⟩ := h
    exact ⟨q, r ++ l', rfl, h1, h2, KvT.append h3 h'⟩
theorem KvK.anyk : ∀ {kvs : List (PV × PV)} {l : List (Key × V)} {k : PV} {kk : Key}, KvK K m H kvs l → keyOf k = some kk → (l.any fun kv => decide (kv.1 = kk)) = kvs.any fun kv => decide (kv.1 = k)
  | [], l, k, kk, h, hk => by
    have h' : l = [] := h
    rw [h']; rfl
  | p :: ps, l, k, kk, h, hk => by
    obtain ⟨q, r, rfl, h1, h2, h3⟩ := h
    rw [List.any_cons, List.any_cons, KvK.anyk h3 hk]
    have e : decide (q.1 = kk) = decide (p.1 = k) := by
      by_cases e : p.1 = k
      · have eq : q.1 = kk := by
          rw [e, hk] at h1
          exact (Option.some.inj h1).symm
        rw [decide_eq_true e, decide_eq_true eq]
      · have eq : ¬ q.1 = kk := fun z => e (by rw [z] at h1; exact keyOf_inj h1 hk)
        rw [decide_eq_false e, decide_eq_false eq]
    rw [e]
theorem KvT.anyk : ∀ {kvs : List (PV × PV)} {l : List (List Key × V)} {k : PV} {kk : List Key}, KvT K m H kvs l → tkeyOf k = some kk → (l.any fun kv => decide (kv.1 = kk)) = kvs.any fun kv => decide (kv.1 = k)
  | [], l, k, kk, h, hk => by
    have h' : l = [] := h
    rw [h']; rfl
  | p :: ps, l, k, kk, h, hk => by
    obtain ⟨q, r, rfl, h1, h2, h3⟩ := h
    rw [List.any_cons, List.any_cons, KvT.anyk h3 hk]
    have e : decide (q.1 = kk) = decide (p.1 = k) := by
      by_cases e : p.1 = k
      · have eq : q.1 = kk := by
          rw [e, hk] at h1
          exact (Option.some.inj h1).symm
        rw [decide_eq_true e, decide_eq_true eq]
      · have eq : ¬ q.1 = kk := fun z => e (by rw [z] at h1; exact tkeyOf_inj h1 hk)
        rw [decide_eq_false e, decide_eq_false eq]
    rw [e]
theorem KvK.upd1 : ∀ {kvs : List (PV × PV)} {l : List (Key × V)} {k x : PV} {kk : Key} {v : V}, KvK K m H kvs l → keyOf k = some kk → Rp K m H x v → KvK K m H (kvs.map fun kv => if kv.1 = k then (kv.1, x) else kv) (l.map fun kv => if kv.1 = kk then (kv.1, v) else kv)
  | [], l, k, x, kk, v, h, hk, hx => by
    have h' : l = [] := h
    subst h'
    exact rfl
  | p :: ps, l, k, x, kk, v, h, hk, hx => by
    obtain ⟨q, r, rfl, h1, h2, h3⟩ := h
    refine ⟨_, _, rfl, ?_, ?_, KvK.upd1 h3 hk hx⟩
    · dsimp only
      by_cases e : p.1 = k
      · have eq : q.1 = kk := by
          rw [e, hk] at h1
          exact (Option.some.inj h1).symm
        rw [if_pos e, if_pos eq]
        exact h1
      · have eq : ¬ q.1 = kk := fun z => e (by rw [z] at h1; exact keyOf_inj h1 hk)
        rw [if_neg e, if_neg eq]
        exact h1
    · dsimp only
      by_cases e : p.1 = k
      · have eq : q.1 = kk := by
          rw [e, hk] at h1
          exact (Option.some.inj h1).symm
        rw [if_pos e, if_pos eq]
        exact hx
      · have eq : ¬ q.1 = kk := fun z => e (by rw [z] at h1; exact keyOf_inj h1 hk)
        rw [if_neg e, if_neg eq]
        exact h2
theorem KvT.upd1 : ∀ {kvs : List (PV × PV)} {l : List (List Key × V)} {k x : PV} {kk : List Key} {v : V}, KvT K m H kvs l → tkeyOf k = some kk → Rp K m H x v → KvT K m H (kvs.map fun kv => if kv.1 = k then (kv.1, x) else kv) (l.map fun kv => if kv.1 = kk then (kv.1, v) else kv)
  | [], l, k, x, kk, v, h, hk, hx => by
    have h' : l = [] := h
    subst h'
    exact rfl
  | p :: ps, l, k, x, kk, v, h, hk, hx => by
    obtain ⟨q, r, rfl, h1, h2, h3⟩ := h
    refine ⟨_, _, rfl, ?_, ?_, KvT.upd1 h3 hk hx⟩
    · dsimp only
      by_cases e : p.1 = k
      · have eq : q.1 = kk := by
          rw [e, hk] at h1
          exact (Option.some.inj h1).symm
        rw [if_pos e, if_pos eq]
        exact h1
      · have eq : ¬ q.1 = kk := fun z => e (by rw [z] at h1; exact tkeyOf_inj h1 hk)
        rw [if_neg e, if_neg eq]
        exact h1
    · dsimp only
      by_cases e : p.1 = k
      · have eq : q.1 = kk := by
          rw [e, hk] at h1
          exact (Option.some.inj h1).symm
        rw [if_pos e, if_pos eq]
        exact hx
      · have eq : ¬ q.1 = kk := fun z => e (by rw [z] at h1; exact tkeyOf_inj h1 hk)
        rw [if_neg e, if_neg eq]
        exact h2
theorem KvK.put {kvs : List (PV × PV)} {l : List (Key × V)} {k x : PV} {kk : Key} {v : V} (h : KvK K m H kvs l) (hk : keyOf k = some kk) (hx : Rp K m H x v) : KvK K m H (dput kvs k x) (putK l kk v) := by
  unfold dput putK
  rw [h.anyk hk]
  by_cases e : (kvs.any fun kv => decide (kv.1 = k)) = true
  · rw [if_pos e, if_pos e]
    exact h.upd1 hk hx
  · rw [if_neg e, if_neg e]
    exact h.append ⟨_, [], rfl, hk, hx, rfl⟩
theorem KvT.put {kvs : List (PV × PV)} {l : List (List Key × V)} {k x : PV} {kk : List Key} {v : V} (h : KvT K m H kvs l) (hk : tkeyOf k = some kk) (hx : Rp K m H x v) : KvT K m H (dput kvs k x) (putK l kk v) := by
  unfold dput putK
  rw [h.anyk hk]
  by_cases e : (kvs.any fun kv => decide (kv.1 = k)) = true
  · rw [if_pos e, if_pos e]
    exact h.upd1 hk hx
  · rw [if_neg e, if_neg e]
    exact h.append ⟨_, [], rfl, hk, hx, rfl⟩
theorem key_val {x : PV} {v : V} {k : Key} (h : Rp K m H x v) (e : keyOf x = some k) : v = kV k := by
  cases x with
  | int i => cases e; exact h
  | str i => cases e; exact h
  | _ => cases e
theorem keys_val : ∀ {xs : List PV} {vs : List V} {ks : List Key}, Rps K m H xs vs → keysOf xs = some ks → vs = ks.map kV
  | [], vs, ks, h, e => by
    have h' : vs = [] := h
    cases e
    rw [h']; rfl
  | x :: xs, vs, ks, h, e => by
    obtain ⟨v, r, rfl, h1, h2⟩ := h
    unfold keysOf at e
    cases e1 : keyOf x with
    | none => rw [e1] at e; cases e
    | some k1 =>
      cases e2 : keysOf xs with
      | none => rw [e1, e2] at e; cases e
      | some ks1 =>
        rw [e1, e2] at e
        cases e
        rw [key_val h1 e1, keys_val h2 e2]
        rfl
theorem tkey_val {x : PV} {v : V} {k : List Key} (h : Rp K m H x v) (e : tkeyOf x = some k) : ∃ b, v = .ref b ∧ H b = some (.tup (k.map kV)) := by
  cases x with
  | tup xs =>
    obtain ⟨a, vs, rfl, h1, h2⟩ := h
    exact ⟨a, rfl, by rw [← keys_val h2 e]; exact h1⟩
  | _ => cases e
end
end TL

set_option Elab.async false
set_option linter.all false
set_option maxRecDepth 100000
set_option maxHeartbeats 1000000
/-! TL4: dicts read and written, subscripts, slices, membership. -/
namespace TL
open PySem PySem.Spec PyProof.Rows L2
section
variable {X : Cx} {pins : List (Addr × Obj)} {σ : L2.St} {H : Hp} {s : Shared}
theorem pairs_nil {P : Program} {w : World} : ∀ {es : List DictEntry} {vs : List (Key × Value)}, Pairs (mixKind P w) es vs → vs = [] → es = [] := by
  intro es vs h e
  subst e
  cases h
  rfl
/-- an empty dict has keys of no kind -/
theorem Inv.toT (I : Inv X pins σ H s) {a : Addr} (h : H a = some (.dK [])) : Inv X pins σ (upd H a (.dT [])) s := by
  obtain ⟨z, y, vs, r, o, es, ep, e, c1, c2, c3, c4, c5⟩ := I.hok a _ h
  have ev : vs = [] := by
    cases r
    rfl
  have ees : es.toList = [] := pairs_nil c4 ev
  have new : ObjOk X.prog X.w (upd H a (.dT [])) s.heap a (.dT []) := ⟨Nat.zero_le _, y, [], .nil, o, es, ep, e, c1, c2, by rw [ees]; rfl, List.nodup_nil⟩
  exact I.write (t' := s.toks) (h' := s.heap) (o := .dT []) (by rw [h]; trivial) (.inl rfl) (fun b u _ q => q) ⟨o, e⟩ new
theorem Inv.toK (I : Inv X pins σ H s) {a : Addr} (h : H a = some (.dT [])) : Inv X pins σ (upd H a (.dK [])) s := by
  obtain ⟨z, y, xs, r, o, es, ep, e, c1, c2, c3, c4⟩ := I.hok a _ h
  have ex : xs = [] := by
    cases r
    rfl
  have ees : es.toList = [] := by rw [c3, ex]; rfl
  have ees' : es = #[] := by simpa using ees
  have new : ObjOk X.prog X.w (upd H a (.dK [])) s.heap a (.dK []) := by
    refine ⟨Nat.zero_le _, y, [], .nil, o, es, ep, e, c1, c2, ?_, ?_, List.nodup_nil⟩
    · subst ees'
      intro en hen
      first
        | exact absurd hen (by simp)
        | (simp at hen)
    · rw [ees]; exact .nil
  exact I.write (t' := s.toks) (h' := s.heap) (o := .dK []) (by rw [h]; trivial) (.inl rfl) (fun b u _ q => q) ⟨o, e⟩ new
end
def cvH (H H' : Hp) : Prop := H' = H ∨ (∃ a, H a = some (.dK []) ∧ H' = upd H a (.dT [])) ∨ ∃ a, H a = some (.dT []) ∧ H' = upd H a (.dK [])
theorem Inv.cv {X : Cx} {pins : List (Addr × Obj)} {σ : L2.St} {H H' : Hp} {s : Shared} (I : Inv X pins σ H s) (c : cvH H H') : Inv X pins σ H' s := by
  rcases c with rfl | ⟨a, h, rfl⟩ | ⟨a, h, rfl⟩
  · exact I
  · exact Inv.toT I h
  · exact Inv.toK I h
def cv2 (r : R2) : R2 := fun x y H Q => ∃ H', cvH H H' ∧ r x y H' Q
theorem op_cv {X : Cx} {f : Value → Value → Sem Value} {r : R2} (h : OpR X f r) : OpR X f (cv2 r) := by
  intro pins s σ H x y v u Q I rx ry q
  obtain ⟨H', c, q⟩ := q
  exact h pins s σ H' x y v u Q (Inv.cv I c) rx ry q
theorem ix_cv {X : Cx} {r : R2} (h : IxR X r) : IxR X (cv2 r) := by
  intro value slice pins s σ H x y v u Q I rx ry q hs
  obtain ⟨H', c, q⟩ := q
  exact h value slice pins s σ H' x y v u Q (Inv.cv I c) rx ry q hs
/-- the abstract heap that suits keys like k at the dict that stands at i -/
def isKey (k : PV) : Bool := (keyOf k).isSome || (tkeyOf k).isSome
def dicAt (S : Store) (i : Nat) (k : PV) : Option (List (PV × PV)) := match S[i]? with
  | some (.dic lk kvs) => if isKey k = true ∧ (kvs.all fun kv => (keyOf kv.1).isSome == (keyOf k).isSome) = true ∧ (lk = true → kvs ≠ []) then some kvs else none
  | _ => none
section
variable {K : PySem.W.Frag} {mg : Str → Option Value} {W : WX} {σ : L2.St} {m : Mp} {S : Store} {H : Hp} {Q : VK}
theorem keyOf_tkey {k : PV} (h : (keyOf k).isSome = true) : tkeyOf k = none := by
  cases k <;> first | rfl | cases h
/-- the same store, an empty dict told otherwise -/
theorem Rel.conv (r : Rel K mg m S H) {i : Nat} (e : S[i]? = some (.dic false [])) (u : HO) (hu : u = .dK [] ∨ u = .dT []) : Rel K mg m S (upd H (m i) u) ∧ Ext K S.length m H m (upd H (m i) u) := by
  have hi := (List.getElem?_eq_some_iff.mp e).1
  have w := r.write e (fun _ z => by cases z) (u := u) (o := .dic false []) rfl (by
    rcases hu with rfl | rfl
    · exact .inl ⟨[], upd_same, rfl⟩
    · exact .inr ⟨[], upd_same, rfl⟩)
  have es : S.set i (.dic false []) = S := by
    apply List.ext_getElem?
    intro j
    by_cases hj : i = j
    · subst hj
      rw [List.getElem?_set_self hi, e]
    · rw [List.getElem?_set_ne hj]
  rw [es] at w
  exact ⟨w, r.ext_write e (fun _ z => by cases z)⟩
/-- a dict's look-up: the heap perhaps told otherwise, and what stands there -/
theorem dic_get (r : Rel K mg m S H) {i : Nat} {k : PV} {kvs : List (PV × PV)} {u : V} (e : dicAt S i k = some kvs) (hk : RV K S.length m H k u) :
    ∃ H', cvH H H' ∧ Rel K mg m S H' ∧ Ext K S.length m H m H' ∧ (∀ x, dget kvs k = some x → ∃ v, DGet H' (m i) u (some v) ∧ RV K S.length m H' x v) ∧ (dget kvs k = none → DGet H' (m i) u none) := by
  unfold dicAt at e
  cases ei : S[i]? with
  | none => rw [ei] at e; cases e
  | some o =>
    rw [ei] at e
    cases o with
    | lst _ => cases e
    | ins _ _ => cases e
    | dic lk kvs' =>
      simp only at e
      by_cases c : isKey k = true ∧ (kvs'.all fun kv => (keyOf kv.1).isSome == (keyOf k).isSome) = true ∧ (lk = true → kvs' ≠ [])
      · rw [if_pos c] at e
        cases e
        obtain ⟨c1, c2, c3⟩ := c
        have wf := r.wf i _ ei
        have ob := r.ob i _ ei
        have bx : ∀ x, dget kvs k = some x → bnd S.length x = true := fun x hx => by
          unfold dget at hx
          cases q : kvs.find? (fun kv => decide (kv.1 = k)) with
          | none => rw [q] at hx; cases hx
          | some p =>
            rw [q] at hx
            cases hx
            exact bnds_all.mp (show bnds S.length (kvs.map (·.2)) = true from wf) p.2 (List.mem_map_of_mem (List.mem_of_find?_eq_some q))
        -- the two kinds of keys over a heap that suits
        have goK : ∀ (H' : Hp) (l : List (Key × V)), Rel K mg m S H' → Ext K S.length m H m H' → Rd H' (m i) (.dK l) → KvK K m H' kvs l → (keyOf k).isSome = true →
            (∀ x, dget kvs k = some x → ∃ v, DGet H' (m i) u (some v) ∧ RV K S.length m H' x v) ∧ (dget kvs k = none → DGet H' (m i) u none) := by
          intro H' l r' e' hrd hkv hs
          obtain ⟨kk, ek⟩ := Option.isSome_iff_exists.mp hs
          have eu : u = kV kk := key_val (stbV e' (Nat.le_refl _) hk).2 ek
          obtain ⟨g1, g2⟩ := hkv.get ek
          refine ⟨fun x hx => ?_, fun hn => .inl ⟨l, kk, hrd, eu, (g2 hn).symm⟩⟩
          obtain ⟨v, ev, rv⟩ := g1 x hx
          exact ⟨v, .inl ⟨l, kk, hrd, eu, ev.symm⟩, bx x hx, rv⟩
        have goT : ∀ (H' : Hp) (l : List (List Key × V)), Rel K mg m S H' → Ext K S.length m H m H' → Rd H' (m i) (.dT l) → KvT K m H' kvs l → (tkeyOf k).isSome = true →
            (∀ x, dget kvs k = some x → ∃ v, DGet H' (m i) u (some v) ∧ RV K S.length m H' x v) ∧ (dget kvs k = none → DGet H' (m i) u none) := by
          intro H' l r' e' hrd hkv hs
          obtain ⟨kk, ek⟩ := Option.isSome_iff_exists.mp hs
          obtain ⟨b, eu, hb⟩ := tkey_val (stbV e' (Nat.le_refl _) hk).2 ek
          obtain ⟨g1, g2⟩ := hkv.get ek
          refine ⟨fun x hx => ?_, fun hn => .inr ⟨l, kk, b, hrd, eu, hb, (g2 hn).symm⟩⟩
          obtain ⟨v, ev, rv⟩ := g1 x hx
          exact ⟨v, .inr ⟨l, kk, b, hrd, eu, hb, ev.symm⟩, bx x hx, rv⟩
        have mm : ∀ {l : List (Key × V)}, KvK K m H kvs l → kvs ≠ [] → (keyOf k).isSome = true := by
          intro l hkv hne
          cases kvs with
          | nil => exact absurd rfl hne
          | cons p ps =>
            obtain ⟨q, rr, rfl, h1, h2, h3⟩ := hkv
            rw [List.all_cons, h1] at c2
            have c2' := (Bool.and_eq_true_iff.mp c2).1
            simpa using c2'
        have mt : ∀ {l : List (List Key × V)}, KvT K m H kvs l → kvs ≠ [] → (tkeyOf k).isSome = true := by
          intro l hkv hne
          cases kvs with
          | nil => exact absurd rfl hne
          | cons p ps =>
            obtain ⟨q, rr, rfl, h1, h2, h3⟩ := hkv
            rw [List.all_cons] at c2
            have c2' := (Bool.and_eq_true_iff.mp c2).1
            have e0 : (keyOf p.1).isSome = false := by
              cases z : keyOf p.1 with
              | none => rfl
              | some w =>
                have := keyOf_tkey (k := p.1) (by rw [z]; rfl)
                rw [h1] at this
                cases this
            rw [e0] at c2'
            have e1 : (keyOf k).isSome = false := by simpa using c2'
            unfold isKey at c1
            rw [e1, Bool.false_or] at c1
            exact c1
        by_cases hne : kvs = []
        · subst hne
          have hlk : lk = false := by
            cases lk with
            | false => rfl
            | true => exact absurd rfl (c3 rfl)
          subst hlk
          rcases Bool.or_eq_true_iff.mp c1 with hs | hs
          · rcases ob with ⟨l, h1, h2⟩ | ⟨l, h1, h2⟩
            · exact ⟨H, .inl rfl, r, Ext.refl, goK H l r Ext.refl (.inl h1) h2 hs⟩
            · have el : l = [] := h2
              subst el
              obtain ⟨r', e'⟩ := r.conv ei (.dK []) (.inl rfl)
              exact ⟨_, .inr (.inr ⟨m i, h1, rfl⟩), r', e', goK _ [] r' e' (.inl upd_same) rfl hs⟩
          · rcases ob with ⟨l, h1, h2⟩ | ⟨l, h1, h2⟩
            · have el : l = [] := h2
              subst el
              obtain ⟨r', e'⟩ := r.conv ei (.dT []) (.inr rfl)
              exact ⟨_, .inr (.inl ⟨m i, h1, rfl⟩), r', e', goT _ [] r' e' (.inl upd_same) rfl hs⟩
            · exact ⟨H, .inl rfl, r, Ext.refl, goT H l r Ext.refl (.inl h1) h2 hs⟩
        · cases lk with
          | false =>
            rcases ob with ⟨l, h1, h2⟩ | ⟨l, h1, h2⟩
            · exact ⟨H, .inl rfl, r, Ext.refl, goK H l r Ext.refl (.inl h1) h2 (mm h2 hne)⟩
            · exact ⟨H, .inl rfl, r, Ext.refl, goT H l r Ext.refl (.inl h1) h2 (mt h2 hne)⟩
          | true =>
            rcases ob with ⟨o, l, h1, h2⟩ | ⟨o, l, h1, h2⟩
            · exact ⟨H, .inl rfl, r, Ext.refl, goK H l r Ext.refl (.inr ⟨o, h1⟩) h2 (mm h2 hne)⟩
            · exact ⟨H, .inl rfl, r, Ext.refl, goT H l r Ext.refl (.inr ⟨o, h1⟩) h2 (mt h2 hne)⟩
      · rw [if_neg c] at e
        cases e
theorem cvH_free {H H' : Hp} (c : cvH H H') {p : Addr} (h : H' p = none) : H p = none := by
  rcases c with rfl | ⟨a, h1, rfl⟩ | ⟨a, h1, rfl⟩
  · exact h
  · by_cases hp : p = a
    · rw [hp, upd_same] at h; cases h
    · rw [upd_ne hp] at h; exact h
  · by_cases hp : p = a
    · rw [hp, upd_same] at h; cases h
    · rw [upd_ne hp] at h; exact h
end
/-! ### a[b] -/
theorem at_of {K : PySem.W.Frag} {n : Nat} {m : Mp} {H : Hp} {xs : List PV} {vs : List V} {i : Int} {x : PV} (b : bnds n xs = true) (h : Rps K m H xs vs) (e : atI xs i = some x) : ∃ v, atI vs i = some v ∧ RV K n m H x v := by
  unfold atI at e ⊢
  rw [h.length]
  cases q : ixN xs.length i with
  | none => rw [q] at e; cases e
  | some j =>
    rw [q] at e
    have e' : xs[j]? = some x := e
    obtain ⟨v, ev, rv⟩ := h.get e'
    exact ⟨v, ev, bnds_get b e', rv⟩
def getV : F2 := fun x y S => match x, y with
  | .tup xs, .int i => match atI xs i with
    | some z => .ok z S
    | none => .stuck
  | .kup xs, .int i => match atI xs i with
    | some z => .ok z S
    | none => .stuck
  | .rol xs, .int i => match atI xs i with
    | some z => .ok z S
    | none => .stuck
  | .str z, .int i => if z.length ≤ sizeLine then match atI z.cps.toList i with
    | some c => .ok (.str ⟨#[c]⟩) S
    | none => .stuck
    else .stuck
  | .obj i, k => match S[i]? with
    | some (.lst xs) => match k with
      | .int j => match atI xs j with
        | some z => .ok z S
        | none => .stuck
      | _ => .stuck
    | some (.dic _ _) => match dicAt S i k with
      | some kvs => match dget kvs k with
        | some z => .ok z S
        | none => .stuck
      | none => .stuck
    | _ => .stuck
  | _, _ => .stuck
def rGetD : R2 := fun x y H Q => ∃ a v, x = .ref a ∧ DGet H a y (some v) ∧ Q v H
theorem ix_dic {X : Cx} (hu : X.A.units + 1 < cLine) : IxR X rGetD := by
  intro value slice pins s σ H x y v u Q I rx ry h hs
  obtain ⟨a, z, rfl, g, q⟩ := h
  cases rx
  unfold subscriptTail
  have hT := dict_typeIs I g
  refine wpAny_bind ?_
  rw [getitemInPython_of_ne hT.not_modules]
  refine wpAny_bind (wpAny_specialOf hT PySem.F.slot_dict_getitem.lookup ?_)
  have fin : wpAny (model X.prog X.w) X.A (subscripted slice false (.ref a) u) (fun r s₃ => wpAny (model X.prog X.w) X.A (letTemporaryGo value (.ref a) r >>= fun _ => pure r) (EP X pins σ Q) X.xe s₃) X.xe s := by
    rw [hs]
    exact wpAny_operating (d_getItem hu I g ry fun w' s3 I3 rw' => wpAny_bind (wpAny_letTemporaryGo (wpAny_pure ⟨z, H, I3, rw', q⟩)))
  first
    | exact fin
    | (refine wpAny_pure ?_; exact wpAny_bind fin)
    | exact wpAny_pure (wpAny_bind fin)
    | exact wpAny_bind fin
    | exact wpAny_bind (wpAny_pure fin)
def rGetV (K : PySem.W.Frag) : R2 := cv2 fun x y H Q => rIx K x y H Q ∨ rGetD x y H Q
theorem ix_getV {X : Cx} (hu : X.A.units + 1 < cLine) : IxR X (rGetV X.K) := ix_cv (ix_seq.or (ix_dic hu))
theorem op2_get {K : PySem.W.Frag} {mg : Str → Option Value} : Op2 K mg getV (rGetV K) := by
  intro W σ m S H x y v u Q rel rx ry f
  unfold getV at f
  cases x with
  | tup xs =>
    cases y with
    | int i =>
      simp only at f
      obtain ⟨b1, p, vs, rfl, hp, hvs⟩ := rx
      cases e : atI xs i with
      | none => rw [e] at f; exact f.elim
      | some z =>
        rw [e] at f
        obtain ⟨w, ew, rw'⟩ := at_of b1 hvs e
        exact ⟨H, .inl rfl, .inl (.inr (.inl ⟨p, vs, i, w, rfl, ry.2, SqT.of hp, ew, f.here rel rw'⟩))⟩
    | _ => exact f.elim
  | kup xs =>
    cases y with
    | int i =>
      simp only at f
      obtain ⟨b1, p, vs, rfl, hp, hvs⟩ := rx
      cases e : atI xs i with
      | none => rw [e] at f; exact f.elim
      | some z =>
        rw [e] at f
        obtain ⟨w, ew, rw'⟩ := at_of b1 hvs e
        exact ⟨H, .inl rfl, .inl (.inr (.inl ⟨p, vs, i, w, rfl, ry.2, hp.t, ew, f.here rel rw'⟩))⟩
    | _ => exact f.elim
  | rol xs =>
    cases y with
    | int i =>
      simp only at f
      obtain ⟨b1, p, vs, rfl, hp, hvs⟩ := rx
      cases e : atI xs i with
      | none => rw [e] at f; exact f.elim
      | some z =>
        rw [e] at f
        obtain ⟨w, ew, rw'⟩ := at_of b1 hvs e
        exact ⟨H, .inl rfl, .inl (.inl ⟨p, vs, i, w, rfl, ry.2, hp.l, ew, f.here rel rw'⟩)⟩
    | _ => exact f.elim
  | str z =>
    cases y with
    | int i =>
      simp only at f
      have ex : v = .str z := rx.2
      by_cases q : z.length ≤ sizeLine
      · rw [if_pos q] at f
        cases e : atI z.cps.toList i with
        | none => rw [e] at f; exact f.elim
        | some c =>
          rw [e] at f
          exact ⟨H, .inl rfl, .inl (.inr (.inr ⟨z, i, c, ex, ry.2, q, e, f.here rel ⟨rfl, rfl⟩⟩))⟩
      · rw [if_neg q] at f
        exact f.elim
    | _ => exact f.elim
  | obj i =>
    have ex : v = .ref (m i) := rx.2
    simp only at f
    cases ei : S[i]? with
    | none => simp only [ei] at f; exact f.elim
    | some o =>
      simp only [ei] at f
      cases o with
      | lst xs =>
        cases y with
        | int j =>
          simp only at f
          obtain ⟨b1, vs, hp, hvs⟩ := rel.lst ei
          cases e : atI xs j with
          | none => rw [e] at f; exact f.elim
          | some z =>
            rw [e] at f
            obtain ⟨w, ew, rw'⟩ := at_of b1 hvs e
            exact ⟨H, .inl rfl, .inl (.inl ⟨m i, vs, j, w, ex, ry.2, SqL.of hp, ew, f.here rel rw'⟩)⟩
        | _ => exact f.elim
      | dic lk kvs' =>
        simp only at f
        cases e : dicAt S i y with
        | none => rw [e] at f; exact f.elim
        | some kvs =>
          rw [e] at f
          simp only at f
          cases e2 : dget kvs y with
          | none => rw [e2] at f; exact f.elim
          | some z =>
            rw [e2] at f
            obtain ⟨H', c, r', e', g1, g2⟩ := dic_get rel e ry
            obtain ⟨w, g, rw'⟩ := g1 z e2
            exact ⟨H', c, .inr ⟨m i, w, ex, g, (Fin.from f e' (Nat.le_refl _)).here r' rw'⟩⟩
      | ins _ _ => exact f.elim
  | _ => exact f.elim
theorem de_ix {X : Cx} {W : WX} {pos : Pos} {a b : Expr} {ca cb : CE PV} (hu : X.A.units + 1 < cLine) (ha : DE X W a ca) (hb : DE X W b cb) (hs : PlainIx b := by exact fun _ _ => rfl) : DE X W (.Subscript a b pos) (eBin getV ca cb) :=
  pe_imp (pe_ix (ix_getV hu) ha hb hs) (rd_bin op2_get)
end TL

set_option Elab.async false
set_option linter.all false
set_option maxRecDepth 100000
set_option maxHeartbeats 1000000
/-! TL5: membership, slices, what is thrown away (gc), calls of defs, built-in functions. -/
namespace TL
open PySem PySem.Spec PyProof.Rows L2
/-! ### in -/
def flatP : PV → Option V
  | .non => some .non
  | .bl b => some (.bl b)
  | .int i => some (.int i)
  | .str x => some (.str x)
  | _ => none
def flatsP : List PV → Option (List V)
  | [] => some []
  | x :: xs => match flatP x, flatsP xs with
    | some v, some vs => some (v :: vs)
    | _, _ => none
section
variable {K : PySem.W.Frag} {mg : Str → Option Value} {W : WX} {σ : L2.St} {m : Mp} {S : Store} {H : Hp} {Q : VK}
theorem flatP_ok {x : PV} {v w : V} (h : Rp K m H x v) (e : flatP x = some w) : v = w ∧ flatV w = true := by
  cases x with
  | non => cases e; exact ⟨h, rfl⟩
  | bl b => cases e; exact ⟨h, rfl⟩
  | int i => cases e; exact ⟨h, rfl⟩
  | str i => cases e; exact ⟨h, rfl⟩
  | _ => cases e
theorem flatsP_ok : ∀ {xs : List PV} {vs ws : List V}, Rps K m H xs vs → flatsP xs = some ws → vs = ws ∧ ws.all flatV = true
  | [], vs, ws, h, e => by
    have h' : vs = [] := h
    cases e
    exact ⟨h', rfl⟩
  | x :: xs, vs, ws, h, e => by
    obtain ⟨v, r, rfl, h1, h2⟩ := h
    unfold flatsP at e
    cases e1 : flatP x with
    | none => rw [e1] at e; cases e
    | some w =>
      cases e2 : flatsP xs with
      | none => rw [e1, e2] at e; cases e
      | some ws' =>
        rw [e1, e2] at e
        cases e
        obtain ⟨q1, f1⟩ := flatP_ok h1 e1
        obtain ⟨q2, f2⟩ := flatsP_ok h2 e2
        exact ⟨by rw [q1, q2], by rw [List.all_cons, f1, f2]; rfl⟩
end
/-- x among xs, all flat; else as data -/
def inSeq (g : Bool → Bool) (x : PV) (xs : List PV) (S : Store) : Res PV := match flatP x, flatsP xs with
  | some v, some vs => .ok (.bl (g (inV v vs))) S
  | _, _ => .stuck
def inDat (g : Bool → Bool) (x : PV) (xs : List PV) (S : Store) : Res PV := match toD S 65 x, dList (toD S 65) xs with
  | some d, some ds => if SeqAt.shaped d = true ∧ SeqAt.shaped (.list ds) = true then .ok (.bl (g (ds.any fun z => PyData.eqv z d))) S else .stuck
  | _, _ => .stuck
def inG (g : Bool → Bool) : F2 := fun x y S => match y with
  | .str z => match x with
    | .str w => match w.cps.toList with
      | [c] => .ok (.bl (g (decide (c ∈ z.cps.toList)))) S
      | _ => .ok (.bl (g (!(Builtin.Str.occurrences z w 0 z.length 1).isEmpty))) S
    | _ => .stuck
  | .tup ys => inSeq g x ys S
  | .kup ys => inSeq g x ys S
  | .rol ys => inSeq g x ys S
  | .obj i => match S[i]? with
    | some (.lst ys) => match flatP x, flatsP ys with
      | some v, some vs => .ok (.bl (g (inV v vs))) S
      | _, _ => inDat g x ys S
    | some (.dic _ _) => match dicAt S i x with
      | some kvs => .ok (.bl (g (dget kvs x).isSome)) S
      | none => .stuck
    | _ => .stuck
  | _ => .stuck
abbrev inV' : F2 := inG fun b => b
abbrev ninV : F2 := inG fun b => !b
def rInS1 (g : Bool → Bool) : R2 := fun x y H Q => ∃ (c : Nat) (z : Str), x = .str ⟨#[c]⟩ ∧ y = .str z ∧ Q (.bl (g (decide (c ∈ z.cps.toList)))) H
def rInS2 (g : Bool → Bool) : R2 := fun x y H Q => ∃ i j, x = .str i ∧ y = .str j ∧ Q (.bl (g (!(Builtin.Str.occurrences j i 0 j.length 1).isEmpty))) H
def rInQ (K : PySem.W.Frag) (g : Bool → Bool) : R2 := fun x y H Q => ∃ p xs, y = .ref p ∧ (SqL K H p xs ∨ SqT K H p xs) ∧ flatV x = true ∧ xs.all flatV = true ∧ Q (.bl (g (inV x xs))) H
def rInE (K : PySem.W.Frag) (g : Bool → Bool) : R2 := fun x y H Q => ∃ d ds, Dp K H x d ∧ Dp K H y (.list ds) ∧ SeqAt.shaped d = true ∧ SeqAt.shaped (.list ds) = true ∧ Q (.bl (g (ds.any fun z => PyData.eqv z d))) H
def rInK (g : Bool → Bool) : R2 := fun x y H Q => ∃ a o, y = .ref a ∧ DGet H a x o ∧ Q (.bl (g o.isSome)) H
def rInG (K : PySem.W.Frag) (g : Bool → Bool) : R2 := cv2 fun x y H Q => rInS1 g x y H Q ∨ rInS2 g x y H Q ∨ rInQ K g x y H Q ∨ rInE K g x y H Q ∨ rInK g x y H Q
theorem op_in {X : Cx} (hu : X.A.units + 65 < cLine) : OpR X (compareOp .In) (rInG X.K fun b => b) :=
  op_cv (op_in_sign.or (op_in_str.or (OpR.or (fun pins s σ H x y v u Q I rx ry h => op_in_seq pins s σ H x y v u Q I rx ry h) ((op_inD hu).or (fun pins s σ H x y v u Q I rx ry h => by
    obtain ⟨a, o, rfl, g, q⟩ := h
    cases ry
    exact d_in (by omega) I g rx fun s' I' => ⟨.bl o.isSome, H, I', rfl, q⟩)))))
theorem op_nin {X : Cx} (hu : X.A.units + 65 < cLine) : OpR X (compareOp .NotIn) (rInG X.K fun b => !b) :=
  op_cv (op_notIn_sign.or (op_notIn_str.or (OpR.or (fun pins s σ H x y v u Q I rx ry h => op_notIn_seq pins s σ H x y v u Q I rx ry h) ((op_notInD hu).or (fun pins s σ H x y v u Q I rx ry h => by
    obtain ⟨a, o, rfl, g, q⟩ := h
    cases ry
    exact d_notIn (by omega) I g rx fun s' I' => ⟨.bl (!o.isSome), H, I', rfl, q⟩)))))
theorem op2_in {K : PySem.W.Frag} {mg : Str → Option Value} (g : Bool → Bool) : Op2 K mg (inG g) (rInG K g) := by
  have seq : ∀ (W : WX) (σ : L2.St) (m : Mp) (S : Store) (H : Hp) (x : PV) (ys : List PV) (v : V) (p : Addr) (us : List V) (Q : VK), Rel K mg m S H → RV K S.length m H x v → (SqL K H p us ∨ SqT K H p us) → Rps K m H ys us →
      Fin K mg W σ m S H (RV K) Q (inSeq g x ys S) → rInQ K g v (.ref p) H Q := by
    intro W σ m S H x ys v p us Q rel rx hp hus f
    unfold inSeq at f
    cases e1 : flatP x with
    | none => rw [e1] at f; exact f.elim
    | some w =>
      cases e2 : flatsP ys with
      | none => rw [e1, e2] at f; exact f.elim
      | some ws =>
        rw [e1, e2] at f
        obtain ⟨q1, f1⟩ := flatP_ok rx.2 e1
        obtain ⟨q2, f2⟩ := flatsP_ok hus e2
        subst q1 q2
        exact ⟨p, us, rfl, hp, f1, f2, f.here rel ⟨rfl, rfl⟩⟩
  intro W σ m S H x y v u Q rel rx ry f
  unfold inG at f
  cases y with
  | str z =>
    cases x with
    | str w =>
      have ex : v = .str w := rx.2
      have ey : u = .str z := ry.2
      simp only at f
      split at f
      · rename_i c ec
        refine ⟨H, .inl rfl, .inl ⟨c, z, ?_, ey, f.here rel ⟨rfl, rfl⟩⟩⟩
        rw [ex]
        have : w = ⟨#[c]⟩ := by
          cases w with
          | mk cps =>
            have e : cps.toList = [c] := ec
            have e' : cps = #[c] := by
              apply Array.toList_inj.mp
              exact e
            rw [e']
        rw [this]
      · exact ⟨H, .inl rfl, .inr (.inl ⟨w, z, ex, ey, f.here rel ⟨rfl, rfl⟩⟩)⟩
    | _ => exact f.elim
  | tup ys =>
    obtain ⟨b2, q, us, rfl, hq, hus⟩ := ry
    exact ⟨H, .inl rfl, .inr (.inr (.inl (seq W σ m S H x ys v q us Q rel rx (.inr (SqT.of hq)) hus f)))⟩
  | kup ys =>
    obtain ⟨b2, q, us, rfl, hq, hus⟩ := ry
    exact ⟨H, .inl rfl, .inr (.inr (.inl (seq W σ m S H x ys v q us Q rel rx (.inr hq.t) hus f)))⟩
  | rol ys =>
    obtain ⟨b2, q, us, rfl, hq, hus⟩ := ry
    exact ⟨H, .inl rfl, .inr (.inr (.inl (seq W σ m S H x ys v q us Q rel rx (.inl hq.l) hus f)))⟩
  | obj i =>
    have ey : u = .ref (m i) := ry.2
    subst ey
    simp only at f
    cases ei : S[i]? with
    | none => simp only [ei] at f; exact f.elim
    | some o =>
      simp only [ei] at f
      cases o with
      | lst ys =>
        obtain ⟨b2, us, hq, hus⟩ := rel.lst ei
        have dat : Fin K mg W σ m S H (RV K) Q (inDat g x ys S) → rInE K g v (.ref (m i)) H Q := by
          intro f
          unfold inDat at f
          cases e1 : toD S 65 x with
          | none => rw [e1] at f; exact f.elim
          | some d =>
            cases e2 : dList (toD S 65) ys with
            | none => rw [e1, e2] at f; exact f.elim
            | some ds =>
              rw [e1, e2] at f
              simp only at f
              by_cases hh : SeqAt.shaped d = true ∧ SeqAt.shaped (.list ds) = true
              · rw [if_pos hh] at f
                have e3 : toD S 66 (.obj i) = some (.list ds) := by
                  show (match S[i]? with | some (.lst xs) => (dList (toD S 65) xs).map PyData.list | _ => none) = _
                  rw [ei]
                  simp only [e2]
                  rfl
                exact ⟨d, ds, dp_of rel 65 x v d rx.2 e1, dp_of rel 66 (.obj i) _ _ rfl e3, hh.1, hh.2, f.here rel ⟨rfl, rfl⟩⟩
              · rw [if_neg hh] at f
                exact f.elim
        cases e1 : flatP x with
        | none =>
          simp only [e1] at f
          exact ⟨H, .inl rfl, .inr (.inr (.inr (.inl (dat f))))⟩
        | some w =>
          cases e2 : flatsP ys with
          | none =>
            simp only [e1, e2] at f
            exact ⟨H, .inl rfl, .inr (.inr (.inr (.inl (dat f))))⟩
          | some ws =>
            simp only [e1, e2] at f
            obtain ⟨q1, f1⟩ := flatP_ok rx.2 e1
            obtain ⟨q2, f2⟩ := flatsP_ok hus e2
            subst q1 q2
            exact ⟨H, .inl rfl, .inr (.inr (.inl ⟨m i, us, rfl, .inl (SqL.of hq), f1, f2, f.here rel ⟨rfl, rfl⟩⟩))⟩
      | dic lk kvs' =>
        simp only at f
        cases e : dicAt S i x with
        | none => rw [e] at f; exact f.elim
        | some kvs =>
          rw [e] at f
          obtain ⟨H', c, r', e', g1, g2⟩ := dic_get rel e rx
          have f' := Fin.from f e' (Nat.le_refl _)
          refine ⟨H', c, .inr (.inr (.inr (.inr ?_)))⟩
          cases q : dget kvs x with
          | none =>
            simp only [q] at f'
            exact ⟨m i, none, rfl, g2 q, f'.here r' ⟨rfl, rfl⟩⟩
          | some z =>
            simp only [q] at f'
            obtain ⟨w, gg, _⟩ := g1 z q
            exact ⟨m i, some w, rfl, gg, f'.here r' ⟨rfl, rfl⟩⟩
      | ins _ _ => exact f.elim
  | _ => exact f.elim
end TL

set_option Elab.async false
set_option linter.all false
set_option maxRecDepth 100000
set_option maxHeartbeats 1000000
/-! TL6: slices, what is thrown away (gc), calls of defs, built-in functions. -/
namespace TL
open PySem PySem.Spec PyProof.Rows L2
/-! ### slices -/
def cutP (xs : List PV) (lo hi : Option Int) : List PV := (xs.drop (HT.sIx xs.length 0 lo)).take (HT.sIx xs.length xs.length hi - HT.sIx xs.length 0 lo)
def oNone : CE (Option Int) := fun _ S => .ok none S
def oSome (c : CE PV) : CE (Option Int) := fun ρ S => (c ρ S).bind fun x S1 => match x with
  | .int i => .ok (some i) S1
  | _ => .stuck
def sliceV (x : PV) (lo hi : Option Int) (S : Store) : Res PV := match x with
  | .tup xs => .ok (.tup (cutP xs lo hi)) S
  | .rol xs => .ok (.obj S.length) (S ++ [.lst (cutP xs lo hi)])
  | .str z => if z.length ≤ sizeLine then .ok (.str (cutS z lo hi)) S else .stuck
  | .obj i => match S[i]? with
    | some (.lst xs) => .ok (.obj S.length) (S ++ [.lst (cutP xs lo hi)])
    | _ => .stuck
  | _ => .stuck
def eSlice (c : CE PV) (l h : CE (Option Int)) : CE PV := fun ρ S => (c ρ S).bind fun x S1 => (l ρ S1).bind fun lo S2 => (h ρ S2).bind fun hi S3 => sliceV x lo hi S3
def rSliceV (K : PySem.W.Frag) : V → Option Int → Option Int → Hp → VK → Prop := fun x lo hi H Q => rSlA K x lo hi H Q ∨ rSlL K x lo hi H Q ∨ rSlS x lo hi H Q
theorem sl_V {X : Cx} : SlR X (rSliceV X.K) := sl_tupA.or (sl_list.or sl_str)
theorem bnds_cut {n : Nat} {xs : List PV} (h : bnds n xs = true) (lo hi : Option Int) : bnds n (cutP xs lo hi) = true :=
  bnds_all.mpr fun x hx => bnds_all.mp h x (List.mem_of_mem_drop (List.mem_of_mem_take hx))
section
variable {K : PySem.W.Frag} {mg : Str → Option Value} {W : WX} {σ : L2.St} {m : Mp} {S : Store} {H : Hp} {Q : VK}
theorem Rps.cut {xs : List PV} {vs : List V} (h : Rps K m H xs vs) (lo hi : Option Int) : Rps K m H (cutP xs lo hi) (cutV vs lo hi) := by
  unfold cutP cutV
  rw [h.length]
  exact (h.drop _).take _
theorem cut_whole {xs : List PV} {lo hi : Option Int} (h : HT.sIx xs.length 0 lo = 0 ∧ HT.sIx xs.length xs.length hi = xs.length) : cutP xs lo hi = xs := by
  unfold cutP
  rw [h.1, h.2]
  simp
theorem slice_ok {x : PV} {v : V} {lo hi : Option Int} (rel : Rel K mg m S H) (rx : RV K S.length m H x v) (f : Fin K mg W σ m S H (RV K) Q (sliceV x lo hi S)) : rSliceV K v lo hi H Q := by
  unfold sliceV at f
  cases x with
  | tup xs =>
    obtain ⟨b1, p, vs, rfl, hp, hvs⟩ := rx
    refine .inl ⟨p, vs, rfl, SqT.of hp, fun w => ?_, fun _ q hq => f.tup rel (bnds_cut b1 lo hi) (hvs.cut lo hi) hq⟩
    have w' : HT.sIx xs.length 0 lo = 0 ∧ HT.sIx xs.length xs.length hi = xs.length := by rw [← hvs.length]; exact w
    have f' : Fin K mg W σ m S H (RV K) Q (.ok (.tup (cutP xs lo hi)) S) := f
    rw [cut_whole w'] at f'
    exact f'.here rel ⟨b1, p, vs, rfl, hp, hvs⟩
  | rol xs =>
    obtain ⟨b1, p, vs, rfl, hp, hvs⟩ := rx
    exact .inr (.inl ⟨p, vs, rfl, hp.l, fun q hq => f.lst rel (bnds_cut b1 lo hi) (hvs.cut lo hi) hq⟩)
  | str z =>
    have ex : v = .str z := rx.2
    simp only at f
    by_cases q : z.length ≤ sizeLine
    · rw [if_pos q] at f
      exact .inr (.inr ⟨z, ex, q, f.here rel ⟨rfl, rfl⟩⟩)
    · rw [if_neg q] at f
      exact f.elim
  | obj i =>
    have ex : v = .ref (m i) := rx.2
    simp only at f
    cases ei : S[i]? with
    | none => simp only [ei] at f; exact f.elim
    | some o =>
      simp only [ei] at f
      cases o with
      | lst xs =>
        obtain ⟨b1, vs, hp, hvs⟩ := rel.lst ei
        exact .inr (.inl ⟨m i, vs, ex, SqL.of hp, fun q hq => f.lst rel (bnds_cut b1 lo hi) (hvs.cut lo hi) hq⟩)
      | _ => exact f.elim
  | _ => exact f.elim
end
section
variable {X : Cx} {W : WX} {pos p2 : Pos} {a b : Expr} {lo hi : Option Expr} {ca cb : CE PV} {cl ch : CE (Option Int)}
theorem do_none : DO X W none oNone := po_imp po_none fun σ H Q h => by
  obtain ⟨m, S, ρ, at_, fin⟩ := h
  exact fin.here at_.rel rfl
theorem do_some (h : DE X W a ca) : DO X W (some a) (oSome ca) := po_imp (po_some h) fun σ H Q h => by
  obtain ⟨m, S, ρ, at_, fin⟩ := h
  refine ⟨m, S, ρ, at_, (Fin.bind at_ fin).mono fun v H1 h1 => ?_⟩
  obtain ⟨m1, S1, x, at1, r1, e1, l1, f1⟩ := h1
  cases x with
  | int i => exact ⟨i, r1.2, f1.here at1.rel rfl⟩
  | _ => exact f1.elim
theorem de_slice (ha : DE X W a ca) (hl : DO X W lo cl) (hh : DO X W hi ch) : DE X W (.Subscript a (.Slice lo hi none p2) pos) (eSlice ca cl ch) := by
  refine pe_imp (pe_slice sl_V ha hl hh) fun σ H Q h => ?_
  obtain ⟨m, S, ρ, at_, fin⟩ := h
  refine ⟨m, S, ρ, at_, (Fin.bind at_ fin).mono fun v H1 h1 => ?_⟩
  obtain ⟨m1, S1, x, at1, r1, e1, l1, f1⟩ := h1
  refine ⟨m1, S1, ρ, at1, (Fin.bind at1 f1).mono fun vl H2 h2 => ?_⟩
  obtain ⟨m2, S2, l, at2, r2, e2, l2, f2⟩ := h2
  refine ⟨m2, S2, ρ, at2, (Fin.bind at2 f2).mono fun vh H3 h3 => ?_⟩
  obtain ⟨m3, S3, h, at3, r3, e3, l3, f3⟩ := h3
  have r2' : l = vl := r2
  have r3' : h = vh := r3
  subst r2' r3'
  exact slice_ok at3.rel (stbV e3 l3 (stbV e2 l2 r1)) f3
end
/-! ### what is thrown away -/
open Classical in
noncomputable def gc (S : Store) : Res PV → Res PV
  | .ok x S' => if bnd S.length x = true ∧ S <+: S' then .ok x S else match x with
    | .obj i => if S.length ≤ i ∧ S <+: S' then match S'[i]? with
      | some o => if bndO S.length o = true then .ok (.obj S.length) (S ++ [o]) else .ok x S'
      | none => .ok x S'
      else .ok x S'
    | _ => .ok x S'
  | .exc c none S' => if S <+: S' then .exc c none S else .exc c none S'
  | .exc c p S' => .exc c p S'
  | .stuck => .stuck
section
variable {K : PySem.W.Frag} {mg : Str → Option Value} {W : WX} {σ : L2.St} {m : Mp} {S : Store} {H : Hp} {Q : VK}
theorem pre_get {S S' : Store} (h : S <+: S') {i : Nat} (hi : i < S.length) : S'[i]? = S[i]? := by
  obtain ⟨t, rfl⟩ := h
  rw [List.getElem?_append_left hi]
theorem Rel.shrink {S' : Store} {m' : Mp} {H' : Hp} (r : Rel K mg m S H) (r' : Rel K mg m' S' H') (h : S <+: S') : Rel K mg m' S H' := by
  have hl : S.length ≤ S'.length := h.length_le
  refine ⟨fun i j hi hj e => r'.inj i j (by omega) (by omega) e, fun i o e => ?_, fun i o e => r.wf i o e⟩
  have hi := (List.getElem?_eq_some_iff.mp e).1
  exact r'.ob i o (by rw [pre_get h hi]; exact e)
theorem Fin.gc {r : Res PV} (rel : Rel K mg m S H) (f : Fin K mg W σ m S H (RV K) Q (gc S r)) : Fin K mg W σ m S H (RV K) Q r := by
  cases r with
  | stuck => exact f
  | exc c p S' =>
    cases p with
    | some p => exact f
    | none =>
      unfold TL.gc at f
      simp only at f
      by_cases h : S <+: S'
      · rw [if_pos h] at f
        exact fun m' H' d e l r x => f m' H' d e (Nat.le_refl _) (rel.shrink r h) x
      · rw [if_neg h] at f
        exact f
  | ok x S' =>
    unfold TL.gc at f
    simp only at f
    by_cases h : bnd S.length x = true ∧ S <+: S'
    · rw [if_pos h] at f
      exact fun m' H' v e l r x => f m' H' v e (Nat.le_refl _) (rel.shrink r h.2) ⟨h.1, x.2⟩
    · rw [if_neg h] at f
      cases x with
      | obj i =>
        simp only at f
        by_cases h2 : S.length ≤ i ∧ S <+: S'
        · rw [if_pos h2] at f
          cases e0 : S'[i]? with
          | none => rw [e0] at f; exact f
          | some o =>
            rw [e0] at f
            simp only at f
            by_cases h3 : bndO S.length o = true
            · rw [if_pos h3] at f
              intro m' H' v e l r x
              have hl : S.length ≤ S'.length := h2.2.length_le
              have hi : i < S'.length := (List.getElem?_eq_some_iff.mp e0).1
              have ev : v = .ref (m' i) := x.2
              have r0 := rel.shrink r h2.2
              have ex : Ext K S.length m' H' (mNew m' S.length (m' i)) H' := ⟨fun j hj => mNew_lt hj, fun _ _ q => q, fun _ _ q => q, fun _ _ q => q, fun _ _ _ q => q⟩
              refine f (mNew m' S.length (m' i)) H' v (e.trans ex (Nat.le_refl _)) (by rw [List.length_append]; omega) ⟨fun j k hj hk eq => ?_, fun j p ej => ?_, fun j p ej => ?_⟩ ⟨decide_eq_true ?_, ?_⟩
              · rw [List.length_append, List.length_singleton] at hj hk
                by_cases q1 : j = S.length
                · by_cases q2 : k = S.length
                  · omega
                  · rw [q1, mNew_at, mNew_lt (by omega)] at eq
                    have := r.inj i k hi (by omega) eq
                    omega
                · by_cases q2 : k = S.length
                  · rw [q2, mNew_at, mNew_lt (by omega)] at eq
                    have := r.inj j i (by omega) hi eq
                    omega
                  · rw [mNew_lt (by omega), mNew_lt (by omega)] at eq
                    exact r0.inj j k (by omega) (by omega) eq
              · by_cases hj : j < S.length
                · rw [List.getElem?_append_left hj] at ej
                  rw [mNew_lt hj]
                  exact (r0.ob j p ej).ext ex rfl p (r0.wf j p ej)
                · have h4 := (List.getElem?_eq_some_iff.mp ej).1
                  rw [List.length_append, List.length_singleton] at h4
                  have h5 : j = S.length := by omega
                  subst h5
                  rw [List.getElem?_append_right (Nat.le_refl _), Nat.sub_self] at ej
                  have e' : o = p := Option.some.inj ej
                  subst e'
                  rw [mNew_at]
                  exact (r.ob i o e0).ext ex rfl o h3
              · rw [List.length_append, List.length_singleton]
                by_cases hj : j < S.length
                · rw [List.getElem?_append_left hj] at ej
                  exact bndO_mono (Nat.le_succ _) p (r0.wf j p ej)
                · have h4 := (List.getElem?_eq_some_iff.mp ej).1
                  rw [List.length_append, List.length_singleton] at h4
                  have h5 : j = S.length := by omega
                  subst h5
                  rw [List.getElem?_append_right (Nat.le_refl _), Nat.sub_self] at ej
                  have e' : o = p := Option.some.inj ej
                  subst e'
                  exact bndO_mono (Nat.le_succ _) o h3
              · rw [List.length_append, List.length_singleton]; omega
              · show v = V.ref (mNew m' S.length (m' i) S.length)
                rw [mNew_at]
                exact ev
            · rw [if_neg h3] at f
              exact f
        · rw [if_neg h2] at f
          exact f
      | _ => exact f
end
noncomputable def eGc (c : CE PV) : CE PV := fun ρ S => gc S (c ρ S)
theorem de_gc {X : Cx} {W : WX} {a : Expr} {ca : CE PV} (h : DE X W a ca) : DE X W a (eGc ca) := pe_imp h fun σ H Q h => by
  obtain ⟨m, S, ρ, at_, fin⟩ := h
  exact ⟨m, S, ρ, at_, fin.gc at_.rel⟩
/-! ### defs -/
abbrev DF := List PV → Store → Res PV
/-- the promise of a def that does f -/
def spF (K : PySem.W.Frag) (mg : Str → Option Value) (n : Nat) (f : DF) : Sp := fun vs H Q E => ∃ (m : Mp) (S : Store) (xs : List PV), Rel K mg m S H ∧ RL K S.length m H xs vs ∧ vs.length = n ∧ Fin K mg (fun cls d _ H => E cls d H) [] m S H (RV K) Q (f xs S)
noncomputable def eCall (n : Nat) (f : DF) (cs : CE (List PV)) : CE PV := fun ρ S => (cs ρ S).bind fun xs S1 => if xs.length = n then gc S1 (f xs S1) else .stuck
theorem Fin.chg {K : PySem.W.Frag} {mg : Str → Option Value} {W W' : WX} {σ σ' : L2.St} {m : Mp} {S : Store} {H : Hp} {α β : Type} {R : RR α β} {Q : β → Hp → Prop} {r : Res α} (h : Fin K mg W σ m S H R Q r) (w : ∀ cls d H, W cls d σ H → W' cls d σ' H) : Fin K mg W' σ' m S H R Q r := by
  cases r with
  | ok x S' => exact h
  | exc c p S' => exact fun m' H' d e l r x => w _ _ _ (h m' H' d e l r x)
  | stuck => exact h
section
variable {X : Cx} {W : WX} {x : Str} {p pos : Pos} {e : Expr} {es : List Expr} {cs : CE (List PV)} {k n : Nat} {f : Addr} {fd : FuncData} {ps : List Str} {F : DF}
theorem de_call (tk : Takes X W) (G : FnOk X.prog X.w X.K X.mg X.base (L2.CX X.prog X.w) k f fd ps (spF X.K X.mg n F)) (hr : Room k X.A) (hm : X.mg x = some (.ref f)) (hk : PySem.W.keepIn X.K (.ref f) = true) (hb : Binds X.K fd ps [])
    (ha : DA X W (e :: es) cs) (hg : Gl X x := by rfl) (hdb : (x == ("__debug__" : Str)) = false := by decide) (he : starEach (e :: es) X.env = (false, eval e X.env) :: starEach es X.env := by rfl) (hpl : (backTo pos (starEach es X.env)).any (·.1) = false := by rfl) :
    DE X W (.Call (.Name x p) (e :: es) [] pos) (eCall n F cs) := by
  refine pe_imp (pe_callS G hr hg hm hk hb (fun σ => passAt tk σ) ha hdb he hpl) fun σ H Q h => ?_
  obtain ⟨m, S, ρ, at_, fin⟩ := h
  refine ⟨m, S, ρ, at_, (Fin.bind at_ fin).mono fun vs H1 h1 => ?_⟩
  obtain ⟨m1, S1, xs, at1, r1, e1, l1, f1⟩ := h1
  dsimp only at f1
  by_cases hn : xs.length = n
  · rw [if_pos hn] at f1
    exact ⟨m1, S1, xs, at1.rel, r1, by rw [r1.2.length]; exact hn, (f1.gc at1.rel).chg fun _ _ _ h => h⟩
  · rw [if_neg hn] at f1
    exact f1.elim
end
/-! ### built-in functions -/
abbrev FB := List PV → Store → Res PV
def OpC (K : PySem.W.Frag) (mg : Str → Option Value) (f : FB) (r : List V → Hp → VK → Prop) : Prop := ∀ (W : WX) (σ : L2.St) (m : Mp) (S : Store) (H : Hp) (xs : List PV) (vs : List V) (Q : VK),
  Rel K mg m S H → RL K S.length m H xs vs → Fin K mg W σ m S H (RV K) Q (f xs S) → r vs H Q
def eB (f : FB) (cs : CE (List PV)) : CE PV := fun ρ S => (cs ρ S).bind fun xs S1 => f xs S1
section
variable {X : Cx} {W : WX} {x : Str} {p pos : Pos} {e : Expr} {es : List Expr} {cs : CE (List PV)} {F : FB} {r : List V → Hp → VK → Prop}
theorem rd_B (o : OpC X.K X.mg F r) (σ : L2.St) (H : Hp) (Q : VK) (h : rdE X.K X.mg W (eB F cs) σ H Q) : tCB r (rdA X.K X.mg W cs) σ H Q := by
  obtain ⟨m, S, ρ, at_, fin⟩ := h
  refine ⟨m, S, ρ, at_, (Fin.bind at_ fin).mono fun vs H1 h1 => ?_⟩
  obtain ⟨m1, S1, xs, at1, r1, e1, l1, f1⟩ := h1
  exact o W σ m1 S1 H1 xs vs Q at1.rel r1 f1
theorem de_B {id : String} (hc : CallR X (.builtin id) r) (o : OpC X.K X.mg F r) (hm : X.mg x = none) (ha : DA X W (e :: es) cs) (hv : bootBuiltins x = some (.builtin id) := by decide +kernel) (hg : Gl X x := by rfl) (hn : x ≠ "__name__" := by decide) (hdb : (x == ("__debug__" : Str)) = false := by decide)
    (he : starEach (e :: es) X.env = (false, eval e X.env) :: starEach es X.env := by rfl) (hpl : (backTo pos (starEach es X.env)).any (·.1) = false := by rfl) : DE X W (.Call (.Name x p) (e :: es) [] pos) (eB F cs) :=
  pe_imp (pe_callB hc hg hm hv ha hn hdb he hpl) (rd_B o)
theorem de_Ty {T : String} (hc : CallR X (.type T) r) (o : OpC X.K X.mg F r) (hm : X.mg x = none) (ha : DA X W (e :: es) cs) (hv : bootBuiltins x = some (.type T) := by decide +kernel) (hg : Gl X x := by rfl) (hn : x ≠ "__name__" := by decide) (hdb : (x == ("__debug__" : Str)) = false := by decide)
    (he : starEach (e :: es) X.env = (false, eval e X.env) :: starEach es X.env := by rfl) (hpl : (backTo pos (starEach es X.env)).any (·.1) = false := by rfl) : DE X W (.Call (.Name x p) (e :: es) [] pos) (eB F cs) :=
  pe_imp (pe_callTy hc hg hm hv ha hn hdb he hpl) (rd_B o)
end
end TL

set_option Elab.async false
set_option linter.all false
set_option maxRecDepth 100000
set_option maxHeartbeats 1000000
/-! TL7: statements. -/
namespace TL
open PySem PySem.Spec PyProof.Rows L2
inductive SR where
  | next (ρ : Sl) (S : Store)
  | ret (x : PV) (S : Store)
  | brk (ρ : Sl) (S : Store)
  | cont (ρ : Sl) (S : Store)
  | exc (c : Str) (p : Option (Str × PV)) (ρ : Sl) (S : Store)
  | stuck
abbrev CS := Sl → Store → SR
/-- behind an expression -/
def sb {α : Type} (r : Res α) (ρ : Sl) (k : α → Store → SR) : SR := match r with
  | .ok x S => k x S
  | .exc c p S => .exc c p ρ S
  | .stuck => .stuck
theorem sb_ok {α : Type} {x : α} {S : Store} {ρ : Sl} {k : α → Store → SR} : sb (.ok x S) ρ k = k x S := rfl
theorem sb_exc {α : Type} {c : Str} {p : Option (Str × PV)} {S : Store} {ρ : Sl} {k : α → Store → SR} : sb (.exc c p S) ρ k = .exc c p ρ S := rfl
theorem sb_stuck {α : Type} {ρ : Sl} {k : α → Store → SR} : sb (.stuck : Res α) ρ k = .stuck := rfl
def FinS (K : PySem.W.Frag) (mg : Str → Option Value) (W : WX) (m : Mp) (S : Store) (H : Hp) (D : Ends) : SR → Prop
  | .next ρ' S' => ∀ (m' : Mp) (H' : Hp) (σ' : L2.St), Ext K S.length m H m' H' → S.length ≤ S'.length → At K mg m' S' H' ρ' σ' → D.nx σ' H'
  | .brk ρ' S' => ∀ (m' : Mp) (H' : Hp) (σ' : L2.St), Ext K S.length m H m' H' → S.length ≤ S'.length → At K mg m' S' H' ρ' σ' → D.bk σ' H'
  | .cont ρ' S' => ∀ (m' : Mp) (H' : Hp) (σ' : L2.St), Ext K S.length m H m' H' → S.length ≤ S'.length → At K mg m' S' H' ρ' σ' → D.ct σ' H'
  | .ret x S' => ∀ (m' : Mp) (H' : Hp) (v : V), Ext K S.length m H m' H' → S.length ≤ S'.length → Rel K mg m' S' H' → RV K S'.length m' H' x v → D.rt v H'
  | .exc c p ρ' S' => ∀ (m' : Mp) (H' : Hp) (σ' : L2.St) (d : Option Addr), Ext K S.length m H m' H' → S.length ≤ S'.length → At K mg m' S' H' ρ' σ' → XR K S'.length m' H' p d → W (.ref (ca mg c)) d σ' H'
  | .stuck => False
def rdS (K : PySem.W.Frag) (mg : Str → Option Value) (W : WX) (c : CS) : TS := fun D σ H => ∃ m S ρ, At K mg m S H ρ σ ∧ FinS K mg W m S H D (c ρ S)
abbrev DS (X : Cx) (W : WX) (st : Stmt) (c : CS) : Prop := PS X st (rdS X.K X.mg W c)
abbrev DSs (X : Cx) (W : WX) (st : List Stmt) (c : CS) : Prop := PSs X st (rdS X.K X.mg W c)
theorem ps_imp {X : Cx} {st : Stmt} {t t' : TS} (h : PS X st t) (i : ∀ D σ H, t' D σ H → t D σ H) : PS X st t' := ⟨fun pins s σ H D I q => h.run pins s σ H D I (i D σ H q)⟩
theorem pss_imp {X : Cx} {st : List Stmt} {t t' : TS} (h : PSs X st t) (i : ∀ D σ H, t' D σ H → t D σ H) : PSs X st t' := ⟨fun pins s σ H D I q => h.run pins s σ H D I (i D σ H q)⟩
section
variable {K : PySem.W.Frag} {mg : Str → Option Value} {W : WX} {σ : L2.St} {m m1 : Mp} {S S1 : Store} {H H1 : Hp} {ρ : Sl} {D D' : Ends} {α β : Type} {R : RR α β}
theorem FinS.from {r : SR} (h : FinS K mg W m S H D r) (e : Ext K S.length m H m1 H1) (l : S.length ≤ S1.length) : FinS K mg W m1 S1 H1 D r := by
  cases r with
  | next ρ' S' => exact fun m' H' σ' e' l' a => h m' H' σ' (e.trans e' l) (Nat.le_trans l l') a
  | brk ρ' S' => exact fun m' H' σ' e' l' a => h m' H' σ' (e.trans e' l) (Nat.le_trans l l') a
  | cont ρ' S' => exact fun m' H' σ' e' l' a => h m' H' σ' (e.trans e' l) (Nat.le_trans l l') a
  | ret x S' => exact fun m' H' v e' l' r x => h m' H' v (e.trans e' l) (Nat.le_trans l l') r x
  | exc c p ρ' S' => exact fun m' H' σ' d e' l' a x => h m' H' σ' d (e.trans e' l) (Nat.le_trans l l') a x
  | stuck => exact h
theorem FinS.nx_here {ρ' : Sl} {σ' : L2.St} (h : FinS K mg W m S H D (.next ρ' S)) (a : At K mg m S H ρ' σ') : D.nx σ' H := h m H σ' Ext.refl (Nat.le_refl _) a
/-- what goes on behind an expression in a statement -/
def GoS (K : PySem.W.Frag) (mg : Str → Option Value) (W : WX) (ρ : Sl) (σ : L2.St) (m : Mp) (S : Store) (H : Hp) (D : Ends) {α β : Type} (R : RR α β) (k : α → Store → SR) : β → Hp → Prop := fun v H1 =>
  ∃ m1 S1 x, At K mg m1 S1 H1 ρ σ ∧ R S1.length m1 H1 x v ∧ Ext K S.length m H m1 H1 ∧ S.length ≤ S1.length ∧ FinS K mg W m1 S1 H1 D (k x S1)
theorem FinS.bind {r : Res α} {k : α → Store → SR} (a : At K mg m S H ρ σ) (h : FinS K mg W m S H D (sb r ρ k)) : Fin K mg W σ m S H R (GoS K mg W ρ σ m S H D R k) r := by
  cases r with
  | ok x S1 => exact fun m1 H1 v e l r rr => ⟨m1, S1, x, ⟨r, a.env.ext e l⟩, rr, e, l, FinS.from h e l⟩
  | exc c p S' => exact fun m' H' d e l r x => h m' H' σ d e l ⟨r, a.env.ext e l⟩ x
  | stuck => exact h
end
/-! ### small statements, blocks -/
def sNext : CS := fun ρ S => .next ρ S
def sSeq (a b : CS) : CS := fun ρ S => match a ρ S with
  | .next ρ' S' => b ρ' S'
  | r => r
def sSet (i : Nat) (c : CE PV) : CS := fun ρ S => sb (c ρ S) ρ fun x S1 => .next (ρ.set i (some x)) S1
def sDrop (c : CE PV) : CS := fun ρ S => sb (c ρ S) ρ fun _ S1 => .next ρ S1
def sRet (c : CE PV) : CS := fun ρ S => sb (c ρ S) ρ fun x S1 => .ret x S1
def sRetN : CS := fun _ S => .ret .non S
def sBrk : CS := fun ρ S => .brk ρ S
def sCont : CS := fun ρ S => .cont ρ S
def sIf (t : CE Bool) (a b : CS) : CS := fun ρ S => sb (t ρ S) ρ fun k S1 => if k = true then a ρ S1 else b ρ S1
def sRaise (c : Str) : CS := fun ρ S => .exc c none ρ S
section
variable {X : Cx} {W : WX} {pos : Pos} {st : Stmt} {rest : List Stmt} {a b : CS} {e : Expr} {c : CE PV} {t : CE Bool}
theorem dss_nil : DSs X W [] sNext := pss_imp pss_nil fun D σ H h => by
  obtain ⟨m, S, ρ, at_, fin⟩ := h
  exact fin.nx_here at_
theorem dss_cons (h1 : DS X W st a) (h2 : DSs X W rest b) : DSs X W (st :: rest) (sSeq a b) := pss_imp (pss_cons h1 h2) fun D σ H h => by
  obtain ⟨m, S, ρ, at_, fin⟩ := h
  refine ⟨m, S, ρ, at_, ?_⟩
  unfold sSeq at fin
  cases q : a ρ S with
  | next ρ' S' =>
    rw [q] at fin
    exact fun m' H' σ' e l at1 => ⟨m', S', ρ', at1, FinS.from fin e l⟩
  | _ => rw [q] at fin; exact fin
theorem dss_one (h1 : DS X W st a) : DSs X W [st] a := pss_one h1
theorem ds_set (i : Nat) {x : Str} {pos' : Pos} (hN : X.N.Nodup) (he : DE X W e c) (hi : X.N[i]? = some x := by rfl) (hx : Loc X.env.scope x := by first | exact Or.inl rfl | exact Or.inr rfl) (hs : swapsWith e (some (.Name x pos')) pos.line X.env = pure false := by rfl) (hf : X.fn x = true ∨ X.env.scope.names.lookup x = some .local := by first | exact .inl rfl | exact .inr rfl) :
    DS X W (.Assign [.Name x pos'] e pos) (sSet i c) := ps_imp (ps_set hN hi hx he hs hf) fun D σ H h => by
  obtain ⟨m, S, ρ, at_, fin⟩ := h
  refine ⟨m, S, ρ, at_, (FinS.bind at_ fin).mono fun v H1 h1 => ?_⟩
  obtain ⟨m1, S1, y, at1, r1, e1, l1, f1⟩ := h1
  exact f1.nx_here ⟨at1.rel, at1.env.set r1.1 r1.2⟩
theorem ds_expr (he : DE X W e c) (hs : swapsWith e none pos.line X.env = pure false := by rfl) : DS X W (.Expr e pos) (sDrop c) := ps_imp (ps_expr he hs) fun D σ H h => by
  obtain ⟨m, S, ρ, at_, fin⟩ := h
  refine ⟨m, S, ρ, at_, (FinS.bind at_ fin).mono fun v H1 h1 => ?_⟩
  obtain ⟨m1, S1, y, at1, r1, e1, l1, f1⟩ := h1
  exact f1.nx_here at1
theorem ds_ret (he : DE X W e c) : DS X W (.Return (some e) pos) (sRet c) := ps_imp (ps_ret he) fun D σ H h => by
  obtain ⟨m, S, ρ, at_, fin⟩ := h
  refine ⟨m, S, ρ, at_, (FinS.bind at_ fin).mono fun v H1 h1 => ?_⟩
  obtain ⟨m1, S1, y, at1, r1, e1, l1, f1⟩ := h1
  exact f1 m1 H1 v Ext.refl (Nat.le_refl _) at1.rel r1
theorem ds_retN : DS X W (.Return none pos) sRetN := ps_imp ps_retN fun D σ H h => by
  obtain ⟨m, S, ρ, at_, fin⟩ := h
  exact fin m H .non Ext.refl (Nat.le_refl _) at_.rel ⟨rfl, rfl⟩
theorem ds_pass : DS X W (.Pass pos) sNext := ps_imp ps_pass fun D σ H h => by
  obtain ⟨m, S, ρ, at_, fin⟩ := h
  exact fin.nx_here at_
theorem ds_break : DS X W (.Break pos) sBrk := ps_imp ps_break fun D σ H h => by
  obtain ⟨m, S, ρ, at_, fin⟩ := h
  exact fin m H σ Ext.refl (Nat.le_refl _) at_
theorem ds_continue : DS X W (.Continue pos) sCont := ps_imp ps_continue fun D σ H h => by
  obtain ⟨m, S, ρ, at_, fin⟩ := h
  exact fin m H σ Ext.refl (Nat.le_refl _) at_
theorem ds_if {l1 l2 : List Stmt} (ht : DT X W e t) (ha : DSs X W l1 a) (hb : DSs X W l2 b) : DS X W (.If e l1 l2 pos) (sIf t a b) := ps_imp (ps_if ht ha hb) fun D σ H h => by
  obtain ⟨m, S, ρ, at_, fin⟩ := h
  refine ⟨m, S, ρ, at_, (FinS.bind at_ fin).mono fun v H1 h1 => ?_⟩
  obtain ⟨m1, S1, y, at1, r1, e1, l1, f1⟩ := h1
  have r1' : y = v := r1
  subst r1'
  cases y with
  | true =>
    show (if true = true then _ else _)
    rw [if_pos rfl]
    exact ⟨m1, S1, ρ, at1, f1⟩
  | false =>
    show (if false = true then _ else _)
    rw [if_neg Bool.false_ne_true]
    exact ⟨m1, S1, ρ, at1, f1⟩
/-- raise C('..'), C a class of the module without an own __init__ -/
theorem ds_raise {x z : Str} {C : Addr} {j : Nat} {p p2 ps : Pos} {bmB : List Value} {B newId initId : String} (hc : X.calm = true) (tk : Takes X W) (FF : ExcBaseFacts B newId initId bmB) (q : PySem.W.excIn X.K C bmB newId = true) (gC : X.mg x = some (.ref C)) (kC : PySem.W.keepIn X.K (.ref C) = true) (r : Raises X (.ref C)) (hg : Gl X x := by rfl) (hdb : (x == ("__debug__" : Str)) = false := by decide) :
    DS X W (.Raise (some (.Call (.Name x p) [.Constant (.str z) j p2] [] ps)) none pos) (sRaise x) := ps_imp (ps_raise hc tk (pmk_own FF q gC kC r hg (hdb := hdb))) fun D σ H h => by
  obtain ⟨m, S, ρ, at_, fin⟩ := h
  have e : ca X.mg x = C := by unfold ca; rw [gC]
  have f := fin m H σ none Ext.refl (Nat.le_refl _) at_ rfl
  rw [e] at f
  exact f
end
/-! ### targets -/
inductive TT' where
  | name (i : Nat)
  | tup (is : List Nat)
def gNames : List Nat → TGs
  | [] => gNil
  | i :: is => gCons (gName i) (gNames is)
def gTg (K : PySem.W.Frag) : TT' → TG
  | .name i => gName i
  | .tup is => gTup K is.length (gNames is)
def setAll : Sl → List Nat → List PV → Sl
  | ρ, i :: is, x :: xs => setAll (ρ.set i (some x)) is xs
  | ρ, _, _ => ρ
def setAllV : L2.St → List Nat → List V → L2.St
  | ρ, i :: is, x :: xs => setAllV (ρ.set i (some x)) is xs
  | ρ, _, _ => ρ
def setT : TT' → PV → Sl → Option Sl
  | .name i, x, ρ => some (ρ.set i (some x))
  | .tup is, .tup xs, ρ => if xs.length = is.length then some (setAll ρ is xs) else none
  | .tup is, .kup xs, ρ => if xs.length = is.length then some (setAll ρ is xs) else none
  | .tup _, _, _ => none
def ixT : TT' → List Nat
  | .name i => [i]
  | .tup is => is
theorem gNames_ok : ∀ {is : List Nat} {vs : List V} {σ : L2.St} {H : Hp} {Q : L2.St → Hp → Prop}, vs.length = is.length → Q (setAllV σ is vs) H → gNames is vs σ H Q
  | [], [], σ, H, Q, _, q => ⟨rfl, q⟩
  | [], _ :: _, σ, H, Q, h, _ => by cases h
  | _ :: _, [], σ, H, Q, h, _ => by cases h
  | i :: is, v :: vs, σ, H, Q, h, q => ⟨v, vs, rfl, gNames_ok (by simpa using h) q⟩
theorem wipe_get (σ : L2.St) (j : Nat) : ∀ vs : List Nat, (wipe σ vs)[j]? = if j ∈ vs ∧ j < σ.length then some none else σ[j]?
  | [] => by simp [wipe]
  | v :: vs => by
    unfold wipe
    by_cases hv : v = j
    · subst hv
      by_cases hl : v < σ.length
      · rw [List.getElem?_set_self (by rw [wipe_length]; exact hl), if_pos ⟨List.mem_cons_self, hl⟩]
      · have h1 : ((wipe σ vs).set v none)[v]? = none := List.getElem?_eq_none_iff.mpr (by rw [List.length_set, wipe_length]; omega)
        rw [h1, if_neg (fun z => hl z.2)]
        exact (List.getElem?_eq_none_iff.mpr (by omega)).symm
    · rw [List.getElem?_set_ne hv, wipe_get σ j vs]
      have e : (j ∈ v :: vs) ↔ j ∈ vs := ⟨fun h => (List.mem_cons.mp h).elim (fun z => absurd z.symm hv) id, List.mem_cons_of_mem _⟩
      by_cases h : j ∈ vs ∧ j < σ.length
      · rw [if_pos h, if_pos ⟨e.mpr h.1, h.2⟩]
      · rw [if_neg h, if_neg fun z => h ⟨e.mp z.1, z.2⟩]
theorem wipe_set {σ : L2.St} {i : Nat} {x : Option V} {vs : List Nat} (h : i ∈ vs) : wipe (σ.set i x) vs = wipe σ vs := by
  apply List.ext_getElem?
  intro j
  rw [wipe_get, wipe_get, List.length_set]
  by_cases hj : j ∈ vs ∧ j < σ.length
  · rw [if_pos hj, if_pos hj]
  · rw [if_neg hj, if_neg hj]
    by_cases hij : i = j
    · subst hij
      have hl : ¬ i < σ.length := fun z => hj ⟨h, z⟩
      rw [List.getElem?_eq_none_iff.mpr (by rw [List.length_set]; omega), List.getElem?_eq_none_iff.mpr (by omega)]
    · rw [List.getElem?_set_ne hij]
theorem wipe_all {vs : List Nat} : ∀ {is : List Nat} {us : List V} {σ : L2.St}, (∀ i ∈ is, i ∈ vs) → wipe (setAllV σ is us) vs = wipe σ vs
  | [], us, σ, _ => by cases us <;> rfl
  | i :: is, [], σ, _ => rfl
  | i :: is, u :: us, σ, h => by
    show wipe (setAllV (σ.set i (some u)) is us) vs = wipe σ vs
    rw [wipe_all fun j hj => h j (List.mem_cons_of_mem _ hj), wipe_set (h i List.mem_cons_self)]
section
variable {K : PySem.W.Frag} {n : Nat} {m : Mp} {H : Hp}
theorem EnvR.all : ∀ {is : List Nat} {xs : List PV} {vs : List V} {ρ : Sl} {σ : L2.St}, EnvR K n m H ρ σ → bnds n xs = true → Rps K m H xs vs → EnvR K n m H (setAll ρ is xs) (setAllV σ is vs)
  | [], xs, vs, ρ, σ, h, _, _ => by cases xs <;> cases vs <;> exact h
  | i :: is, [], vs, ρ, σ, h, _, r => by
    have e : vs = [] := r
    subst e
    exact h
  | i :: is, x :: xs, vs, ρ, σ, h, b, r => by
    obtain ⟨v, us, rfl, h1, h2⟩ := r
    have b' := Bool.and_eq_true_iff.mp b
    show EnvR K n m H (setAll (ρ.set i (some x)) is xs) (setAllV (σ.set i (some v)) is us)
    exact EnvR.all (h.set b'.1 h1) b'.2 h2
theorem gTg_ok {t : TT'} {x : PV} {v : V} {ρ ρ' : Sl} {σ : L2.St} {Q : L2.St → Hp → Prop} (h : EnvR K n m H ρ σ) (r : RV K n m H x v) (e : setT t x ρ = some ρ')
    (q : ∀ σ', EnvR K n m H ρ' σ' → (∀ vs, (∀ i ∈ ixT t, i ∈ vs) → wipe σ' vs = wipe σ vs) → Q σ' H) : gTg K t v σ H Q := by
  cases t with
  | name i =>
    cases e
    exact q _ (h.set r.1 r.2) fun vs hi => wipe_set (hi i List.mem_cons_self)
  | tup is =>
    cases x with
    | tup xs =>
      obtain ⟨b, a, vs, rfl, h1, h2⟩ := r
      simp only [setT] at e
      by_cases hl : xs.length = is.length
      · rw [if_pos hl] at e
        cases e
        have hv : vs.length = is.length := h2.length.trans hl
        exact ⟨a, vs, rfl, SqT.of h1, hv, gNames_ok hv (q _ (EnvR.all h b h2) fun ws hi => wipe_all hi)⟩
      · rw [if_neg hl] at e
        cases e
    | kup xs =>
      obtain ⟨b, a, vs, rfl, h1, h2⟩ := r
      simp only [setT] at e
      by_cases hl : xs.length = is.length
      · rw [if_pos hl] at e
        cases e
        have hv : vs.length = is.length := h2.length.trans hl
        exact ⟨a, vs, rfl, h1.t, hv, gNames_ok hv (q _ (EnvR.all h b h2) fun ws hi => wipe_all hi)⟩
      · rw [if_neg hl] at e
        cases e
    | _ => cases e
end
abbrev DG (X : Cx) (tg : Expr) (t : TT') : Prop := PG X tg (gTg X.K t)
abbrev DGs (X : Cx) (tgs : List Expr) (is : List Nat) : Prop := PGs X tgs (gNames is)
def sSetT (t : TT') (c : CE PV) : CS := fun ρ S => sb (c ρ S) ρ fun x S1 => match setT t x ρ with
  | some ρ' => .next ρ' S1
  | none => .stuck
section
variable {X : Cx} {W : WX} {pos : Pos} {e tg : Expr} {c : CE PV} {t : TT'}
theorem dg_name (i : Nat) {x : Str} (hN : X.N.Nodup) (hi : X.N[i]? = some x := by rfl) (hx : Loc X.env.scope x := by first | exact Or.inl rfl | exact Or.inr rfl) (hf : X.fn x = true ∨ X.env.scope.names.lookup x = some .local := by first | exact .inl rfl | exact .inr rfl) : DG X (.Name x pos) (.name i) := pg_name hN hi hx hf
theorem dgs_nil : DGs X [] [] := pgs_nil
theorem dgs_cons (i : Nat) {x : Str} {es : List Expr} {is : List Nat} (hN : X.N.Nodup) (h2 : DGs X es is) (hi : X.N[i]? = some x := by rfl) (hx : Loc X.env.scope x := by first | exact Or.inl rfl | exact Or.inr rfl) (hf : X.fn x = true ∨ X.env.scope.names.lookup x = some .local := by first | exact .inl rfl | exact .inr rfl)
    (hs : (assignEach (.Name x pos :: es) X.env).map (·.2) = assign (.Name x pos) X.env :: (assignEach es X.env).map (·.2) := by rfl) : DGs X (.Name x pos :: es) (i :: is) := pgs_cons (pg_name hN hi hx hf) h2 hs
theorem dg_tup {es : List Expr} {k : Nat} {is : List Nat} (hc : X.calm = true) (h : DGs X es is) (hn : (assignEach es X.env).length = is.length := by rfl) (hst : (assignEach es X.env).findIdx? (·.1) = none := by rfl) : DG X (.Tuple es k pos) (.tup is) := pg_tup hc h hn hst
theorem ds_asg (he : DE X W e c) (hg : DG X tg t) (hs : swapsWithSole [tg] e pos.line X.env = pure false := by rfl) (hw : swappedStores [tg] e X.env = pure none := by rfl)
    (h1 : (assignEach [tg] X.env).map (·.2) = [assign tg X.env] := by rfl) : DS X W (.Assign [tg] e pos) (sSetT t c) := ps_imp (ps_asg he hg hs hw h1) fun D σ H h => by
  obtain ⟨m, S, ρ, at_, fin⟩ := h
  refine ⟨m, S, ρ, at_, (FinS.bind at_ fin).mono fun v H1 h1 => ?_⟩
  obtain ⟨m1, S1, y, at1, r1, e1, l1, f1⟩ := h1
  dsimp only at f1
  cases q : setT t y ρ with
  | none => rw [q] at f1; exact f1.elim
  | some ρ' =>
    rw [q] at f1
    exact gTg_ok at1.env r1 q fun σ' env _ => f1.nx_here ⟨at1.rel, env⟩
/-- a, b = x, y -/
def sPar (i j : Nat) (ca cb : CE PV) : CS := fun ρ S => sb (ca ρ S) ρ fun x S1 => sb (cb ρ S1) ρ fun y S2 => .next ((ρ.set i (some x)).set j (some y)) S2
theorem ds_par (i j : Nat) {x y : Str} {a b : Expr} {ca cb : CE PV} {px py pt : Pos} {kt k2 pt2} (hc : X.calm = true) (hN : X.N.Nodup) (ha : DE X W a ca) (hb : DE X W b cb) (hi : X.N[i]? = some x := by rfl) (hj : X.N[j]? = some y := by rfl) (hij : i ≠ j := by decide)
    (hx : X.env.scope.names.lookup x = some .local := by rfl) (hy : X.env.scope.names.lookup y = some .local := by rfl)
    (hw : swappedStores [.Tuple [.Name x px, .Name y py] kt pt] (.Tuple [a, b] k2 pt2) X.env = pure (some [x, y]) := by rfl)
    (hs : swapsWithSole [.Tuple [.Name x px, .Name y py] kt pt] (.Tuple [a, b] k2 pt2) pos.line X.env = pure false := by rfl)
    (hs1 : starEach [a, b] X.env = (false, eval a X.env) :: starEach [b] X.env := by rfl) (hs2 : starEach [b] X.env = (false, eval b X.env) :: starEach [] X.env := by rfl) :
    DS X W (.Assign [.Tuple [.Name x px, .Name y py] kt pt] (.Tuple [a, b] k2 pt2) pos) (sPar i j ca cb) := ps_imp (ps_par hc hN hi hj hij hx hy (pa_cons ha (pa_cons hb pa_nil hs2) hs1) hw hs) fun D σ H h => by
  obtain ⟨m, S, ρ, at_, fin⟩ := h
  refine ⟨m, S, ρ, at_, (FinS.bind at_ fin).mono fun v H1 h1 => ?_⟩
  obtain ⟨m1, S1, p, at1, r1, e1, l1, f1⟩ := h1
  refine ⟨m1, S1, ρ, at1, (FinS.bind at1 f1).mono fun u H2 h2 => ?_⟩
  obtain ⟨m2, S2, q, at2, r2, e2, l2, f2⟩ := h2
  have r1' := stbV e2 l2 r1
  exact ⟨v, u, rfl, f2.nx_here ⟨at2.rel, (at2.env.set r1'.1 r1'.2).set r2.1 r2.2⟩⟩
/-- x += e -/
def sAug (i : Nat) (f : F2) (c : CE PV) : CS := fun ρ S => match ρ[i]? with
  | some (some x) => sb (c ρ S) ρ fun y S1 => sb (f x y S1) ρ fun z S2 => .next (ρ.set i (some z)) S2
  | _ => .stuck
theorem ds_aug (i : Nat) {x : Str} {op : Operator} {ti : TIp} {f : F2} {pos' : Pos} (hN : X.N.Nodup) (ho : PIp X op ti) (o2 : Op2 X.K X.mg f ti) (he : DE X W e c) (hi : X.N[i]? = some x := by rfl) (hx : Loc X.env.scope x := by first | exact Or.inl rfl | exact Or.inr rfl)
    (hf : X.fn x = true ∨ X.env.scope.names.lookup x = some .local := by first | exact .inl rfl | exact .inr rfl) : DS X W (.AugAssign (.Name x pos') op e pos) (sAug i f c) := ps_imp (ps_aug hN hi hx he ho hf) fun D σ H h => by
  obtain ⟨m, S, ρ, at_, fin⟩ := h
  unfold sAug at fin
  cases q : ρ[i]? with
  | none => rw [q] at fin; exact fin.elim
  | some o =>
    rw [q] at fin
    cases o with
    | none => exact fin.elim
    | some y =>
      obtain ⟨hb, v, e1, r⟩ := at_.env.2 i y q
      refine ⟨v, e1, m, S, ρ, at_, (FinS.bind at_ fin).mono fun u H1 h1 => ?_⟩
      obtain ⟨m1, S1, z, at1, r1, e1, l1, f1⟩ := h1
      refine o2 W σ m1 S1 H1 y z v u _ at1.rel (stbV e1 l1 ⟨hb, r⟩) r1 ((FinS.bind at1 f1).mono fun w H2 h2 => ?_)
      obtain ⟨m2, S2, t, at2, r2, e2, l2, f2⟩ := h2
      exact f2.nx_here ⟨at2.rel, at2.env.set r2.1 r2.2⟩
theorem op2_ip {K : PySem.W.Frag} {mg : Str → Option Value} {g : Int → Int → Int} : Op2 K mg (f2I fun i j => .int (g i j)) (ipI g) := by
  intro W σ m S H x y v u Q rel rx ry f
  unfold f2I at f
  cases x with
  | int i =>
    cases y with
    | int j => exact ⟨i, j, rx.2, ry.2, f.here rel ⟨rfl, rfl⟩⟩
    | _ => exact f.elim
  | _ => exact f.elim
abbrev iaddV : F2 := f2I fun i j => .int (i + j)
end
/-! ### o[i] = e -/
abbrev F3 := PV → PV → PV → Store → Option Store
def setV : F3 := fun o k v S => match o with
  | .obj i => match S[i]? with
    | some (.lst xs) => match k with
      | .int j => match ixN xs.length j with
        | some q => some (S.set i (.lst (xs.set q v)))
        | none => none
      | _ => none
    | some (.dic false _) => match dicAt S i k with
      | some kvs => if kvs.length < sizeLine then some (S.set i (.dic false (dput kvs k v))) else none
      | none => none
    | _ => none
  | _ => none
def rSetV : TSet := fun o i v H Q => rSetL o i v H Q ∨ ∃ H1 a H2, cvH H H1 ∧ o = .ref a ∧ DPut H1 a i v H2 ∧ Q H2
theorem set_V {X : Cx} (hu : X.A.units + 1 < cLine) : PSet X rSetV := by
  intro pins s σ H o i v ov iv u Q I ro ri rv h
  rcases h with h | ⟨H1, a, H2, c, rfl, g, q⟩
  · exact set_list pins s σ H o i v ov iv u Q I ro ri rv h
  · cases ro
    exact d_setItem hu (Inv.cv I c) g ri rv fun s' I' => ⟨H2, I', q⟩
section
variable {K : PySem.W.Frag} {mg : Str → Option Value} {m : Mp} {S S' : Store} {H : Hp}
theorem bnds_set {n : Nat} {xs : List PV} {x : PV} (h : bnds n xs = true) (hx : bnd n x = true) (k : Nat) : bnds n (xs.set k x) = true := bnds_all.mpr fun y hy => by
  rcases List.mem_or_eq_of_mem_set hy with q | q
  · exact bnds_all.mp h y q
  · rw [q]; exact hx
theorem bnds_dput {n : Nat} {kvs : List (PV × PV)} {k x : PV} (h : bnds n (kvs.map (·.2)) = true) (hx : bnd n x = true) : bnds n ((dput kvs k x).map (·.2)) = true := by
  refine bnds_all.mpr fun y hy => ?_
  unfold dput at hy
  by_cases e : (kvs.any fun kv => decide (kv.1 = k)) = true
  · rw [if_pos e, List.map_map] at hy
    obtain ⟨p, hp, ep⟩ := List.mem_map.mp hy
    have ep' : (if p.1 = k then (p.1, x) else p).2 = y := ep
    by_cases q : p.1 = k
    · rw [if_pos q] at ep'
      rw [← ep']; exact hx
    · rw [if_neg q] at ep'
      rw [← ep']
      exact bnds_all.mp h _ (List.mem_map_of_mem hp)
  · rw [if_neg e, List.map_append] at hy
    rcases List.mem_append.mp hy with q | q
    · exact bnds_all.mp h y q
    · have q' : y = x := by simpa using q
      rw [q']; exact hx
theorem set_ok {o k x : PV} {ov kv v : V} {Q : Hp → Prop} (rel : Rel K mg m S H) (ro : RV K S.length m H o ov) (rk : RV K S.length m H k kv) (rx : RV K S.length m H x v) (e : setV o k x S = some S')
    (q : ∀ H', Ext K S.length m H m H' → S.length = S'.length → Rel K mg m S' H' → Q H') : rSetV ov kv v H Q := by
  unfold setV at e
  cases o with
  | obj i =>
    have eo : ov = .ref (m i) := ro.2
    subst eo
    simp only at e
    cases ei : S[i]? with
    | none => simp only [ei] at e; cases e
    | some p =>
      simp only [ei] at e
      have hi := (List.getElem?_eq_some_iff.mp ei).1
      cases p with
      | lst xs =>
        simp only at e
        cases k with
        | int j =>
          simp only at e
          cases ej : ixN xs.length j with
          | none => simp only [ej] at e; cases e
          | some t =>
            simp only [ej] at e
            cases e
            obtain ⟨b1, vs, h1, r1⟩ := rel.lst ei
            have ex := rel.ext_write (u := .lst (vs.set t v)) ei (fun _ z => by cases z)
            refine .inl ⟨m i, vs, j, t, rfl, rk.2, h1, by rw [r1.length]; exact ej, q _ ex (by rw [List.length_set]) (rel.write ei (fun _ z => by cases z) (bnds_set b1 rx.1 t) ⟨_, upd_same, (r1.set t rx.2).ext ex _ _ (bnds_set b1 rx.1 t)⟩)⟩
        | _ => cases e
      | dic lk kvs' =>
        cases lk with
        | true => cases e
        | false =>
          simp only at e
          cases ed : dicAt S i k with
          | none => simp only [ed] at e; cases e
          | some kvs =>
            simp only [ed] at e
            by_cases hz : kvs.length < sizeLine
            · rw [if_pos hz] at e
              cases e
              have ekv : kvs' = kvs ∧ isKey k = true ∧ (kvs.all fun kv => (keyOf kv.1).isSome == (keyOf k).isSome) = true := by
                unfold dicAt at ed
                rw [ei] at ed
                simp only at ed
                split at ed
                · rename_i hc
                  cases ed
                  exact ⟨rfl, hc.1, hc.2.1⟩
                · cases ed
              obtain ⟨rfl, c1, c2⟩ := ekv
              have wf : bnds S.length (kvs'.map (·.2)) = true := rel.wf i _ ei
              have ob := rel.ob i _ ei
              have bp := bnds_dput (k := k) wf rx.1
              have goK : ∀ (H1 : Hp) (l : List (Key × V)), cvH H H1 → Rel K mg m S H1 → Ext K S.length m H m H1 → H1 (m i) = some (.dK l) → KvK K m H1 kvs' l → (keyOf k).isSome = true → rSetV (.ref (m i)) kv v H Q := by
                intro H1 l c r1 e1 h1 hkv hs
                obtain ⟨kk, ek⟩ := Option.isSome_iff_exists.mp hs
                have eu : kv = kV kk := key_val (stbV e1 (Nat.le_refl _) rk).2 ek
                have ex := r1.ext_write (u := .dK (putK l kk v)) ei (fun _ z => by cases z)
                have rx1 := stbV e1 (Nat.le_refl _) rx
                refine .inr ⟨H1, m i, _, c, rfl, .inl ⟨l, kk, h1, eu, by rw [hkv.length]; exact hz, rfl⟩, q _ (e1.trans ex (Nat.le_refl _)) (by rw [List.length_set]) (r1.write ei (fun _ z => by cases z) bp (.inl ⟨_, upd_same, ?_⟩))⟩
                exact KvK.ext ex _ _ bp (hkv.put ek rx1.2)
              have goT : ∀ (H1 : Hp) (l : List (List Key × V)), cvH H H1 → Rel K mg m S H1 → Ext K S.length m H m H1 → H1 (m i) = some (.dT l) → KvT K m H1 kvs' l → (tkeyOf k).isSome = true → rSetV (.ref (m i)) kv v H Q := by
                intro H1 l c r1 e1 h1 hkv hs
                obtain ⟨kk, ek⟩ := Option.isSome_iff_exists.mp hs
                obtain ⟨b, eu, hb⟩ := tkey_val (stbV e1 (Nat.le_refl _) rk).2 ek
                have ex := r1.ext_write (u := .dT (putK l kk v)) ei (fun _ z => by cases z)
                have rx1 := stbV e1 (Nat.le_refl _) rx
                refine .inr ⟨H1, m i, _, c, rfl, .inr ⟨l, kk, b, h1, eu, hb, by rw [hkv.length]; exact hz, rfl⟩, q _ (e1.trans ex (Nat.le_refl _)) (by rw [List.length_set]) (r1.write ei (fun _ z => by cases z) bp (.inr ⟨_, upd_same, ?_⟩))⟩
                exact KvT.ext ex _ _ bp (hkv.put ek rx1.2)
              by_cases hs : (keyOf k).isSome = true
              · rcases ob with ⟨l, h1, h2⟩ | ⟨l, h1, h2⟩
                · exact goK H l (.inl rfl) rel Ext.refl h1 h2 hs
                · cases kvs' with
                  | nil =>
                    have el : l = [] := h2
                    subst el
                    obtain ⟨r', e'⟩ := rel.conv ei (.dK []) (.inl rfl)
                    exact goK _ [] (.inr (.inr ⟨m i, h1, rfl⟩)) r' e' upd_same rfl hs
                  | cons p ps =>
                    obtain ⟨q1, rr, rfl, g1, g2, g3⟩ := h2
                    rw [List.all_cons, hs] at c2
                    have c3 := (Bool.and_eq_true_iff.mp c2).1
                    have c4 : (keyOf p.1).isSome = true := by simpa using c3
                    rw [keyOf_tkey c4] at g1
                    cases g1
              · have ht : (tkeyOf k).isSome = true := by
                  unfold isKey at c1
                  rcases Bool.or_eq_true_iff.mp c1 with z | z
                  · exact absurd z hs
                  · exact z
                rcases ob with ⟨l, h1, h2⟩ | ⟨l, h1, h2⟩
                · cases kvs' with
                  | nil =>
                    have el : l = [] := h2
                    subst el
                    obtain ⟨r', e'⟩ := rel.conv ei (.dT []) (.inr rfl)
                    exact goT _ [] (.inr (.inl ⟨m i, h1, rfl⟩)) r' e' upd_same rfl ht
                  | cons p ps =>
                    obtain ⟨q1, rr, rfl, g1, g2, g3⟩ := h2
                    rw [List.all_cons, g1] at c2
                    have c3 := (Bool.and_eq_true_iff.mp c2).1
                    have c4 : (keyOf k).isSome = true := by simpa using c3.symm
                    exact absurd c4 hs
                · exact goT H l (.inl rfl) rel Ext.refl h1 h2 ht
            · rw [if_neg hz] at e
              cases e
      | ins _ _ => cases e
  | _ => cases e
end
def sSetIx (co ci c : CE PV) : CS := fun ρ S => sb (c ρ S) ρ fun x S1 => sb (co ρ S1) ρ fun o S2 => sb (ci ρ S2) ρ fun k S3 => match setV o k x S3 with
  | some S4 => .next ρ S4
  | none => .stuck
section
variable {X : Cx} {W : WX} {pos pos' : Pos} {e o i : Expr} {c co ci : CE PV}
theorem ds_setIx (hu : X.A.units + 1 < cLine) (he : DE X W e c) (ho : DE X W o co) (hi : DE X W i ci) (hs : swapsWithSole [.Subscript o i pos'] e pos.line X.env = pure false := by rfl) (hw : swappedStores [.Subscript o i pos'] e X.env = pure none := by rfl)
    (h1 : (assignEach [.Subscript o i pos'] X.env).map (·.2) = [assign (.Subscript o i pos') X.env] := by rfl)
    (ha : ∀ v, assign (.Subscript o i pos') X.env v = (do
      let ov ← holding [v] (eval o X.env)
      let iv ← holding [v, ov] (eval i X.env)
      standAt pos'
      holding [v, ov, iv] (setItem ov iv v)
      release [v, ov, iv] []) := by intro _; rfl) : DS X W (.Assign [.Subscript o i pos'] e pos) (sSetIx co ci c) := ps_imp (ps_asg he (pg_sub ho hi (set_V hu) ha) hs hw h1) fun D σ H h => by
  obtain ⟨m, S, ρ, at_, fin⟩ := h
  refine ⟨m, S, ρ, at_, (FinS.bind at_ fin).mono fun v H1 h1 => ?_⟩
  obtain ⟨m1, S1, x, at1, r1, e1, l1, f1⟩ := h1
  refine ⟨m1, S1, ρ, at1, (FinS.bind at1 f1).mono fun ov H2 h2 => ?_⟩
  obtain ⟨m2, S2, y, at2, r2, e2, l2, f2⟩ := h2
  refine ⟨m2, S2, ρ, at2, (FinS.bind at2 f2).mono fun kv H3 h3 => ?_⟩
  obtain ⟨m3, S3, z, at3, r3, e3, l3, f3⟩ := h3
  dsimp only at f3
  cases q : setV y z x S3 with
  | none => rw [q] at f3; exact f3.elim
  | some S4 =>
    rw [q] at f3
    exact set_ok at3.rel (stbV e3 l3 r2) r3 (stbV e3 l3 (stbV e2 l2 r1)) q fun H' ex el r' => f3 m3 H' σ ex (by omega) ⟨r', at3.env.ext ex (by omega)⟩
end
end TL

set_option Elab.async false
set_option linter.all false
set_option maxRecDepth 100000
set_option maxHeartbeats 1000000
/-! TL8: while, for, comprehensions. -/
namespace TL
open PySem PySem.Spec PyProof.Rows L2
/-! ### while -/
def whileN (t : CE Bool) (b : CS) : Nat → CS
  | 0 => fun _ _ => .stuck
  | k + 1 => fun ρ S => sb (t ρ S) ρ fun q S1 => if q = true then match b ρ S1 with
    | .next ρ' S' => whileN t b k ρ' S'
    | .cont ρ' S' => whileN t b k ρ' S'
    | .brk ρ' S' => .next ρ' S'
    | r => r
    else .next ρ S1
theorem whileN_step (t : CE Bool) (b : CS) (k : Nat) (ρ : Sl) (S : Store) : whileN t b (k + 1) ρ S = sb (t ρ S) ρ fun q S1 => if q = true then match b ρ S1 with
    | .next ρ' S' => whileN t b k ρ' S'
    | .cont ρ' S' => whileN t b k ρ' S'
    | .brk ρ' S' => .next ρ' S'
    | r => r
    else .next ρ S1 := rfl
theorem whileN_mono (t : CE Bool) (b : CS) : ∀ (k : Nat) (ρ : Sl) (S : Store), whileN t b k ρ S ≠ .stuck → whileN t b (k + 1) ρ S = whileN t b k ρ S
  | 0, ρ, S, h => absurd rfl h
  | k + 1, ρ, S, h => by
    rw [whileN_step t b (k + 1)]
    rw [whileN_step t b k] at h ⊢
    cases q : t ρ S with
    | stuck => rfl
    | exc c p S' => rfl
    | ok v S1 =>
      rw [q] at h
      rw [sb_ok, sb_ok]
      rw [sb_ok] at h
      cases v with
      | false => rfl
      | true =>
        rw [if_pos rfl, if_pos rfl]
        rw [if_pos rfl] at h
        cases e : b ρ S1 with
        | next ρ' S' => rw [e] at h; exact whileN_mono t b k ρ' S' h
        | cont ρ' S' => rw [e] at h; exact whileN_mono t b k ρ' S' h
        | _ => rfl
theorem whileN_le (t : CE Bool) (b : CS) {k : Nat} {ρ : Sl} {S : Store} (h : whileN t b k ρ S ≠ .stuck) : ∀ d : Nat, whileN t b (k + d) ρ S = whileN t b k ρ S
  | 0 => rfl
  | d + 1 => by
    have ih := whileN_le t b h d
    rw [← Nat.add_assoc, whileN_mono t b (k + d) ρ S (by rw [ih]; exact h), ih]
theorem whileN_same (t : CE Bool) (b : CS) {k l : Nat} {ρ : Sl} {S : Store} (h : whileN t b k ρ S ≠ .stuck) (h' : whileN t b l ρ S ≠ .stuck) : whileN t b k ρ S = whileN t b l ρ S := by
  have h1 := whileN_le t b h l
  have h2 := whileN_le t b h' k
  rw [Nat.add_comm] at h2
  exact h1.symm.trans h2
open Classical in
noncomputable def sWhile (t : CE Bool) (b : CS) : CS := fun ρ S => if h : ∃ k, whileN t b k ρ S ≠ .stuck then whileN t b (Classical.choose h) ρ S else .stuck
theorem sWhile_eq {t : CE Bool} {b : CS} {ρ : Sl} {S : Store} (k : Nat) {r : SR} (e : whileN t b k ρ S = r) (hr : r ≠ .stuck) : sWhile t b ρ S = r := by
  have h : ∃ k, whileN t b k ρ S ≠ .stuck := ⟨k, by rw [e]; exact hr⟩
  unfold sWhile
  rw [dif_pos h]
  rw [whileN_same t b (Classical.choose_spec h) (by rw [e]; exact hr), e]
/-- one turn -/
theorem sWhile_unfold (t : CE Bool) (b : CS) (ρ : Sl) (S : Store) : sWhile t b ρ S = sb (t ρ S) ρ fun q S1 => if q = true then match b ρ S1 with
    | .next ρ' S' => sWhile t b ρ' S'
    | .cont ρ' S' => sWhile t b ρ' S'
    | .brk ρ' S' => .next ρ' S'
    | r => r
    else .next ρ S1 := by
  have inner : ∀ (ρ' : Sl) (S' : Store) (F : (Nat → SR) ) , True := fun _ _ _ => trivial
  cases q : t ρ S with
  | stuck =>
    rw [sb_stuck]
    unfold sWhile
    by_cases h : ∃ k, whileN t b k ρ S ≠ .stuck
    · obtain ⟨k, hk⟩ := h
      cases k with
      | zero => exact absurd rfl hk
      | succ k => rw [whileN_step, q, sb_stuck] at hk; exact absurd rfl hk
    · rw [dif_neg h]
  | exc c p S' =>
    rw [sb_exc]
    exact sWhile_eq 1 (by rw [whileN_step, q, sb_exc]) (by intro z; cases z)
  | ok v S1 =>
    rw [sb_ok]
    cases v with
    | false =>
      rw [if_neg Bool.false_ne_true]
      exact sWhile_eq 1 (by rw [whileN_step, q, sb_ok, if_neg Bool.false_ne_true]) (by intro z; cases z)
    | true =>
      rw [if_pos rfl]
      have go : ∀ (ρ' : Sl) (S' : Store), (∀ k, whileN t b (k + 1) ρ S = whileN t b k ρ' S') → sWhile t b ρ S = sWhile t b ρ' S' := by
        intro ρ' S' hk
        by_cases h : ∃ k, whileN t b k ρ' S' ≠ .stuck
        · obtain ⟨k, hk'⟩ := h
          rw [sWhile_eq k rfl hk']
          exact sWhile_eq (k + 1) (hk k) hk'
        · have h2 : ¬ ∃ k, whileN t b k ρ S ≠ .stuck := by
            rintro ⟨k, hk'⟩
            cases k with
            | zero => exact hk' rfl
            | succ k => rw [hk k] at hk'; exact h ⟨k, hk'⟩
          unfold sWhile
          rw [dif_neg h, dif_neg h2]
      cases e : b ρ S1 with
      | next ρ' S' => exact go ρ' S' fun k => by rw [whileN_step, q, sb_ok, if_pos rfl, e]
      | cont ρ' S' => exact go ρ' S' fun k => by rw [whileN_step, q, sb_ok, if_pos rfl, e]
      | brk ρ' S' => exact sWhile_eq 1 (by rw [whileN_step, q, sb_ok, if_pos rfl, e]) (by intro z; cases z)
      | ret x S' => exact sWhile_eq 1 (by rw [whileN_step, q, sb_ok, if_pos rfl, e]) (by intro z; cases z)
      | exc c p ρ' S' => exact sWhile_eq 1 (by rw [whileN_step, q, sb_ok, if_pos rfl, e]) (by intro z; cases z)
      | stuck =>
        unfold sWhile
        rw [dif_neg]
        rintro ⟨k, hk⟩
        cases k with
        | zero => exact hk rfl
        | succ k => rw [whileN_step, q, sb_ok, if_pos rfl, e] at hk; exact hk rfl
section
variable {X : Cx} {W : WX} {pos : Pos} {e : Expr} {body : List Stmt} {t : CE Bool} {b : CS}
theorem ds_while (hp : PassesOwn (model X.prog X.w) X.A X.env X.xe) (ht : DT X W e t) (hb : DSs X W body b) : DS X W (.While e body [] pos) (sWhile t b) := ps_imp (ps_while hp ht hb) fun D σ H h => by
  obtain ⟨m, S, ρ, at_, fin⟩ := h
  have hk : ∃ k, FinS X.K X.mg W m S H D (whileN t b k ρ S) := by
    unfold sWhile at fin
    by_cases q : ∃ k, whileN t b k ρ S ≠ .stuck
    · rw [dif_pos q] at fin; exact ⟨_, fin⟩
    · rw [dif_neg q] at fin; exact fin.elim
  obtain ⟨k, fk⟩ := hk
  refine ⟨fun k σ H => ∃ m S ρ, At X.K X.mg m S H ρ σ ∧ FinS X.K X.mg W m S H D (whileN t b k ρ S), ⟨k, m, S, ρ, at_, fk⟩, ?_⟩
  rintro k σ H ⟨m, S, ρ, at_, fin⟩
  cases k with
  | zero => exact fin.elim
  | succ k =>
    rw [whileN_step] at fin
    refine ⟨m, S, ρ, at_, (FinS.bind at_ fin).mono fun q H1 h1 => ?_⟩
    obtain ⟨m1, S1, x, at1, r1, e1, l1, f1⟩ := h1
    have r1' : x = q := r1
    subst r1'
    dsimp only at f1
    cases x with
    | false =>
      rw [if_neg Bool.false_ne_true]
      rw [if_neg Bool.false_ne_true] at f1
      exact f1.nx_here at1
    | true =>
      rw [if_pos rfl]
      rw [if_pos rfl] at f1
      refine ⟨fun σ' H' => ∃ m S ρ, At X.K X.mg m S H' ρ σ' ∧ FinS X.K X.mg W m S H' D (whileN t b k ρ S), fun σ' H' n => ⟨k, Nat.lt_succ_self k, n⟩, m1, S1, ρ, at1, ?_⟩
      cases eb : b ρ S1 with
      | next ρ' S' =>
        rw [eb] at f1
        exact fun m' H' σ' e l a => ⟨m', S', ρ', a, FinS.from f1 e l⟩
      | cont ρ' S' =>
        rw [eb] at f1
        exact fun m' H' σ' e l a => ⟨m', S', ρ', a, FinS.from f1 e l⟩
      | brk ρ' S' =>
        rw [eb] at f1
        exact f1
      | ret x S' =>
        rw [eb] at f1
        exact f1
      | exc c p ρ' S' =>
        rw [eb] at f1
        exact f1
      | stuck =>
        rw [eb] at f1
        exact f1
end
/-! ### what is walked -/
abbrev Chk := List (Nat × PO)
def chk (c : Chk) (S : Store) : Prop := ∀ p ∈ c, S[p.1]? = some p.2
@[simp] theorem chk_nil (S : Store) : chk [] S := fun _ h => nomatch h
theorem chk_one {i : Nat} {o : PO} {S : Store} (h : S[i]? = some o) : chk [(i, o)] S := fun p hp => by rw [List.mem_singleton.mp hp]; exact h
structure ItR (K : PySem.W.Frag) (mg : Str → Option Value) (J : It) (all : List PV) (ck : Chk) (n0 : Nat) (m0 : Mp) (H0 : Hp) : Prop where
  stop : ∀ (m : Mp) (S : Store) (H : Hp), Ext K n0 m0 H0 m H → n0 ≤ S.length → Rel K mg m S H → chk ck S → J.stop all.length H
  go : ∀ (i : Nat) (m : Mp) (S : Store) (H : Hp), Ext K n0 m0 H0 m H → n0 ≤ S.length → Rel K mg m S H → chk ck S → i < all.length → J.go i H
  yld : ∀ (i : Nat) (m : Mp) (S : Store) (H : Hp) (v : V) (H' : Hp), Ext K n0 m0 H0 m H → n0 ≤ S.length → Rel K mg m S H → chk ck S → i < all.length → J.yld i H v H' →
    ∃ x, all[i]? = some x ∧ Ext K S.length m H m H' ∧ Rel K mg m S H' ∧ RV K S.length m H' x v ∧ ∀ D, H D ≠ none → H' D = H D
def RI (K : PySem.W.Frag) (mg : Str → Option Value) : RR (List PV × Chk) It := fun n m H p J => ItR K mg J p.1 p.2 n m H
def rdI (K : PySem.W.Frag) (mg : Str → Option Value) (W : WX) (c : CE (List PV × Chk)) : TI := fun σ H R => ∃ m S ρ, At K mg m S H ρ σ ∧ Fin K mg W σ m S H (RI K mg) R (c ρ S)
abbrev DI (X : Cx) (W : WX) (tg iter : Expr) (c : CE (List PV × Chk)) : Prop := PI X tg iter (rdI X.K X.mg W c)
theorem pi_imp {X : Cx} {tg iter : Expr} {t t' : TI} (h : PI X tg iter t) (i : ∀ σ H R, t' σ H R → t σ H R) : PI X tg iter t' := ⟨fun pins s σ H R I q => h.run pins s σ H R I (i σ H R q)⟩
/-- a list, a tuple, a text, by the value -/
def tAny (K : PySem.W.Frag) (tl : TE) : TI := fun σ H R => tl σ H fun x H1 => (∃ a, x = .ref a ∧ (∃ xs, SqL K H1 a xs) ∧ R (Itl K a) H1) ∨ (∃ a, x = .ref a ∧ (∃ xs, SqT K H1 a xs) ∧ R (Itt K a) H1) ∨ ∃ z, x = .str z ∧ R (Its z) H1
theorem pi_any {X : Cx} {tg l : Expr} {tl : TE} (hl : PE X l tl) : PI X tg l (tAny X.K tl) := by
  refine ⟨fun pins s σ H R I h => ?_⟩
  refine thn (hl.run pins s σ H _ I h) fun v s1 ⟨x, H1, I1, r1, q1⟩ => ?_
  rcases q1 with ⟨a, e, ⟨xs, hq⟩, q⟩ | ⟨a, e, ⟨xs, hq⟩, q⟩ | ⟨z, e, q⟩
  · subst e
    cases r1
    obtain ⟨its, rv, p, hz⟩ := I1.list hq
    refine wpAny_pyIter_list p.isList ?_
    refine ⟨s1.heap.objs.size, [s1.heap.objs.size], _, _, H1, rfl, I1.kept (t' := s1.toks) fun b o e => Heap.get?_push_of_some _ e, turn_list a _, ⟨_, Heap.get?_push_size _ rfl, rfl, rfl⟩, fun b hb => ?_, q⟩
    have e : b = s1.heap.objs.size := by simpa using hb
    subst e
    exact I1.fpOk (Nat.le_refl _) (I1.hok.fresh (Nat.le_refl _))
  · subst e
    cases r1
    obtain ⟨its, rv, p, hz⟩ := I1.tuple hq
    refine wpAny_pyIter_tuple (show s1.heap.IsTuple a its.toArray from p) ?_
    refine ⟨s1.heap.objs.size, [s1.heap.objs.size], _, _, H1, rfl, I1.kept (t' := s1.toks) fun b o e => Heap.get?_push_of_some _ e, turn_tuple a _, ⟨_, Heap.get?_push_size _ rfl, rfl, rfl⟩, fun b hb => ?_, q⟩
    have e : b = s1.heap.objs.size := by simpa using hb
    subst e
    exact I1.fpOk (Nat.le_refl _) (I1.hok.fresh (Nat.le_refl _))
  · subst e
    obtain ⟨t, rfl⟩ := r1
    cases ha : z.cps.all (· < 128)
    · exact wpAny_pyIter_wide ha (pi_one (tk := s1.toks) I1 _ (turn_str _ z t "str_iterator" (.inr rfl)) ⟨_, Heap.get?_push_size _ rfl, rfl, rfl⟩ q)
    · exact wpAny_pyIter_ascii ha (pi_one (tk := s1.toks) I1 _ (turn_str _ z t "str_ascii_iterator" (.inl rfl)) ⟨_, Heap.get?_push_size _ rfl, rfl, rfl⟩ q)
def signs (z : Str) : List PV := z.cps.toList.map fun c => .str ⟨#[c]⟩
def itemsV (x : PV) (S : Store) : Res (List PV × Chk) := match x with
  | .tup xs => .ok (xs, []) S
  | .kup xs => .ok (xs, []) S
  | .rol xs => .ok (xs, []) S
  | .str z => .ok (signs z, []) S
  | .obj i => match S[i]? with
    | some (.lst xs) => .ok (xs, [(i, .lst xs)]) S
    | _ => .stuck
  | _ => .stuck
def iAny (c : CE PV) : CE (List PV × Chk) := fun ρ S => (c ρ S).bind fun x S1 => itemsV x S1
section
variable {K : PySem.W.Frag} {mg : Str → Option Value} {m : Mp} {S : Store} {H : Hp}
theorem itR_tup {xs : List PV} {vs : List V} {a : Addr} (hs : ∀ m' H', Ext K S.length m H m' H' → SqT K H' a vs) (b : bnds S.length xs = true) (h : Rps K m H xs vs) (J : It) (hJ : J = Itt K a) (inj : ∀ H' us, SqT K H' a us → us.length = vs.length → True) : ItR K mg J xs [] S.length m H := by
  subst hJ
  refine ⟨fun m' S' H' e l r _ => ⟨vs, hs m' H' e, by rw [h.length]; exact Nat.le_refl _⟩, fun i m' S' H' e l r _ hi => ?_, fun i m' S' H' v H'' e l r _ hi y => ?_⟩
  · exact ⟨vs, vs[i]'(by rw [h.length]; exact hi), hs m' H' e, by simp⟩
  · obtain ⟨rfl, y⟩ := y
    have y' := y vs (hs m' _ e)
    obtain ⟨x, ex, rx⟩ := h.get' y'
    exact ⟨x, ex, Ext.refl, r, stbV e l ⟨bnds_get b ex, rx⟩, fun _ _ => rfl⟩
theorem itR_rol {xs : List PV} {vs : List V} {a : Addr} (hs : ∀ m' H', Ext K S.length m H m' H' → SqL K H' a vs) (b : bnds S.length xs = true) (h : Rps K m H xs vs) : ItR K mg (Itl K a) xs [] S.length m H := by
  refine ⟨fun m' S' H' e l r _ => ⟨vs, hs m' H' e, by rw [h.length]; exact Nat.le_refl _⟩, fun i m' S' H' e l r _ hi => ?_, fun i m' S' H' v H'' e l r _ hi y => ?_⟩
  · exact ⟨vs, vs[i]'(by rw [h.length]; exact hi), hs m' H' e, by simp⟩
  · obtain ⟨rfl, y⟩ := y
    have y' := y vs (hs m' _ e)
    obtain ⟨x, ex, rx⟩ := h.get' y'
    exact ⟨x, ex, Ext.refl, r, stbV e l ⟨bnds_get b ex, rx⟩, fun _ _ => rfl⟩
theorem itR_lst {xs : List PV} {i : Nat} (rel : Rel K mg m S H) (ei : S[i]? = some (.lst xs)) : ItR K mg (Itl K (m i)) xs [(i, .lst xs)] S.length m H := by
  have hi := (List.getElem?_eq_some_iff.mp ei).1
  have at_ : ∀ {m' : Mp} {S' : Store} {H' : Hp}, Ext K S.length m H m' H' → Rel K mg m' S' H' → S'[i]? = some (.lst xs) → ∃ vs, bnds S'.length xs = true ∧ H' (m i) = some (.lst vs) ∧ Rps K m' H' xs vs := fun {m' S' H'} e r c => by
    obtain ⟨b, vs, h1, h2⟩ := r.lst c
    rw [e.mi i hi] at h1
    exact ⟨vs, b, h1, h2⟩
  refine ⟨fun m' S' H' e l r c => ?_, fun j m' S' H' e l r c hj => ?_, fun j m' S' H' v H'' e l r c hj y => ?_⟩
  · obtain ⟨vs, b, h1, h2⟩ := at_ e r (c _ (List.mem_cons_self ..))
    exact ⟨vs, SqL.of h1, by rw [h2.length]; exact Nat.le_refl _⟩
  · obtain ⟨vs, b, h1, h2⟩ := at_ e r (c _ (List.mem_cons_self ..))
    exact ⟨vs, vs[j]'(by rw [h2.length]; exact hj), SqL.of h1, by simp⟩
  · obtain ⟨rfl, y⟩ := y
    obtain ⟨vs, b, h1, h2⟩ := at_ e r (c _ (List.mem_cons_self ..))
    obtain ⟨x, ex, rx⟩ := h2.get' (y vs (SqL.of h1))
    exact ⟨x, ex, Ext.refl, r, ⟨bnds_get b ex, rx⟩, fun _ _ => rfl⟩
theorem itR_str {z : Str} : ItR K mg (Its z) (signs z) [] S.length m H := by
  have hl : (signs z).length = z.cps.size := by unfold signs; simp
  refine ⟨fun m' S' H' e l r _ => by show z.cps.size ≤ _; rw [hl]; exact Nat.le_refl _, fun i m' S' H' e l r _ hi => by show i < _; rw [hl] at hi; exact hi, fun i m' S' H' v H'' e l r _ hi y => ?_⟩
  obtain ⟨rfl, c, ec, ev⟩ := y
  subst ev
  refine ⟨.str ⟨#[c]⟩, ?_, Ext.refl, r, ⟨rfl, rfl⟩, fun _ _ => rfl⟩
  unfold signs
  rw [List.getElem?_map, Array.getElem?_toList, ec]
  rfl
theorem itR_rng {lo : Int} {n : Nat} : ItR K mg (Itr lo n) ((List.range n).map fun (i : Nat) => PV.int (lo + (i : Int))) [] S.length m H := by
  refine ⟨fun m' S' H' e l r _ => by show n ≤ _; simp, fun i m' S' H' e l r _ hi => by show i < n; simpa using hi, fun i m' S' H' v H'' e l r _ hi y => ?_⟩
  obtain ⟨rfl, ev⟩ := y
  subst ev
  have hi' : i < n := by simpa using hi
  refine ⟨.int (lo + i), ?_, Ext.refl, r, ⟨rfl, rfl⟩, fun _ _ => rfl⟩
  rw [List.getElem?_map, List.getElem?_range hi']
  rfl
end
section
variable {X : Cx} {W : WX} {pos p : Pos} {tg iter a b : Expr} {c ca cb : CE PV}
theorem di_any (h : DE X W iter c) : DI X W tg iter (iAny c) := pi_imp (pi_any h) fun σ H R h => by
  obtain ⟨m, S, ρ, at_, fin⟩ := h
  refine ⟨m, S, ρ, at_, (Fin.bind at_ fin).mono fun v H1 h1 => ?_⟩
  obtain ⟨m1, S1, x, at1, r1, e1, l1, f1⟩ := h1
  unfold itemsV at f1
  cases x with
  | tup xs =>
    obtain ⟨b1, q, vs, rfl, hq, hvs⟩ := r1
    exact .inr (.inl ⟨q, rfl, ⟨vs, SqT.of hq⟩, f1.here at1.rel (itR_tup (fun m' H' e => SqT.of (e.tu _ _ hq)) b1 hvs _ rfl fun _ _ _ _ => trivial)⟩)
  | kup xs =>
    obtain ⟨b1, q, vs, rfl, hq, hvs⟩ := r1
    exact .inr (.inl ⟨q, rfl, ⟨vs, hq.t⟩, f1.here at1.rel (itR_tup (fun m' H' e => (e.e0.fk _ _ hq).t) b1 hvs _ rfl fun _ _ _ _ => trivial)⟩)
  | rol xs =>
    obtain ⟨b1, q, vs, rfl, hq, hvs⟩ := r1
    exact .inl ⟨q, rfl, ⟨vs, hq.l⟩, f1.here at1.rel (itR_rol (fun m' H' e => (e.fz _ _ hq).l) b1 hvs)⟩
  | str z =>
    have ev : v = .str z := r1.2
    exact .inr (.inr ⟨z, ev, f1.here at1.rel itR_str⟩)
  | obj i =>
    have ev : v = .ref (m1 i) := r1.2
    simp only at f1
    cases ei : S1[i]? with
    | none => simp only [ei] at f1; exact f1.elim
    | some o =>
      simp only [ei] at f1
      cases o with
      | lst xs =>
        obtain ⟨b1, vs, h1, h2⟩ := at1.rel.lst ei
        exact .inl ⟨m1 i, ev, ⟨vs, SqL.of h1⟩, f1.here at1.rel (itR_lst at1.rel ei)⟩
      | _ => exact f1.elim
  | _ => exact f1.elim
def rngL (lo hi : Int) : List PV := (List.range (hi - lo).toNat).map fun (i : Nat) => PV.int (lo + (i : Int))
def iRange1 (c : CE PV) : CE (List PV × Chk) := fun ρ S => (c ρ S).bind fun x S1 => match x with
  | .int j => if -(2 ^ 62) ≤ j ∧ j < 2 ^ 62 then .ok (rngL 0 j, []) S1 else .stuck
  | _ => .stuck
theorem di_range1 (hm : X.mg "range" = none) (ha : DE X W a ca) (hg : Gl X "range" := by rfl) (hs : starEach [a] X.env = [(false, eval a X.env)] := by rfl) (hs2 : starEach [a] X.env = (false, eval a X.env) :: starEach [] X.env := by rfl) : DI X W tg (.Call (.Name "range" p) [a] [] pos) (iRange1 ca) := by
  refine pi_imp (pi_range1 hg hm (pa_cons ha pa_nil hs2) hs) fun σ H R h => ?_
  obtain ⟨m, S, ρ, at_, fin⟩ := h
  refine ⟨m, S, ρ, at_, (Fin.bind at_ fin).mono fun v H1 h1 => ?_⟩
  obtain ⟨m1, S1, x, at1, r1, e1, l1, f1⟩ := h1
  cases x with
  | int j =>
    have ev : v = .int j := r1.2
    subst ev
    simp only at f1
    by_cases q : -(2 ^ 62) ≤ j ∧ j < 2 ^ 62
    · rw [if_pos q] at f1
      refine ⟨j, rfl, q.1, q.2, ?_⟩
      have z := itR_rng (K := X.K) (mg := X.mg) (m := m1) (S := S1) (H := H1) (lo := 0) (n := j.toNat)
      have e : rngL 0 j = (List.range j.toNat).map fun (i : Nat) => PV.int (0 + (i : Int)) := by unfold rngL; rw [Int.sub_zero]
      rw [e] at f1
      exact f1.here at1.rel z
    · rw [if_neg q] at f1
      exact f1.elim
  | _ => exact f1.elim
def iRange2 (ca cb : CE PV) : CE (List PV × Chk) := fun ρ S => (ca ρ S).bind fun x S1 => (cb ρ S1).bind fun y S2 => match x, y with
  | .int i, .int j => if (-(2 ^ 62) ≤ i ∧ i < 2 ^ 62) ∧ -(2 ^ 62) ≤ j ∧ j < 2 ^ 62 then .ok (rngL i j, []) S2 else .stuck
  | _, _ => .stuck
theorem di_range2 (hm : X.mg "range" = none) (ha : DE X W a ca) (hb : DE X W b cb) (hg : Gl X "range" := by rfl) (hs : starEach [a, b] X.env = [(false, eval a X.env), (false, eval b X.env)] := by rfl) (hs2 : starEach [b] X.env = [(false, eval b X.env)] := by rfl)
    (hs3 : starEach [a, b] X.env = (false, eval a X.env) :: starEach [b] X.env := by rfl) (hs4 : starEach [b] X.env = (false, eval b X.env) :: starEach [] X.env := by rfl) : DI X W tg (.Call (.Name "range" p) [a, b] [] pos) (iRange2 ca cb) := by
  refine pi_imp (pi_range2 hg hm (pa_cons ha (pa_cons hb pa_nil hs4) hs3) hs hs2) fun σ H R h => ?_
  obtain ⟨m, S, ρ, at_, fin⟩ := h
  refine ⟨m, S, ρ, at_, (Fin.bind at_ fin).mono fun v H1 h1 => ?_⟩
  obtain ⟨m1, S1, x, at1, r1, e1, l1, f1⟩ := h1
  refine ⟨m1, S1, ρ, at1, (Fin.bind at1 f1).mono fun u H2 h2 => ?_⟩
  obtain ⟨m2, S2, y, at2, r2, e2, l2, f2⟩ := h2
  cases x with
  | int i =>
    cases y with
    | int j =>
      have ev : v = .int i := r1.2
      have eu : u = .int j := r2.2
      subst ev eu
      simp only at f2
      by_cases q : (-(2 ^ 62) ≤ i ∧ i < 2 ^ 62) ∧ -(2 ^ 62) ≤ j ∧ j < 2 ^ 62
      · rw [if_pos q] at f2
        exact ⟨i, j, rfl, ⟨q.1.1, q.1.2, q.2.1, q.2.2⟩, f2.here at2.rel itR_rng⟩
      · rw [if_neg q] at f2
        exact f2.elim
    | _ => exact f2.elim
  | _ => exact f2.elim
end
/-! ### for -/
open Classical in
noncomputable def forN (t : TT') (b : CS) (ck : Chk) : List PV → CS
  | [] => fun ρ S => if chk ck S then .next ρ S else .stuck
  | x :: xs => fun ρ S => if chk ck S then match setT t x ρ with
    | none => .stuck
    | some ρ1 => match b ρ1 S with
      | .next ρ' S' => forN t b ck xs ρ' S'
      | .cont ρ' S' => forN t b ck xs ρ' S'
      | .brk ρ' S' => .next ρ' S'
      | r => r
    else .stuck
noncomputable def sFor (t : TT') (i : CE (List PV × Chk)) (b : CS) : CS := fun ρ S => sb (i ρ S) ρ fun p S1 => forN t b p.2 p.1 ρ S1
section
variable {X : Cx} {W : WX} {pos : Pos} {tg iter : Expr} {body : List Stmt} {t : TT'} {i : CE (List PV × Chk)} {b : CS}
theorem ds_for (hp : PassesOwn (model X.prog X.w) X.A X.env X.xe) (hc : X.calm = true) (hi : DI X W tg iter i) (hg : DG X tg t) (hb : DSs X W body b) (hs : ∀ x, foldedSetIterable iter X.env x = pure x := by intro _; rfl) : DS X W (.For tg iter body [] pos) (sFor t i b) :=
  ps_imp (ps_for hp hc hi hg hb hs) fun D σ H h => by
  obtain ⟨m, S, ρ, at_, fin⟩ := h
  refine ⟨m, S, ρ, at_, (FinS.bind at_ fin).mono fun J H1 h1 => ?_⟩
  obtain ⟨m1, S1, ⟨all, ck⟩, at1, r1, e1, l1, f1⟩ := h1
  have r1' : ItR X.K X.mg J all ck S1.length m1 H1 := r1
  refine ⟨fun j k σ H => ∃ m S ρ, At X.K X.mg m S H ρ σ ∧ Ext X.K S1.length m1 H1 m H ∧ S1.length ≤ S.length ∧ j + k = all.length ∧ FinS X.K X.mg W m S H D (forN t b ck (all.drop j) ρ S), ⟨all.length, m1, S1, ρ, at1, Ext.refl, Nat.le_refl _, by omega, f1⟩, ?_⟩
  rintro j k σ H ⟨m, S, ρ, at_, ex, le, hk, fin⟩
  by_cases hj : j < all.length
  · have ed : all.drop j = all[j] :: all.drop (j + 1) := List.drop_eq_getElem_cons hj
    rw [ed] at fin
    unfold forN at fin
    by_cases hck : chk ck S
    · rw [if_pos hck] at fin
      refine .inr ⟨r1'.go j m S H ex le at_.rel hck hj, fun σ' H' => ∃ m S ρ, At X.K X.mg m S H' ρ σ' ∧ Ext X.K S1.length m1 H1 m H' ∧ S1.length ≤ S.length ∧ FinS X.K X.mg W m S H' D (forN t b ck (all.drop (j + 1)) ρ S), fun σ' H' n => ?_, fun v H' y => ?_⟩
      · obtain ⟨m', S', ρ', a', ex', le', f'⟩ := n
        exact ⟨k - 1, by omega, m', S', ρ', a', ex', le', by omega, f'⟩
      · obtain ⟨x, ex1, e2, r2, rx, _⟩ := r1'.yld j m S H v H' ex le at_.rel hck hj y
        have exj : all[j] = x := by
          rw [List.getElem?_eq_getElem hj] at ex1
          exact Option.some.inj ex1
        rw [exj] at fin
        cases q : setT t x ρ with
        | none => rw [q] at fin; exact fin.elim
        | some ρ1 =>
          rw [q] at fin
          simp only at fin
          have envH : EnvR X.K S.length m H' ρ σ := at_.env.ext e2 (Nat.le_refl _)
          refine gTg_ok envH rx q fun σ2 env2 _ => ⟨m, S, ρ1, ⟨r2, env2⟩, ?_⟩
          have base : ∀ {m' H''}, Ext X.K S.length m H' m' H'' → Ext X.K S1.length m1 H1 m' H'' := fun e3 => (ex.trans e2 le).trans e3 le
          cases eb : b ρ1 S with
          | next ρ' S' =>
            rw [eb] at fin
            exact fun m' H'' σ' e3 l3 a3 => ⟨m', S', ρ', a3, base e3, Nat.le_trans le l3, FinS.from fin (e2.trans e3 (Nat.le_refl _)) l3⟩
          | cont ρ' S' =>
            rw [eb] at fin
            exact fun m' H'' σ' e3 l3 a3 => ⟨m', S', ρ', a3, base e3, Nat.le_trans le l3, FinS.from fin (e2.trans e3 (Nat.le_refl _)) l3⟩
          | brk ρ' S' =>
            rw [eb] at fin
            exact FinS.from (S1 := S) (r := .next ρ' S') fin e2 (Nat.le_refl _)
          | ret x S' =>
            rw [eb] at fin
            exact FinS.from (S1 := S) (r := .ret x S') fin e2 (Nat.le_refl _)
          | exc c p ρ' S' =>
            rw [eb] at fin
            exact FinS.from (S1 := S) (r := .exc c p ρ' S') fin e2 (Nat.le_refl _)
          | stuck =>
            rw [eb] at fin
            exact fin
    · rw [if_neg hck] at fin
      exact fin.elim
  · have ej : j = all.length := by omega
    subst ej
    rw [List.drop_length] at fin
    unfold forN at fin
    by_cases hck : chk ck S
    · rw [if_pos hck] at fin
      exact .inl ⟨r1'.stop m S H ex le at_.rel hck, fin.nx_here at_⟩
    · rw [if_neg hck] at fin
      exact fin.elim
end
end TL

set_option Elab.async false
set_option linter.all false
set_option maxRecDepth 100000
set_option maxHeartbeats 1000000
/-! TL9: list comprehensions, built-in functions, try. -/
namespace TL
open PySem PySem.Spec PyProof.Rows L2
/-! ### [e for t in i if c] -/
def wipeP (ρ : Sl) : List Nat → Sl
  | [] => ρ
  | v :: vs => (wipeP ρ vs).set v none
theorem EnvR.wipe {K : PySem.W.Frag} {n : Nat} {m : Mp} {H : Hp} {ρ : Sl} {σ : L2.St} (h : EnvR K n m H ρ σ) : ∀ vs : List Nat, EnvR K n m H (wipeP ρ vs) (wipe σ vs)
  | [] => h
  | v :: vs => (EnvR.wipe h vs).setN
open Classical in
noncomputable def lcN (t : TT') (tt : CE Bool) (te : CE PV) (ck : Chk) (d : Nat) (ρ : Sl) : List PV → Store → Res PV
  | [] => fun S => if chk ck S then .ok (.obj d) S else .stuck
  | x :: xs => fun S => if chk ck S then match setT t x ρ with
    | none => .stuck
    | some ρ1 => match tt ρ1 S with
      | .ok q S1 => if q = true then match te ρ1 S1 with
        | .ok y S2 => match S2[d]? with
          | some (.lst acc) => if acc.length < sizeLine then lcN t tt te ck d ρ xs (S2.set d (.lst (acc ++ [y]))) else .stuck
          | _ => .stuck
        | _ => .stuck
        else lcN t tt te ck d ρ xs S1
      | _ => .stuck
    else .stuck
noncomputable def eLc (t : TT') (i : CE (List PV × Chk)) (tt : CE Bool) (te : CE PV) (vs : List Nat) : CE PV := fun ρ S => (i ρ S).bind fun p S1 => lcN t tt te p.2 S1.length (wipeP ρ vs) p.1 (S1 ++ [.lst []])
theorem wipe_idem (σ : L2.St) (vs : List Nat) : wipe (wipe σ vs) vs = wipe σ vs := by
  apply List.ext_getElem?
  intro z
  rw [wipe_get (wipe σ vs) z vs, wipe_length, wipe_get σ z vs]
  split <;> rfl
abbrev W0 : WX := fun _ _ _ _ => False
def tYes' : CE Bool := fun _ S => .ok true S
abbrev DTs (X : Cx) (W : WX) (ifs : List Expr) (c : CE Bool) : Prop := PTs X ifs (rdT X.K X.mg W c)
theorem dts_nil {X : Cx} {W : WX} : DTs X W [] tYes' := ⟨fun pins s σ H Q I h => by
  obtain ⟨m, S, ρ, at_, fin⟩ := h
  exact pts_nil.run pins s σ H Q I (fin.here at_.rel rfl)⟩
theorem dts_one {X : Cx} {W : WX} {e : Expr} {c : CE Bool} (h : DT X W e c) : DTs X W [e] c := pts_one h
theorem rd_lc {K : PySem.W.Frag} {mg : Str → Option Value} {W : WX} {t : TT'} {i : CE (List PV × Chk)} {tt : CE Bool} {te : CE PV} {vs : List Nat} (hv : ∀ j ∈ ixT t, j ∈ vs) (σ : L2.St) (H : Hp) (Q : VK) (h : rdE K mg W (eLc t i tt te vs) σ H Q) :
    tLc (rdI K mg W i) (gTg K t) (rdT K mg W0 tt) (rdE K mg W0 te) vs σ H Q := by
  obtain ⟨m, S, ρ, at_, fin⟩ := h
  refine ⟨m, S, ρ, at_, (Fin.bind at_ fin).mono fun J H1 h1 => ?_⟩
  obtain ⟨m1, S1, ⟨all, ck⟩, at1, r1, e1, l1, f1⟩ := h1
  have r1' : ItR K mg J all ck S1.length m1 H1 := r1
  intro D hD
  have relD : Rel K mg (mNew m1 S1.length D) (S1 ++ [.lst []]) (upd H1 D (.lst [])) := at1.rel.newO hD rfl ⟨[], upd_same, rfl⟩
  have extD : Ext K S1.length m1 H1 (mNew m1 S1.length D) (upd H1 D (.lst [])) := ext_new hD fun i hi => mNew_lt hi
  have lenD : (S1 ++ [PO.lst []]).length = S1.length + 1 := by rw [List.length_append]; rfl
  refine ⟨fun j k H => ∃ m S, Rel K mg m S H ∧ Ext K S1.length m1 H1 m H ∧ S1.length + 1 ≤ S.length ∧ m S1.length = D ∧ j + k = all.length ∧ Fin K mg W σ m S H (RV K) Q (lcN t tt te ck S1.length (wipeP ρ vs) (all.drop j) S), ⟨all.length, _, _, relD, extD, by omega, mNew_at, by omega, Fin.from f1 extD (by omega)⟩, ?_⟩
  rintro j k H ⟨m, S, rel, ex, le, eD, hk, fin⟩
  by_cases hj : j < all.length
  · have ed : all.drop j = all[j] :: all.drop (j + 1) := List.drop_eq_getElem_cons hj
    rw [ed] at fin
    unfold lcN at fin
    by_cases hck : chk ck S
    · rw [if_pos hck] at fin
      refine .inr ⟨r1'.go j m S H ex (by omega) rel hck hj, fun H' => ∃ m S, Rel K mg m S H' ∧ Ext K S1.length m1 H1 m H' ∧ S1.length + 1 ≤ S.length ∧ m S1.length = D ∧ Fin K mg W σ m S H' (RV K) Q (lcN t tt te ck S1.length (wipeP ρ vs) (all.drop (j + 1)) S), fun H' n => ?_, fun v H' y => ?_⟩
      · obtain ⟨m', S', a', ex', le', eD', f'⟩ := n
        exact ⟨k - 1, by omega, m', S', a', ex', le', eD', by omega, f'⟩
      · obtain ⟨x, ex1, e2, r2, rx, _⟩ := r1'.yld j m S H v H' ex (by omega) rel hck hj y
        have exj : all[j] = x := by
          rw [List.getElem?_eq_getElem hj] at ex1
          exact Option.some.inj ex1
        rw [exj] at fin
        cases q : setT t x (wipeP ρ vs) with
        | none => rw [q] at fin; exact fin.elim
        | some ρ1 =>
          rw [q] at fin
          simp only at fin
          have ex2 : Ext K S1.length m1 H1 m H' := ex.trans e2 (by omega)
          have env0 : EnvR K S.length m H' (wipeP ρ vs) (wipe σ vs) := (at1.env.wipe vs).ext ex2 (by omega)
          refine gTg_ok env0 rx q fun σ2 env2 hw => ⟨?_, ?_⟩
          · have := hw vs hv
            rw [this, wipe_idem]
          · have fin0 : Fin K mg W σ m S H' (RV K) Q (match tt ρ1 S with
              | .ok q S1' => if q = true then match te ρ1 S1' with
                | .ok y S2 => match S2[S1.length]? with
                  | some (.lst acc) => if acc.length < sizeLine then lcN t tt te ck S1.length (wipeP ρ vs) (all.drop (j + 1)) (S2.set S1.length (.lst (acc ++ [y]))) else .stuck
                  | _ => .stuck
                | _ => .stuck
                else lcN t tt te ck S1.length (wipeP ρ vs) (all.drop (j + 1)) S1'
              | _ => .stuck) := Fin.from fin e2 (Nat.le_refl _)
            refine ⟨m, S, ρ1, ⟨r2, env2⟩, ?_⟩
            cases et : tt ρ1 S with
            | stuck => rw [et] at fin0; exact fin0.elim
            | exc c p S' => rw [et] at fin0; exact fin0.elim
            | ok b S3 =>
              rw [et] at fin0
              intro m3 H3 b' e3 l3 rel3 rb
              have rb' : b = b' := rb
              subst rb'
              simp only at fin0
              have ex3 : Ext K S1.length m1 H1 m3 H3 := ex2.trans e3 (by omega)
              have eD3 : m3 S1.length = D := (e3.mi _ (by omega)).trans eD
              cases b with
              | false =>
                rw [if_neg Bool.false_ne_true] at fin0
                rw [if_neg Bool.false_ne_true]
                exact ⟨m3, S3, rel3, ex3, by omega, eD3, Fin.from fin0 e3 l3⟩
              | true =>
                rw [if_pos rfl] at fin0
                rw [if_pos rfl]
                refine ⟨m3, S3, ρ1, ⟨rel3, env2.ext e3 l3⟩, ?_⟩
                cases ey : te ρ1 S3 with
                | stuck => rw [ey] at fin0; exact fin0.elim
                | exc c p S' => rw [ey] at fin0; exact fin0.elim
                | ok y S4 =>
                  rw [ey] at fin0
                  intro m4 H4 w e4 l4 rel4 rw4
                  simp only at fin0
                  have ex4 : Ext K S1.length m1 H1 m4 H4 := ex3.trans e4 (by omega)
                  have eD4 : m4 S1.length = D := (e4.mi _ (by omega)).trans eD3
                  cases ea : S4[S1.length]? with
                  | none => simp only [ea] at fin0; exact fin0.elim
                  | some o =>
                    simp only [ea] at fin0
                    cases o with
                    | lst acc =>
                      simp only at fin0
                      by_cases hz : acc.length < sizeLine
                      · rw [if_pos hz] at fin0
                        obtain ⟨b5, us, h5, r5⟩ := rel4.lst ea
                        rw [eD4] at h5
                        have hi4 : S1.length < S4.length := by omega
                        have bb : bnds S4.length (acc ++ [y]) = true := bnds_append.mpr ⟨b5, Bool.and_eq_true_iff.mpr ⟨rw4.1, rfl⟩⟩
                        have ew := rel4.ext_write (u := .lst (us ++ [w])) ea (fun _ z => by cases z)
                        have rel5 := rel4.write (u := .lst (us ++ [w])) (o := .lst (acc ++ [y])) ea (fun _ z => by cases z) bb ⟨_, upd_same, (r5.append (Rps.one rw4.2)).ext ew _ _ bb⟩
                        rw [eD4] at rel5 ew
                        refine ⟨us, h5, by rw [r5.length]; exact hz, m4, _, rel5, ex4.trans ew (by omega), by rw [List.length_set]; omega, eD4, Fin.from fin0 ((e3.trans e4 (by omega)).trans ew (by omega)) (by rw [List.length_set]; omega)⟩
                      · rw [if_neg hz] at fin0
                        exact fin0.elim
                    | _ => exact fin0.elim
    · rw [if_neg hck] at fin
      exact fin.elim
  · have ej : j = all.length := by omega
    subst ej
    rw [List.drop_length] at fin
    unfold lcN at fin
    by_cases hck : chk ck S
    · rw [if_pos hck] at fin
      refine .inl ⟨r1'.stop m S H ex (by omega) rel hck, fin.here rel ⟨decide_eq_true (by omega), ?_⟩⟩
      show V.ref D = V.ref (m S1.length)
      rw [eD]
    · rw [if_neg hck] at fin
      exact fin.elim
section
variable {X : Cx} {W : WX} {elt tg iter : Expr} {ifs : List Expr} {scope : Scope} {own : List (Str × Nat)} {pos : Pos} {t : TT'} {i : CE (List PV × Chk)} {tt : CE Bool} {te : CE PV}
theorem de_lc (own : List (Str × Nat)) (hc : X.calm = true) (hN : X.N.Nodup) (hi : DI X W tg iter i) (ok : BlkOk X.N X.env.scope scope own)
    (hg : ∀ (s : Shared) (H : Hp) (C : Addr) (cl : List (Str × Addr)) (fp : List Addr), DG (X.blk s H scope (compEnvC scope cl C X.env) fp) tg t)
    (ht : ∀ (s : Shared) (H : Hp) (C : Addr) (cl : List (Str × Addr)) (fp : List Addr), DTs (X.blk s H scope (compEnvC scope cl C X.env) fp) W0 ifs tt)
    (he : ∀ (s : Shared) (H : Hp) (C : Addr) (cl : List (Str × Addr)) (fp : List Addr), DE (X.blk s H scope (compEnvC scope cl C X.env) fp) W0 elt te)
    (hv : ∀ j ∈ ixT t, j ∈ own.map (·.2) := by decide) (hs : ∀ x, foldedSetIterable iter X.env x = pure x := by intro _; rfl) : DE X W (.ListComp elt [⟨tg, iter, ifs, 0⟩] scope pos) (eLc t i tt te (own.map (·.2))) :=
  pe_imp (pe_lc hc hN hi ok hg ht he hs) (rd_lc hv)
theorem ds_setLc (k : Nat) (own : List (Str × Nat)) {y : Str} {py spos : Pos} (hc : X.calm = true) (hN : X.N.Nodup) (hi : DI X W tg iter i) (ok : BlkOk X.N X.env.scope scope own)
    (hg : ∀ (s : Shared) (H : Hp) (C : Addr) (cl : List (Str × Addr)) (fp : List Addr), DG (X.blk s H scope (compEnvC scope cl C X.env) fp) tg t)
    (ht : ∀ (s : Shared) (H : Hp) (C : Addr) (cl : List (Str × Addr)) (fp : List Addr), DTs (X.blk s H scope (compEnvC scope cl C X.env) fp) W0 ifs tt)
    (he : ∀ (s : Shared) (H : Hp) (C : Addr) (cl : List (Str × Addr)) (fp : List Addr), DE (X.blk s H scope (compEnvC scope cl C X.env) fp) W0 elt te)
    (hy : X.N[k]? = some y := by rfl) (hyl : X.env.scope.names.lookup y = some .local := by rfl)
    (hsw : swapsWith (.ListComp elt [⟨tg, iter, ifs, 0⟩] scope pos) (some (.Name y py)) spos.line X.env = pure true := by exact sw_true rfl rfl rfl (by decide +kernel))
    (hv : ∀ j ∈ ixT t, j ∈ own.map (·.2) := by decide) (hs : ∀ x, foldedSetIterable iter X.env x = pure x := by intro _; rfl) : DS X W (.Assign [.Name y py] (.ListComp elt [⟨tg, iter, ifs, 0⟩] scope pos) spos) (sSet k (eLc t i tt te (own.map (·.2)))) :=
  ps_imp (ps_setLc hc hN hy hyl hsw hi ok hg ht he hs) fun D σ H h => by
    obtain ⟨m, S, ρ, at_, fin⟩ := h
    refine rd_lc hv σ H _ ⟨m, S, ρ, at_, (FinS.bind at_ fin).mono fun v H1 h1 => ?_⟩
    obtain ⟨m1, S1, y, at1, r1, e1, l1, f1⟩ := h1
    exact f1.nx_here ⟨at1.rel, at1.env.set r1.1 r1.2⟩
end
/-! ### built-in functions -/
def lenV : FB := fun xs S => match xs with
  | [.tup ys] => .ok (.int ys.length) S
  | [.kup ys] => .ok (.int ys.length) S
  | [.rol ys] => .ok (.int ys.length) S
  | [.str z] => if z.length ≤ sizeLine then .ok (.int z.length) S else .stuck
  | [.obj i] => match S[i]? with
    | some (.lst ys) => .ok (.int ys.length) S
    | _ => .stuck
  | _ => .stuck
theorem one_of {K : PySem.W.Frag} {n : Nat} {m : Mp} {H : Hp} {x : PV} {vs : List V} (h : RL K n m H [x] vs) : ∃ v, vs = [v] ∧ RV K n m H x v := by
  obtain ⟨b, v, r, rfl, h1, h2⟩ := h
  have e : r = [] := h2
  subst e
  exact ⟨v, rfl, (Bool.and_eq_true_iff.mp b).1, h1⟩
theorem two_of {K : PySem.W.Frag} {n : Nat} {m : Mp} {H : Hp} {x y : PV} {vs : List V} (h : RL K n m H [x, y] vs) : ∃ v u, vs = [v, u] ∧ RV K n m H x v ∧ RV K n m H y u := by
  obtain ⟨b, v, r, rfl, h1, h2⟩ := h
  have b' := Bool.and_eq_true_iff.mp b
  obtain ⟨u, rfl, ru⟩ := one_of ⟨b'.2, h2⟩
  exact ⟨v, u, rfl, ⟨b'.1, h1⟩, ru⟩
theorem opC_len {K : PySem.W.Frag} {mg : Str → Option Value} : OpC K mg lenV (fun xs H Q => ∃ x n, xs = [x] ∧ LenV K x H n ∧ Q (.int n) H) := by
  intro W σ m S H xs vs Q rel rx f
  unfold lenV at f
  split at f
  · obtain ⟨v, rfl, b, p, us, rfl, h1, h2⟩ := one_of rx
    exact ⟨_, _, rfl, .inr ⟨us, SqT.of h1, rfl⟩, by rw [h2.length]; exact f.here rel ⟨rfl, rfl⟩⟩
  · obtain ⟨v, rfl, b, p, us, rfl, h1, h2⟩ := one_of rx
    exact ⟨_, _, rfl, .inr ⟨us, h1.t, rfl⟩, by rw [h2.length]; exact f.here rel ⟨rfl, rfl⟩⟩
  · obtain ⟨v, rfl, b, p, us, rfl, h1, h2⟩ := one_of rx
    exact ⟨_, _, rfl, .inl ⟨us, h1.l, rfl⟩, by rw [h2.length]; exact f.here rel ⟨rfl, rfl⟩⟩
  · rename_i z
    obtain ⟨v, rfl, b, ev⟩ := one_of rx
    have ev' : v = .str z := ev
    subst ev'
    by_cases q : z.length ≤ sizeLine
    · rw [if_pos q] at f
      exact ⟨_, _, rfl, ⟨q, rfl⟩, f.here rel ⟨rfl, rfl⟩⟩
    · rw [if_neg q] at f
      exact f.elim
  · rename_i i
    obtain ⟨v, rfl, b, ev⟩ := one_of rx
    have ev' : v = .ref (m i) := ev
    subst ev'
    split at f
    · rename_i ys ei
      obtain ⟨b1, us, h1, h2⟩ := rel.lst ei
      exact ⟨_, _, rfl, .inl ⟨us, SqL.of h1, rfl⟩, by rw [h2.length]; exact f.here rel ⟨rfl, rfl⟩⟩
    · exact f.elim
  · exact f.elim
def absV' : FB := fun xs S => match xs with
  | [.int i] => .ok (.int (if i < 0 then -i else i)) S
  | _ => .stuck
theorem opC_abs {K : PySem.W.Frag} {mg : Str → Option Value} : OpC K mg absV' (fun xs H Q => ∃ i, xs = [.int i] ∧ Q (.int (if i < 0 then -i else i)) H) := by
  intro W σ m S H xs vs Q rel rx f
  unfold absV' at f
  split at f
  · rename_i i
    obtain ⟨v, rfl, b, ev⟩ := one_of rx
    have ev' : v = .int i := ev
    subst ev'
    exact ⟨i, rfl, f.here rel ⟨rfl, rfl⟩⟩
  · exact f.elim
/-- the name of a value's type -/
def tyP (x : PV) (S : Store) : Option String := match x with
  | .non => some "NoneType"
  | .bl _ => some "bool"
  | .int _ => some "int"
  | .str _ => some "str"
  | .tup _ => some "tuple"
  | .kup _ => none
  | .rol _ => some "list"
  | .obj i => match S[i]? with
    | some (.lst _) => some "list"
    | some (.dic false _) => some "dict"
    | _ => none
  | _ => none
def tyNames : List String := ["NoneType", "bool", "int", "str", "tuple", "list", "dict"]
def isSub (a b : String) : Bool := decide (a = b) || (decide (a = "bool") && decide (b = "int"))
theorem kitB_all : ∀ a ∈ tyNames, ∀ b ∈ ["bool", "int", "str", "tuple", "list", "dict"], kitB a b = some (isSub a b) := by decide +kernel
def isinstV (b : String) : FB := fun xs S => match xs with
  | [x, .ty n] => if n = b then match tyP x S with
    | some a => .ok (.bl (isSub a b)) S
    | none => .stuck
    else .stuck
  | _ => .stuck
theorem tyP_mem {x : PV} {S : Store} {a : String} (h : tyP x S = some a) : a ∈ tyNames := by
  unfold tyP at h
  cases x with
  | obj i =>
    simp only at h
    split at h <;> first | (cases h; decide) | cases h
  | _ => first | (cases h; decide) | cases h
theorem tyP_ok {K : PySem.W.Frag} {mg : Str → Option Value} {m : Mp} {S : Store} {H : Hp} {x : PV} {v : V} {a : String} (rel : Rel K mg m S H) (r : RV K S.length m H x v) (h : tyP x S = some a) : TyX K H v (.type a) := by
  unfold tyP at h
  cases x with
  | non => cases h; have e : v = .non := r.2; subst e; exact .base .non
  | bl b => cases h; have e : v = .bl b := r.2; subst e; exact .base (.bl b)
  | int b => cases h; have e : v = .int b := r.2; subst e; exact .base (.int b)
  | str b => cases h; have e : v = .str b := r.2; subst e; exact .base (.str b)
  | tup xs => cases h; obtain ⟨_, p, vs, rfl, h1, h2⟩ := r; exact .base (.tup h1)
  | kup xs => cases h
  | rol xs =>
    cases h
    obtain ⟨_, p, vs, rfl, h1, h2⟩ := r
    rcases h1 with ⟨o, h1⟩ | ⟨o, its, n, h1, h3, _⟩
    · exact .base (.frz h1)
    · exact .kList h1 h3
  | obj i =>
    have e : v = .ref (m i) := r.2
    subst e
    simp only at h
    cases ei : S[i]? with
    | none => simp only [ei] at h; cases h
    | some o =>
      simp only [ei] at h
      cases o with
      | lst xs =>
        cases h
        obtain ⟨_, vs, h1, _⟩ := rel.lst ei
        exact .base (.lst h1)
      | dic lk kvs =>
        cases lk with
        | false =>
          cases h
          rcases rel.ob i _ ei with ⟨l, h1, _⟩ | ⟨l, h1, _⟩
          · exact .base (.dK h1)
          · exact .base (.dT h1)
        | true => cases h
      | ins _ _ => cases h
  | fn _ => cases h
  | ty _ => cases h
theorem opC_isinst {K : PySem.W.Frag} {mg : Str → Option Value} {b : String} (hb : b ∈ ["bool", "int", "str", "tuple", "list", "dict"]) : OpC K mg (isinstV b) (rIsi K) := by
  intro W σ m S H xs vs Q rel rx f
  unfold isinstV at f
  split at f
  · rename_i x n
    obtain ⟨v, u, rfl, rv, ru⟩ := two_of rx
    have eu : u = .ty n := ru.2
    subst eu
    by_cases q : n = b
    · rw [if_pos q] at f
      subst q
      cases e : tyP x S with
      | none => rw [e] at f; exact f.elim
      | some a =>
        rw [e] at f
        exact ⟨v, .ty n, .type a, .type n, isSub a n, rfl, .ty n, tyP_ok rel rv e, kit_ty (kitB_all a (tyP_mem e) n hb), f.here rel ⟨rfl, rfl⟩⟩
    · rw [if_neg q] at f
      exact f.elim
  · exact f.elim
/-- a built-in type's name as a value -/
theorem de_ty {X : Cx} {W : WX} {x : Str} {n : String} {pos : Pos} (hm : X.mg x = none) (hv : bootBuiltins x = some (.type n) := by decide +kernel) (hg : Gl X x := by rfl) (hn : x ≠ "__name__" := by decide) (hd : (x == ("__debug__" : Str)) = false := by decide) : DE X W (.Name x pos) (eK (.ty n)) :=
  de_k (pe_bltn (v := .ty n) hg hm hv rfl hn hd) (fun _ => rfl) fun _ _ => rfl
end TL

set_option Elab.async false
set_option linter.all false
set_option maxRecDepth 100000
set_option maxHeartbeats 1000000
/-! TL10: defs and their promises, exceptions, what the top has written, a law's end. -/
namespace TL
open PySem PySem.Spec PyProof.Rows L2
/-! ### a def's body -/
def startP (n : Nat) (xs : List PV) : Sl := xs.map some ++ List.replicate (n - xs.length) none
def outS (r : SR) : Res PV := match r with
  | .ret x S => .ok x S
  | .next _ S => .ok .non S
  | .exc c p _ S => .exc c p S
  | _ => .stuck
/-- the def with n names whose body does b -/
def runD (n : Nat) (b : CS) : DF := fun xs S => outS (b (startP n xs) S)
theorem start_ok {K : PySem.W.Frag} {n : Nat} {m : Mp} {H : Hp} {N : List Str} {xs : List PV} {vs : List V} (b : bnds n xs = true) (h : Rps K m H xs vs) : EnvR K n m H (startP N.length xs) (L2.start N vs) := by
  have hl := h.length
  refine ⟨by unfold startP L2.start; simp [hl], fun i x e => ?_⟩
  unfold startP at e
  by_cases hi : i < xs.length
  · rw [List.getElem?_append_left (by simpa using hi), List.getElem?_map] at e
    cases q : xs[i]? with
    | none => rw [q] at e; cases e
    | some y =>
      rw [q] at e
      have e' : y = x := by simpa using e
      subst e'
      obtain ⟨v, ev, rv⟩ := h.get q
      refine ⟨bnds_get b q, v, ?_, rv⟩
      unfold L2.start
      rw [List.getElem?_append_left (by rw [List.length_map, hl]; exact hi), List.getElem?_map, ev]
      rfl
  · rw [List.getElem?_append_right (by simpa using hi)] at e
    rw [List.getElem?_replicate] at e
    split at e <;> cases e
/-- a def of the module, at its name -/
def DefOk (P : Program) (w : World) (K : PySem.W.Frag) (mg : Str → Option Value) (base : Heap) (k : Nat) (x : Str) (ps : List Str) (F : DF) : Prop :=
  ∃ fd, FnOk P w K mg base (L2.CX P w) k (He.ga K x) fd ps (spF K mg ps.length F) ∧ Binds K fd ps [] ∧ mg x = some (.ref (He.ga K x)) ∧ PySem.W.keepIn K (.ref (He.ga K x)) = true
theorem DefOk.mono {P : Program} {w : World} {K : PySem.W.Frag} {mg : Str → Option Value} {base : Heap} {k j : Nat} {x : Str} {ps : List Str} {F : DF} (h : DefOk P w K mg base k x ps F) (l : k ≤ j) : DefOk P w K mg base j x ps F := by
  obtain ⟨fd, h1, h2, h3, h4⟩ := h
  exact ⟨fd, h1.mono l, h2, h3, h4⟩
section
variable {X : Cx} {W : WX} {x : Str} {p pos : Pos} {e : Expr} {es : List Expr} {cs : CE (List PV)} {k : Nat} {ps : List Str} {F : DF}
theorem de_callD (tk : Takes X W) (G : DefOk X.prog X.w X.K X.mg X.base k x ps F) (hr : Room k X.A) (ha : DA X W (e :: es) cs) (hg : Gl X x := by rfl) (hdb : (x == ("__debug__" : Str)) = false := by decide)
    (he : starEach (e :: es) X.env = (false, eval e X.env) :: starEach es X.env := by rfl) (hpl : (backTo pos (starEach es X.env)).any (·.1) = false := by rfl) : DE X W (.Call (.Name x p) (e :: es) [] pos) (eCall ps.length F cs) := by
  obtain ⟨fd, h1, h2, h3, h4⟩ := G
  exact de_call tk h1 hr h3 h4 h2 ha hg hdb he hpl
/-- f() of a def that raises nothing -/
noncomputable def eCall0 (F : DF) : CE PV := fun _ S => match F [] S with
  | .ok x S' => gc S (.ok x S')
  | _ => .stuck
theorem de_callD0 (G : DefOk X.prog X.w X.K X.mg X.base k x [] F) (hr : Room k X.A) (hg : Gl X x := by rfl) (hdb : (x == ("__debug__" : Str)) = false := by decide) : DE X W (.Call (.Name x p) [] [] pos) (eCall0 F) := by
  obtain ⟨fd, h1, h2, h3, h4⟩ := G
  refine pe_imp (pe_call0 h1 hr hg h3 h4 h2 .nil passL hdb) fun σ H Q h => ?_
  obtain ⟨m, S, ρ, at_, fin⟩ := h
  unfold eCall0 at fin
  refine ⟨m, S, [], at_.rel, ⟨rfl, rfl⟩, rfl, ?_⟩
  cases q : F [] S with
  | ok y S' =>
    rw [q] at fin
    have f2 := fin.gc at_.rel
    exact fun m' H' v e l r x => f2 m' H' v e l r x
  | _ => rw [q] at fin; exact fin.elim
end
/-- what a def's context is -/
abbrev cxD (P : Program) (w : World) (K : PySem.W.Frag) (mg : Str → Option Value) (base : Heap) (N : List Str) (qual : Str) (scope : Scope) (f : Addr) (cd : Value) (A : Around) (outer : List Env) (s : Shared) (H : Hp) (E : XK) : Cx := cxOf (L2.CX P w) P w K mg base N qual scope f cd A outer s H E
abbrev wD (E : XK) : WX := fun cls d _ H => E cls d H
theorem fnOk_mk {P : Program} {w : World} {K : PySem.W.Frag} {mg : Str → Option Value} {base : Heap} {k : Nat} {x qual : Str} {params : Arguments} {body : List Stmt} {scope : Scope} {fd : FuncData} {N ps : List Str} {b : CS}
    (F : FunD K x qual params body scope [] [] (He.ga K x) fd) (S : FnScope N ps scope)
    (h : ∀ (cdv : Value) (A : Around) (outer : List Env) (s : Shared) (H : Hp) (E : XK), Room k (A.deeper (envOfC qual scope s.heap.objs.size (He.ga K x) cdv)) → DSs (cxD P w K mg base N qual scope (He.ga K x) cdv A outer s H E) (wD E) body b) :
    FnOk P w K mg base (L2.CX P w) (k + 1) (He.ga K x) fd ps (spF K mg ps.length (runD N.length b)) := by
  refine F.ok S (fun vs H Q E h => ?_) (fun cdv A outer s H vs Q E hr hsp => ⟨_, h cdv A outer s H E hr, ?_⟩)
  · obtain ⟨m, S, xs, _, _, l, _⟩ := h
    exact l
  · obtain ⟨m, S, xs, rel, rx, l, fin⟩ := hsp
    refine ⟨m, S, startP N.length xs, ⟨rel, start_ok rx.1 rx.2⟩, ?_⟩
    unfold runD at fin
    cases q : b (startP N.length xs) S with
    | ret y S' => rw [q] at fin; exact fun m' H' v e l r x => fin m' H' v e l r x
    | next ρ' S' => rw [q] at fin; exact fun m' H' σ' e l a => fin m' H' .non e l a.rel ⟨rfl, rfl⟩
    | exc c p ρ' S' => rw [q] at fin; exact fun m' H' σ' d e l a x => fin m' H' d e l a.rel x
    | brk ρ' S' => rw [q] at fin; exact fin.elim
    | cont ρ' S' => rw [q] at fin; exact fin.elim
    | stuck => rw [q] at fin; exact fin.elim
theorem defOk_mk {P : Program} {w : World} {K : PySem.W.Frag} {mg : Str → Option Value} {base : Heap} {k : Nat} {x qual : Str} {params : Arguments} {body : List Stmt} {scope : Scope} {fd : FuncData} {N ps : List Str} {b : CS}
    (F : FunD K x qual params body scope [] [] (He.ga K x) fd) (S : FnScope N ps scope)
    (hb : ∀ us : List Value, us.length = ps.length → ∀ (kV doc pm : Value) (an : Option Addr) (cdv ct : Value), bindArgs (PySem.W.fnOf x qual params body scope .none kV doc pm an cdv ct) ⟨us, []⟩ = pure (ps.zip us))
    (hm : mg x = some (.ref (He.ga K x)))
    (h : ∀ (cdv : Value) (A : Around) (outer : List Env) (s : Shared) (H : Hp) (E : XK), Room k (A.deeper (envOfC qual scope s.heap.objs.size (He.ga K x) cdv)) → DSs (cxD P w K mg base N qual scope (He.ga K x) cdv A outer s H E) (wD E) body b) :
    DefOk P w K mg base (k + 1) x ps (runD N.length b) := ⟨fd, fnOk_mk F S h, F.bindsN fun kV doc pm an cdv ct us hl => hb us hl kV doc pm an cdv ct, hm, F.kp⟩
/-- a call leaves with what it may -/
theorem tkD {P : Program} {w : World} {K : PySem.W.Frag} {mg : Str → Option Value} {base : Heap} {N : List Str} {qual : Str} {scope : Scope} {f : Addr} {cd : Value} {A : Around} {outer : List Env} {s : Shared} {H : Hp} {E : XK} : Takes (cxD P w K mg base N qual scope f cd A outer s H E) (wD E) := takes_of rfl rfl rfl rfl
theorem poD {P : Program} {w : World} {K : PySem.W.Frag} {mg : Str → Option Value} {base : Heap} {N : List Str} {qual : Str} {scope : Scope} {f : Addr} {cd : Value} {A : Around} {outer : List Env} {s : Shared} {H : Hp} {E : XK} : PassesOwn (model (cxD P w K mg base N qual scope f cd A outer s H E).prog (cxD P w K mg base N qual scope f cd A outer s H E).w) (cxD P w K mg base N qual scope f cd A outer s H E).A (cxD P w K mg base N qual scope f cd A outer s H E).env (cxD P w K mg base N qual scope f cd A outer s H E).xe := passes_of rfl
/-! ### exceptions -/
/-- what is told of the module's exception classes: their names, which stands under which -/
structure ExT (K : PySem.W.Frag) (mg : Str → Option Value) (ns : List Str) (sub : Str → Str → Bool) : Prop where
  gl : ∀ n ∈ ns, mg n = some (.ref (He.ga K n))
  c : ∀ n ∈ ns, ExcC K (He.ga K n)
  exm : ∀ n ∈ ns, ∀ d ∈ ns, PySem.W.exmOne K (.ref (He.ga K n)) (.ref (He.ga K d)) = some (sub n d)
  kit : ∀ n ∈ ns, ∀ d ∈ ns, PySem.W.kitOne K (.ref (He.ga K n)) (.ref (He.ga K d)) = some (sub n d)
  kve : ∀ n ∈ ns, PySem.W.kitOne K (.ref (He.ga K n)) (.type "ValueError") = some true
theorem ca_of {K : PySem.W.Frag} {mg : Str → Option Value} {n : Str} (h : mg n = some (.ref (He.ga K n))) : ca mg n = He.ga K n := by unfold ca; rw [h]
open Classical in
/-- what comes out alike for every place -/
noncomputable def same0 (f : Addr → SR) : SR := if ∀ a, f a = f 0 then f 0 else .stuck
theorem same0_ok {K : PySem.W.Frag} {mg : Str → Option Value} {W : WX} {m : Mp} {S : Store} {H : Hp} {D : Ends} {f : Addr → SR} (h : FinS K mg W m S H D (same0 f)) (a : Addr) : FinS K mg W m S H D (f a) := by
  unfold same0 at h
  by_cases q : ∀ a, f a = f 0
  · rw [if_pos q] at h
    rw [q a]
    exact h
  · rw [if_neg q] at h
    exact h.elim
theorem same0_eq {f : Addr → SR} {r : SR} (h : ∀ a, f a = r) : same0 f = r := by
  unfold same0
  rw [if_pos fun a => by rw [h a, h 0], h 0]
def suiteS (i : Nat) (r : SR) : SR := match r with
  | .next ρ2 S2 => .next (ρ2.set i none) S2
  | .ret y S2 => .ret y S2
  | _ => .stuck
open Classical in
/-- try: body except x as n: suite -/
noncomputable def sTryAs (ns : List Str) (sub : Str → Str → Bool) (x : Str) (i : Nat) (body : CS) (suite : Addr → Str → CS) : CS := fun ρ S => match body ρ S with
  | .exc c none ρ' S' => if c ∈ ns then (if sub c x = true then
      same0 fun a => suiteS i (suite a c (ρ'.set i (some (.fn a))) S')
      else .exc c none ρ' S') else .stuck
  | .exc _ (some _) _ _ => .stuck
  | r => r
section
variable {X : Cx} {W : WX} {x n : Str} {i : Nat} {body suite : List Stmt} {b₀ : Stmt} {np pos pos' : Pos} {cb : CS} {cs : Addr → Str → CS} {ns : List Str} {sub : Str → Str → Bool}
theorem ds_tryAs (i : Nat) (T : ExT X.K X.mg ns sub) (hx : x ∈ ns) (hs : X.stack = X.env :: X.outer) (hf : X.env.frame = some X.env.locals) (hN : X.N.Nodup) (tk : Takes X W)
    (hb : ∀ (W : WX) (pn : List (Addr × Obj)) (xe : Value → Shared → Prop), Takes (X.tr pn xe) W → PassesOwn (model X.prog X.w) X.A X.env xe → DSs (X.tr pn xe) W body cb)
    (hsu : ∀ (a : Addr) (oe : Obj) (c : Str) (pn : List (Addr × Obj)), c ∈ ns → Zc (.ref (He.ga X.K c)) none oe → (∃ vs, oe.data = .fields vs) → DSs (X.suite a ((a, oe) :: pn)) W0 (b₀ :: suite) (cs a c))
    (hi : X.N[i]? = some n := by rfl) (hln : X.env.kindOf n = some .local := by rfl) (hg : Gl X x := by rfl) (hd : (x == ("__debug__" : Str)) = false := by decide) :
    DS X W (.Try body [.ExceptHandler (some (.Name x np)) (some n) (b₀ :: suite) pos'] [] [] pos) (sTryAs ns sub x i cb cs) := by
  have gx := T.gl x hx
  refine ps_imp (ps_try_as (Wout := W) (tb := fun W => rdS X.K X.mg W cb) (ts := fun a cls d => fun D σ H => ∃ c, c ∈ ns ∧ cls = .ref (He.ga X.K c) ∧ d = none ∧ rdS X.K X.mg W0 (cs a c) D σ H) hs hf hN hi hln ⟨hg, hd, .inl gx⟩ tk hb (fun a oe cls d pn hz hfl => ?_)) fun D σ H h => ?_
  · refine ⟨fun pins s σ H D I q => ?_⟩
    obtain ⟨c, hc, ec, ed, q⟩ := q
    subst ec ed
    exact (hsu a oe c pn hc hz hfl).run pins s σ H D I q
  · obtain ⟨m, S, ρ, at_, fin⟩ := h
    refine ⟨m, S, ρ, at_, ?_⟩
    unfold sTryAs at fin
    cases q : cb ρ S with
    | next ρ' S' => rw [q] at fin; exact fin
    | ret y S' => rw [q] at fin; exact fin
    | brk ρ' S' => rw [q] at fin; exact fin
    | cont ρ' S' => rw [q] at fin; exact fin
    | stuck => rw [q] at fin; exact fin
    | exc c p ρ' S' =>
      rw [q] at fin
      cases p with
      | some p => exact fin.elim
      | none =>
        simp only at fin
        by_cases hc : c ∈ ns
        · rw [if_pos hc] at fin
          have gc := T.gl c hc
          intro m' H' σ' d e l a' xr
          have xr' : d = none := xr
          subst xr'
          rw [ca_of gc]
          refine ⟨sub c x, T.exm c hc x hx, fun hb1 a na => ?_, fun hb0 => ?_⟩
          · rw [if_pos hb1] at fin
            have fin := same0_ok fin a
            · refine ⟨c, hc, rfl, rfl, m', S', ρ'.set i (some (.fn a)), ⟨a'.rel, a'.env.set (x := .fn a) (v := .ref a) rfl rfl⟩, ?_⟩
              cases qs : cs a c (ρ'.set i (some (.fn a))) S' with
              | next ρ2 S2 =>
                rw [qs] at fin
                intro m2 H2 σ2 e2 l2 a2
                exact fin m2 H2 (σ2.set i none) (e.trans e2 l) (Nat.le_trans l l2) ⟨a2.rel, a2.env.setN⟩
              | ret y S2 =>
                rw [qs] at fin
                intro m2 H2 v e2 l2 r2 x2
                exact fin m2 H2 v (e.trans e2 l) (Nat.le_trans l l2) r2 x2
              | _ => rw [qs] at fin; exact fin.elim
          · have hb2 : ¬ sub c x = true := by rw [hb0]; exact Bool.false_ne_true
            rw [if_neg hb2] at fin
            have f2 := fin m' H' σ' none e l a' rfl
            rw [ca_of gc] at f2
            exact f2
        · rw [if_neg hc] at fin
          exact fin.elim
end
section
variable {X : Cx} {a D : Addr} {oe : Obj} {pn : List (Addr × Obj)}
/-- isinstance(e, (C, ..)) of the exception that the suite holds -/
def rIsET (K : PySem.W.Frag) (D a : Addr) : List V → Hp → VK → Prop := fun xs H Q => ∃ (tp : Addr) (cs : List V) (us : List Value) (b : Bool), xs = [.ref a, .ref tp] ∧ H tp = some (.tup cs) ∧ Paired ClsV cs us ∧ PySem.W.kitAny K (.ref D) us = some b ∧ Q (.bl b) H
theorem call_isET (C : ExcC X.K D) (hz : Zc (.ref D) none oe) (hf : ∃ vs, oe.data = .fields vs) : CallR (X.suite a ((a, oe) :: pn)) (.builtin "isinstance") (rIsET X.K D a) := by
  intro pins s σ H xs us Q I r h
  obtain ⟨tp, cs, ws, b, rfl, hT, k, e, q⟩ := h
  obtain ⟨u1, u2, rfl, r1, r2⟩ := vals2 r
  cases (show u2 = Value.ref tp from r2)
  cases r1
  obtain ⟨_, its, rv, o, h1, h2, n, h3⟩ := (show ObjOk X.prog X.w H s.heap tp (.tup cs) from I.hok tp _ hT)
  have e3 := ClsV.all k rv
  subst e3
  obtain ⟨oc, od, dt, sl⟩ := o
  simp only at h2 h3
  subst h2 h3
  obtain ⟨hget, _⟩ := I.pin (a, oe) (List.mem_append.mpr (.inl List.mem_cons_self))
  obtain ⟨vs, hv⟩ := hf
  have J : PySem.W.InstAt s.heap a oe D none := by
    obtain ⟨oc, od, oda, osl⟩ := oe
    obtain ⟨g1, g2⟩ := hz
    dsimp only at g1 g2 hv
    subst g1 g2 hv
    exact ⟨hget, rfl, rfl, trivial⟩
  exact PySem.W.kia_tup (PySem.W.handS_kitx_exc C.hg C.hk C.hs C.hd C.ha C.hn C.ht C.hm) I.kIn J h1 e (fun z => nomatch z) fun tk => ⟨.bl b, H, I.tok tk, rfl, q⟩
/-- a class's name as a value, in an except suite -/
def eIsE (i : Nat) (a : Addr) (r : Bool) : CE PV := fun ρ S => match ρ[i]? with
  | some (some (.fn b)) => if b = a then .ok (.bl r) S else .stuck
  | _ => .stuck
theorem eIsE_at {K : PySem.W.Frag} {mg : Str → Option Value} {W : WX} {σ : L2.St} {m : Mp} {S : Store} {H : Hp} {ρ : Sl} {Q : VK} {i : Nat} {a : Addr} {r : Bool} (at_ : At K mg m S H ρ σ) (fin : Fin K mg W σ m S H (RV K) Q (eIsE i a r ρ S)) : σ[i]? = some (some (.ref a)) ∧ Fin K mg W σ m S H (RV K) Q (.ok (.bl r) S) := by
  unfold eIsE at fin
  split at fin
  · rename_i b e
    split at fin
    · rename_i hb
      subst hb
      obtain ⟨_, v, e1, rv⟩ := at_.env.2 i _ e
      have ev : v = .ref b := rv
      rw [ev] at e1
      exact ⟨e1, fin⟩
    · exact fin.elim
  · exact fin.elim
variable {c d n : Str} {p1 p2 p3 pos : Pos} {ns : List Str} {sub : Str → Str → Bool} {i : Nat}
/-- isinstance(e, C), C of the module -/
theorem de_isE (i : Nat) (T : ExT X.K X.mg ns sub) (hc : c ∈ ns) (hd : d ∈ ns) (hz : Zc (.ref (He.ga X.K c)) none oe) (hf : ∃ vs, oe.data = .fields vs) (hm : X.mg "isinstance" = none) (hg : Gl X "isinstance" := by rfl) (hgd : Gl X d := by rfl) (hdd : (d == ("__debug__" : Str)) = false := by decide)
    (hN : X.N[i]? = some n := by rfl) (hv : Vis X.env.scope n := by first | exact Or.inl rfl | exact Or.inr (Or.inl rfl) | exact Or.inr (Or.inr rfl)) (hnd : (n == ("__debug__" : Str)) = false := by decide) (hcd : (n == ("__classdict__" : Str)) = false := by decide)
    (he : starEach [.Name n p2, .Name d p3] (X.suite a ((a, oe) :: pn)).env = (false, eval (.Name n p2) (X.suite a ((a, oe) :: pn)).env) :: starEach [.Name d p3] (X.suite a ((a, oe) :: pn)).env := by rfl)
    (he2 : starEach [.Name d p3] (X.suite a ((a, oe) :: pn)).env = (false, eval (.Name d p3) (X.suite a ((a, oe) :: pn)).env) :: starEach [] (X.suite a ((a, oe) :: pn)).env := by rfl)
    (hpl : (backTo pos (starEach [.Name d p3] (X.suite a ((a, oe) :: pn)).env)).any (·.1) = false := by rfl) :
    DE (X.suite a ((a, oe) :: pn)) W0 (.Call (.Name "isinstance" p1) [.Name n p2, .Name d p3] [] pos) (eIsE i a (sub c d)) := by
  refine pe_imp (pe_callB (call_isE (T.c c hc) hz hf) hg hm PyProof.Rows.boot_isinstance (pa_cons (pe_var hN hv hnd hcd) (pa_cons (pe_glob (v := .ref (He.ga X.K d)) hgd (T.gl d hd) rfl hdd) pa_nil he2) he) (by decide) (by decide) he hpl) fun σ H Q h => ?_
  obtain ⟨m, S, ρ, at_, fin⟩ := h
  obtain ⟨e1, f⟩ := eIsE_at at_ fin
  exact ⟨_, e1, .ref (He.ga X.K d), .ref (He.ga X.K d), sub c d, rfl, fun u r => r, T.kit c hc d hd, f.here at_.rel ⟨rfl, rfl⟩⟩
/-- isinstance(e, ValueError) -/
theorem de_isVE (i : Nat) (T : ExT X.K X.mg ns sub) (hc : c ∈ ns) (hz : Zc (.ref (He.ga X.K c)) none oe) (hf : ∃ vs, oe.data = .fields vs) (hm : X.mg "isinstance" = none) (hme : X.mg "ValueError" = none) (hg : Gl X "isinstance" := by rfl) (hgd : Gl X "ValueError" := by rfl)
    (hve : bootBuiltins "ValueError" = some (.type "ValueError") := by decide +kernel)
    (hN : X.N[i]? = some n := by rfl) (hv : Vis X.env.scope n := by first | exact Or.inl rfl | exact Or.inr (Or.inl rfl) | exact Or.inr (Or.inr rfl)) (hnd : (n == ("__debug__" : Str)) = false := by decide) (hcd : (n == ("__classdict__" : Str)) = false := by decide)
    (he : starEach [.Name n p2, .Name "ValueError" p3] (X.suite a ((a, oe) :: pn)).env = (false, eval (.Name n p2) (X.suite a ((a, oe) :: pn)).env) :: starEach [.Name "ValueError" p3] (X.suite a ((a, oe) :: pn)).env := by rfl)
    (he2 : starEach [.Name "ValueError" p3] (X.suite a ((a, oe) :: pn)).env = (false, eval (.Name "ValueError" p3) (X.suite a ((a, oe) :: pn)).env) :: starEach [] (X.suite a ((a, oe) :: pn)).env := by rfl)
    (hpl : (backTo pos (starEach [.Name "ValueError" p3] (X.suite a ((a, oe) :: pn)).env)).any (·.1) = false := by rfl) :
    DE (X.suite a ((a, oe) :: pn)) W0 (.Call (.Name "isinstance" p1) [.Name n p2, .Name "ValueError" p3] [] pos) (eIsE i a true) := by
  refine pe_imp (pe_callB (call_isE (T.c c hc) hz hf) hg hm PyProof.Rows.boot_isinstance (pa_cons (pe_var hN hv hnd hcd) (pa_cons (pe_bltn (v := .ty "ValueError") hgd hme hve rfl (by decide) (by decide)) pa_nil he2) he) (by decide) (by decide) he hpl) fun σ H Q h => ?_
  obtain ⟨m, S, ρ, at_, fin⟩ := h
  obtain ⟨e1, f⟩ := eIsE_at at_ fin
  exact ⟨_, e1, .ty "ValueError", .type "ValueError", true, rfl, fun u r => r, T.kve c hc, f.here at_.rel ⟨rfl, rfl⟩⟩
/-- names of classes as arguments -/
inductive ClsNames (X : Cx) : List Expr → List Str → Prop
  | nil : ClsNames X [] []
  | cons {es : List Expr} {ds : List Str} {d : Str} {p : Pos} (hg : Gl X d) (hd : (d == ("__debug__" : Str)) = false) (hs : starEach (.Name d p :: es) X.env = (false, eval (.Name d p) X.env) :: starEach es X.env) (r : ClsNames X es ds) : ClsNames X (.Name d p :: es) (d :: ds)
def tRefs (K : PySem.W.Frag) : List Str → TA
  | [] => tNil
  | d :: ds => tCons (tC (.ref (He.ga K d))) (tRefs K ds)
theorem pa_cls (T : ExT X.K X.mg ns sub) : ∀ {es : List Expr} {ds : List Str}, ClsNames X es ds → (∀ d ∈ ds, d ∈ ns) → PA X es (tRefs X.K ds)
  | _, _, .nil, _ => pa_nil
  | _, _, .cons hg hd hs r, h => pa_cons (pe_glob (v := .ref (He.ga X.K _)) hg (T.gl _ (h _ List.mem_cons_self)) rfl hd) (pa_cls T r fun d hd => h d (List.mem_cons_of_mem _ hd)) hs
theorem tRefs_ok {K : PySem.W.Frag} {σ : L2.St} {H : Hp} : ∀ {ds : List Str} {Q : List V → Hp → Prop}, Q (ds.map fun d => .ref (He.ga K d)) H → tRefs K ds σ H Q
  | [], _, q => q
  | d :: ds, Q, q => tRefs_ok (ds := ds) (Q := fun xs H2 => Q (.ref (He.ga K d) :: xs) H2) q
theorem kitAny_of (T : ExT X.K X.mg ns sub) (hc : c ∈ ns) : ∀ {ds : List Str}, (∀ d ∈ ds, d ∈ ns) → PySem.W.kitAny X.K (.ref (He.ga X.K c)) (ds.map fun d => .ref (He.ga X.K d)) = some (ds.any (sub c))
  | [], _ => rfl
  | d :: ds, h => by
    have h1 := T.kit c hc d (h d List.mem_cons_self)
    have h2 := kitAny_of T hc (ds := ds) fun z hz => h z (List.mem_cons_of_mem _ hz)
    rw [List.map_cons]
    exact kitAny_cons h1 (fun e => by rw [h2, List.any_cons, e, Bool.false_or]) fun e => by rw [List.any_cons, e, Bool.true_or]
theorem cls_paired (K : PySem.W.Frag) : ∀ ds : List Str, Paired ClsV (ds.map fun d => V.ref (He.ga K d)) (ds.map fun d => Value.ref (He.ga K d))
  | [] => .nil
  | d :: ds => .cons (.own _) (cls_paired K ds)
/-- isinstance(e, (C, ..)) -/
theorem de_isET (i : Nat) {es : List Expr} {ds : List Str} {kk : Nat} (T : ExT X.K X.mg ns sub) (hc : c ∈ ns) (hcl : ClsNames (X.suite a ((a, oe) :: pn)) es ds) (hd : ∀ d ∈ ds, d ∈ ns) (hlen : ds.length ≤ 1000) (hz : Zc (.ref (He.ga X.K c)) none oe) (hf : ∃ vs, oe.data = .fields vs) (hm : X.mg "isinstance" = none) (hg : Gl X "isinstance" := by rfl)
    (hN : X.N[i]? = some n := by rfl) (hv : Vis X.env.scope n := by first | exact Or.inl rfl | exact Or.inr (Or.inl rfl) | exact Or.inr (Or.inr rfl)) (hnd : (n == ("__debug__" : Str)) = false := by decide) (hcd : (n == ("__classdict__" : Str)) = false := by decide)
    (he : starEach [.Name n p2, .Tuple es kk p3] (X.suite a ((a, oe) :: pn)).env = (false, eval (.Name n p2) (X.suite a ((a, oe) :: pn)).env) :: starEach [.Tuple es kk p3] (X.suite a ((a, oe) :: pn)).env := by rfl)
    (he2 : starEach [.Tuple es kk p3] (X.suite a ((a, oe) :: pn)).env = (false, eval (.Tuple es kk p3) (X.suite a ((a, oe) :: pn)).env) :: starEach [] (X.suite a ((a, oe) :: pn)).env := by rfl)
    (hpl : (backTo pos (starEach [.Tuple es kk p3] (X.suite a ((a, oe) :: pn)).env)).any (·.1) = false := by rfl) :
    DE (X.suite a ((a, oe) :: pn)) W0 (.Call (.Name "isinstance" p1) [.Name n p2, .Tuple es kk p3] [] pos) (eIsE i a (ds.any (sub c))) := by
  have T' : ExT (X.suite a ((a, oe) :: pn)).K (X.suite a ((a, oe) :: pn)).mg ns sub := T
  refine pe_imp (pe_callB (call_isET (T.c c hc) hz hf) hg hm PyProof.Rows.boot_isinstance (pa_cons (pe_var hN hv hnd hcd) (pa_cons (pe_tup (pa_cls T' hcl hd)) pa_nil he2) he) (by decide) (by decide) he hpl) fun σ H Q h => ?_
  obtain ⟨m, S, ρ, at_, fin⟩ := h
  obtain ⟨e1, f⟩ := eIsE_at at_ fin
  refine ⟨_, e1, tRefs_ok ⟨?_, fun tp htp => ?_⟩⟩
  · rw [List.length_map]
    exact Nat.le_trans hlen (by decide)
  · refine ⟨tp, _, _, ds.any (sub c), rfl, upd_same, cls_paired X.K ds, kitAny_of T hc hd, ?_⟩
    exact f m _ _ (ext_new htp fun _ _ => rfl) (Nat.le_refl _) (at_.rel.newT htp) ⟨rfl, rfl⟩
end
/-! ### the law's end -/
theorem law_sp {K : PySem.W.Frag} {mg : Str → Option Value} {F : DF} {n : Nat} (hF : ∀ ns : List Int, ns.length ≤ n → ∃ S, F [.rol (ns.map .int)] [] = .ok (.bl true) S) (H : Hp) (a : Addr) (ns : List Int) (hl : ns.length ≤ n) (hO : Only H) (hS : SqL K H a (ns.map V.int)) :
    spF K mg 1 F [.ref a] H (fun v _ => v = .bl true) fun _ _ _ => False := by
  have hf : SqF K H a (ns.map V.int) := by
    rcases hS with (h | ⟨o, h⟩) | h
    · rcases hO a with z | ⟨o, xs, z⟩
      · rw [h] at z; cases z
      · rw [h] at z; cases z
    · exact .inl ⟨o, h⟩
    · exact .inr h
  have hb : ∀ (n : Nat) (ns : List Int), bnds n (ns.map PV.int) = true := fun n ns => by
    induction ns with
    | nil => rfl
    | cons x xs ih => exact Bool.and_eq_true_iff.mpr ⟨rfl, ih⟩
  have hr : ∀ (ns : List Int), Rps K (fun _ => 0) H (ns.map PV.int) (ns.map V.int) := fun ns => by
    induction ns with
    | nil => exact rfl
    | cons x xs ih => exact ⟨.int x, xs.map V.int, rfl, rfl, ih⟩
  obtain ⟨S, e⟩ := hF ns hl
  refine ⟨fun _ => 0, [], [.rol (ns.map .int)], ⟨fun i j hi _ _ => absurd hi (Nat.not_lt_zero _), fun i o e => by simp at e, fun i o e => by simp at e⟩, ⟨Bool.and_eq_true_iff.mpr ⟨hb _ _, rfl⟩, .ref a, [], rfl, ⟨a, _, rfl, hf, hr ns⟩, rfl⟩, rfl, ?_⟩
  rw [e]
  exact fun m' H' v _ _ _ x => x.2
theorem cx_end (P : Program) (w : World) (H : Hp) (s : Shared) (e : Value) (s' : Shared) (h : L2.CX P w [] H s (fun _ _ _ => False) e s') : False := by
  obtain ⟨_, _, _, _, _, _, _, _, _, _, _, _, z⟩ := h
  exact z
end TL

set_option Elab.async false
set_option linter.all false
set_option maxRecDepth 100000
set_option maxHeartbeats 1000000
/-! TL11: the head's facts, one more Bool of one's own; where the units stand. -/
namespace TL
open PySem PySem.Spec PyProof.Rows L2
theorem hu1 {k : Nat} {A : Around} (r : Room k A) : A.units + 1 < cLine := by have := r.un; omega
theorem hu64 {k : Nat} {A : Around} (r : Room k A) : A.units + 64 < cLine := by have := r.un; omega
theorem hu65 {k : Nat} {A : Around} (r : Room k A) : A.units + 65 < cLine := by have := r.un; omega
def excCB (K : PySem.W.Frag) (n : Str) : Bool :=
  decide (PySem.W.findIn K (.ref (He.ga K n)) "__getattribute__" = some (some (.builtin "BaseException.__getattribute__"))) && (decide (PySem.W.findIn K (.ref (He.ga K n)) "__getattr__" = some none) &&
  (decide (PySem.W.subIn K (.ref (He.ga K n)) (.type "BaseException") = some true) && (PySem.W.hasDictIn K (He.ga K n) && (decide (PySem.W.findIn K (.ref (He.ga K n)) "__class__" = some (some (.builtin "object.__class__"))) &&
  (decide (PySem.W.specialIn K (.builtin "object.__class__") "__get__" = some (some (.builtin "getset_descriptor.__get__"))) && (decide (PySem.W.takesIn K (.builtin "object.__class__") = some true) && decide (PySem.W.mroIn K (He.ga K n) (.type "object") = some true)))))))
theorem excCB_ok {K : PySem.W.Frag} {n : Str} (h : excCB K n = true) : ExcC K (He.ga K n) := by
  unfold excCB at h
  simp only [Bool.and_eq_true, decide_eq_true_eq] at h
  obtain ⟨h1, h2, h3, h4, h5, h6, h7, h8⟩ := h
  exact ⟨h1, h2, h3, h4, h5, h6, h7, h8⟩
def exB (ns : List Str) (sub : Str → Str → Bool) (K : PySem.W.Frag) : Bool := ns.all fun n => decide (PySem.W.nsIn K mainGlobals n = some (some (.ref (He.ga K n)))) && (excCB K n && (decide (PySem.W.kitOne K (.ref (He.ga K n)) (.type "ValueError") = some true) &&
  ns.all fun d => decide (PySem.W.exmOne K (.ref (He.ga K n)) (.ref (He.ga K d)) = some (sub n d)) && decide (PySem.W.kitOne K (.ref (He.ga K n)) (.ref (He.ga K d)) = some (sub n d))))
theorem exB_ok {K : PySem.W.Frag} {h : Heap} {mg : Str → Option Value} (X : K.In h) (G : h.Ns mainGlobals mg) {ns : List Str} {sub : Str → Str → Bool} (e : exB ns sub K = true) : ExT K mg ns sub := by
  unfold exB at e
  rw [List.all_eq_true] at e
  have e1 : ∀ n ∈ ns, PySem.W.nsIn K mainGlobals n = some (some (.ref (He.ga K n))) ∧ excCB K n = true ∧ PySem.W.kitOne K (.ref (He.ga K n)) (.type "ValueError") = some true ∧
      ∀ d ∈ ns, PySem.W.exmOne K (.ref (He.ga K n)) (.ref (He.ga K d)) = some (sub n d) ∧ PySem.W.kitOne K (.ref (He.ga K n)) (.ref (He.ga K d)) = some (sub n d) := fun n hn => by
    have q := e n hn
    simp only [Bool.and_eq_true, decide_eq_true_eq, List.all_eq_true] at q
    exact q
  exact ⟨fun n hn => PySem.W.mg_of X G (e1 n hn).1, fun n hn => excCB_ok (e1 n hn).2.1, fun n hn d hd => ((e1 n hn).2.2.2 d hd).1, fun n hn d hd => ((e1 n hn).2.2.2 d hd).2, fun n hn => (e1 n hn).2.2.1⟩
/-- a class that is raised -/
theorem exc_raise {X : Cx} {n : Str} (c : (He.Fa.exc n).ok X.K = true) : PySem.W.excIn X.K (He.ga X.K n) He.veBase "ValueError.__new__" = true ∧ PySem.W.keepIn X.K (.ref (He.ga X.K n)) = true ∧ Raises X (.ref (He.ga X.K n)) := by
  obtain ⟨h1, h2, h3, h4⟩ := He.exc_ok c
  exact ⟨h1, h2, raises_own h3 h4⟩
structure RaiseF (K : PySem.W.Frag) (mg : Str → Option Value) (n : Str) : Prop where
  g : mg n = some (.ref (He.ga K n))
  q : (He.Fa.exc n).ok K = true
theorem ds_raiseF {X : Cx} {W : WX} {x z : Str} {j : Nat} {p p2 ps pos : Pos} (R : RaiseF X.K X.mg x) (hc : X.calm = true) (tk : Takes X W) (hg : Gl X x := by rfl) (hdb : (x == ("__debug__" : Str)) = false := by decide) :
    DS X W (.Raise (some (.Call (.Name x p) [.Constant (.str z) j p2] [] ps)) none pos) (sRaise x) := by
  obtain ⟨h1, h2, h3⟩ := exc_raise (X := X) R.q
  exact ds_raise hc tk PySem.F.excBase_ValueError h1 R.g h2 h3 hg hdb
/-! ### the Hook -/
abbrev AlT' : Type := He.AlD × Bool
def obsT' (n : Nat) (fa : List He.Fa) (fn : List He.DefD) (ex : PySem.W.Frag → Bool) (g : Addr → Option Obj) : AlT' := (He.obsDG n fa fn g, ex (He.frG g (He.asD g n)))
def hookT' (n : Nat) (fa : List He.Fa) (fn : List He.DefD) (ex : PySem.W.Frag → Bool) : PySem.W.Hook where
  α := AlT'
  obs := fun s => obsT' n fa fn ex s.heap.get?
  val := fun _ => (He.valD fn, true)
  says := fun _ h => ∃ K : PySem.W.Frag, K.In h ∧ He.SaysD fa fn K ∧ ex K = true
  of := fun _ _ e => ⟨_, He.frG_in, congrArg Prod.fst e, congrArg Prod.snd e⟩
  keeps := fun _ _ _ ⟨K, hK, c⟩ k => ⟨K, PySem.W.Frag.In.keeps hK k, c⟩
theorem obsT'_eq {n : Nat} {fa : List He.Fa} {fn : List He.DefD} {ex : PySem.W.Frag → Bool} {g : Addr → Option Obj} {s : Shared} (h : ∀ a, g a = s.heap.get? a) : obsT' n fa fn ex g = (hookT' n fa fn ex).obs s := by
  have e : g = s.heap.get? := funext h
  rw [e] <;> rfl
/-! ### a law's end -/
theorem walk_ofX {l : PySem.W.OpenLaw} {n k : Nat} {q : Program} {loose : List Str} {XP : (Str → Option Value) → Heap → Prop} {YP : World → Heap → Prop} {d : DefRec} {CX : World → CXT} {x : Str}
    (hn : l.most = some n) (hn2 : n ≤ sizeLine) (hdf : d.params.defaults = []) (hr : Room k callerA)
    (F : ∀ (w : World) (mg : Str → Option Value) (fa : Addr) (h : Heap), YP w h → h.Ns mainGlobals mg → mg d.name = some (.ref fa) →
      ∃ (K : PySem.W.Frag) (fd : FuncData) (sp : Sp), K.In h ∧ (∀ (s : Shared) (u : Value), BindsTo s fd ⟨[u], []⟩ [(x, u)]) ∧
        (∀ (H : Hp) (a : Addr) (ns : List Int), ns.length ≤ n → Only H → SqL K H a (ns.map V.int) → sp [.ref a] H (fun v _ => v = .bl true) fun _ _ _ => False) ∧
        ∀ base : Heap, K.In base → base.Ns mainGlobals mg → FnOk l.prog w K mg base (CX w) k fa fd [x] sp)
    (hCX : ∀ (w : World) (H : Hp) (s : Shared) (e : Value) (s' : Shared), CX w [] H s (fun _ _ _ => False) e s' → False) :
    PySem.W.WalkO q loose XP YP l.row.toRowW d [] (fun f vs => PySem.call f vs) := by
  refine Att.attach_call hn hdf fun w s₀ s₁ mg mb fa o pm cd doc a vs ns G Y ho hd hcd hmg hobj hints hlen hg => ?_
  obtain ⟨K, fd, sp, KX, hb, hsp, hF⟩ := F w mg fa _ Y G.T.g hmg
  exact law_call KX G.T.g G.T.b G.T.builtins G.T.nolimit hg hobj hints (Nat.le_trans hlen hn2) hr hF hb (fun H hO hS => hsp H a ns hlen hO hS) fun H e s' => hCX w H s₁ e s'
theorem glo_ga {K : PySem.W.Frag} {h : Heap} {mg : Str → Option Value} {x : Str} {fa : Addr} (X : K.In h) (G : h.Ns mainGlobals mg) (c : (He.Fa.glo x).ok K = true) (e : mg x = some (.ref fa)) : fa = He.ga K x := by
  have e2 := e.symm.trans (He.glo_ok X G c)
  cases e2
  rfl
end TL

set_option Elab.async false
set_option linter.all false
set_option maxRecDepth 100000
/-! TS: rules for reckoning on the store. -/
namespace TL
open PySem PySem.Spec PyProof.Rows L2
@[simp] theorem bind_ap {α β : Type} (x : α) (S : Store) (k : α → Store → Res β) : (Res.ok x S).bind k = k x S := rfl
@[simp] theorem bind_apx {α β : Type} (c : Str) (p : Option (Str × PV)) (S : Store) (k : α → Store → Res β) : (Res.exc c p S : Res α).bind k = .exc c p S := rfl
@[simp] theorem sb_ap {α : Type} (x : α) (S : Store) (ρ : Sl) (k : α → Store → SR) : sb (.ok x S) ρ k = k x S := rfl
@[simp] theorem sb_apx {α : Type} (c : Str) (p : Option (Str × PV)) (S : Store) (ρ : Sl) (k : α → Store → SR) : sb (.exc c p S : Res α) ρ k = .exc c p ρ S := rfl
@[simp] theorem eK_ap (x : PV) (ρ : Sl) (S : Store) : eK x ρ S = .ok x S := rfl
@[simp] theorem eVar_ap (i : Nat) (ρ : Sl) (S : Store) : eVar i ρ S = match ρ[i]? with
  | some (some x) => .ok x S
  | _ => .stuck := rfl
@[simp] theorem aNil_ap (ρ : Sl) (S : Store) : aNil ρ S = .ok [] S := rfl
@[simp] theorem aCons_ap (c : CE PV) (cs : CE (List PV)) (ρ : Sl) (S : Store) : aCons c cs ρ S = (c ρ S).bind fun x S1 => (cs ρ S1).bind fun xs S2 => .ok (x :: xs) S2 := rfl
@[simp] theorem eBin_ap (f : F2) (a b : CE PV) (ρ : Sl) (S : Store) : eBin f a b ρ S = (a ρ S).bind fun x S1 => (b ρ S1).bind fun y S2 => f x y S2 := rfl
@[simp] theorem eChain_ap (f g : F2) (ca cb cc : CE PV) (ρ : Sl) (S : Store) : eChain f g ca cb cc ρ S = (ca ρ S).bind fun x S1 => (cb ρ S1).bind fun y S2 => (f x y S2).bind fun z S3 => match z with
  | .bl true => (cc ρ S3).bind fun u S4 => g y u S4
  | .bl false => .ok (.bl false) S3
  | _ => .stuck := rfl
@[simp] theorem eB_ap (f : FB) (c : CE (List PV)) (ρ : Sl) (S : Store) : eB f c ρ S = (c ρ S).bind fun xs S1 => f xs S1 := rfl
@[simp] theorem f2I_ap (g : Int → Int → PV) (i j : Int) (S : Store) : f2I g (.int i) (.int j) S = .ok (g i j) S := rfl
@[simp] theorem f2C_ap (c : Int → Int → Bool) (g : Int → Int → Int) (i j : Int) (S : Store) : f2C c g (.int i) (.int j) S = if c i j = true then .ok (.int (g i j)) S else .stuck := rfl
@[simp] theorem addV_int (i j : Int) (S : Store) : addV (.int i) (.int j) S = .ok (.int (i + j)) S := rfl
@[simp] theorem mulV_int (i j : Int) (S : Store) : mulV (.int i) (.int j) S = if mulOk i j = true then .ok (.int (i * j)) S else .stuck := rfl
@[simp] theorem eqG_int (g : Bool → Bool) (i j : Int) (S : Store) : eqG g (.int i) (.int j) S = .ok (.bl (g (decide (i = j)))) S := rfl
@[simp] theorem eqG_str (g : Bool → Bool) (i j : Str) (S : Store) : eqG g (.str i) (.str j) S = .ok (.bl (g (decide (i = j)))) S := rfl
@[simp] theorem isG_ap (g : Bool → Bool) (x : PV) (S : Store) : isG g x .non S = .ok (.bl (g (isNon x))) S := rfl
@[simp] theorem tBl_ap (c : CE PV) (ρ : Sl) (S : Store) : tBl c ρ S = (c ρ S).bind fun x S1 => match x with
  | .bl b => .ok b S1
  | _ => .stuck := rfl
@[simp] theorem tTru_ap (c : CE PV) (ρ : Sl) (S : Store) : tTru c ρ S = (c ρ S).bind fun x S1 => match truV x S1 with
  | some b => .ok b S1
  | none => .stuck := rfl
@[simp] theorem truV_bl (b : Bool) (S : Store) : truV (.bl b) S = some b := rfl
@[simp] theorem truV_int (i : Int) (S : Store) : truV (.int i) S = some (i != 0) := rfl
@[simp] theorem cAnd_ap (a b : CE Bool) (ρ : Sl) (S : Store) : cAnd a b ρ S = (a ρ S).bind fun k S1 => if k = true then b ρ S1 else .ok false S1 := rfl
@[simp] theorem cOr_ap (a b : CE Bool) (ρ : Sl) (S : Store) : cOr a b ρ S = (a ρ S).bind fun k S1 => if k = true then .ok true S1 else b ρ S1 := rfl
@[simp] theorem cNot_ap (a : CE Bool) (ρ : Sl) (S : Store) : cNot a ρ S = (a ρ S).bind fun k S1 => .ok (!k) S1 := rfl
@[simp] theorem eAnd_ap (a b : CE PV) (ρ : Sl) (S : Store) : eAnd a b ρ S = (a ρ S).bind fun x S1 => match x with
  | .bl k => if k = true then b ρ S1 else .ok (.bl false) S1
  | _ => .stuck := rfl
@[simp] theorem eOr_ap (a b : CE PV) (ρ : Sl) (S : Store) : eOr a b ρ S = (a ρ S).bind fun x S1 => match x with
  | .bl k => if k = true then .ok (.bl true) S1 else b ρ S1
  | _ => .stuck := rfl
@[simp] theorem eNot_ap (a : CE PV) (ρ : Sl) (S : Store) : eNot a ρ S = (a ρ S).bind fun x S1 => match x with
  | .bl k => .ok (.bl (!k)) S1
  | _ => .stuck := rfl
@[simp] theorem eNeg_ap (a : CE PV) (ρ : Sl) (S : Store) : eNeg a ρ S = (a ρ S).bind fun x S1 => match x with
  | .int i => .ok (.int (-i)) S1
  | _ => .stuck := rfl
@[simp] theorem eIf_ap (t : CE Bool) (a b : CE PV) (ρ : Sl) (S : Store) : eIf t a b ρ S = (t ρ S).bind fun k S1 => if k = true then a ρ S1 else b ρ S1 := rfl
theorem line2 {n : Nat} (h : n ≤ 1000000) : n ≤ sizeLine := Nat.le_trans h (by decide)
@[simp] theorem eTup_ap (cs : CE (List PV)) (ρ : Sl) (S : Store) : eTup cs ρ S = (cs ρ S).bind fun xs S1 => if xs.length ≤ sizeLine then .ok (.tup xs) S1 else .stuck := rfl
@[simp] theorem eLst_ap (cs : CE (List PV)) (ρ : Sl) (S : Store) : eLst cs ρ S = (cs ρ S).bind fun xs S1 => if xs.length ≤ sizeLine then .ok (.obj S1.length) (S1 ++ [.lst xs]) else .stuck := rfl
@[simp] theorem eDic_ap (ρ : Sl) (S : Store) : eDic ρ S = .ok (.obj S.length) (S ++ [.dic false []]) := rfl
@[simp] theorem eCall_ap (n : Nat) (f : DF) (cs : CE (List PV)) (ρ : Sl) (S : Store) : eCall n f cs ρ S = (cs ρ S).bind fun xs S1 => if xs.length = n then gc S1 (f xs S1) else .stuck := rfl
@[simp] theorem eCall0_ap (f : DF) (ρ : Sl) (S : Store) : eCall0 f ρ S = match f [] S with
  | .ok x S' => gc S (.ok x S')
  | _ => .stuck := rfl
@[simp] theorem eGc_ap (c : CE PV) (ρ : Sl) (S : Store) : eGc c ρ S = gc S (c ρ S) := rfl
@[simp] theorem oNone_ap (ρ : Sl) (S : Store) : oNone ρ S = .ok none S := rfl
@[simp] theorem oSome_ap (c : CE PV) (ρ : Sl) (S : Store) : oSome c ρ S = (c ρ S).bind fun x S1 => match x with
  | .int i => .ok (some i) S1
  | _ => .stuck := rfl
@[simp] theorem eSlice_ap (c : CE PV) (l h : CE (Option Int)) (ρ : Sl) (S : Store) : eSlice c l h ρ S = (c ρ S).bind fun x S1 => (l ρ S1).bind fun lo S2 => (h ρ S2).bind fun hi S3 => sliceV x lo hi S3 := rfl
/-! ### statements -/
@[simp] theorem sNext_ap (ρ : Sl) (S : Store) : sNext ρ S = .next ρ S := rfl
@[simp] theorem sSeq_ap (a b : CS) (ρ : Sl) (S : Store) : sSeq a b ρ S = match a ρ S with
  | .next ρ' S' => b ρ' S'
  | r => r := rfl
@[simp] theorem sSet_ap (i : Nat) (c : CE PV) (ρ : Sl) (S : Store) : sSet i c ρ S = sb (c ρ S) ρ fun x S1 => .next (ρ.set i (some x)) S1 := rfl
@[simp] theorem sDrop_ap (c : CE PV) (ρ : Sl) (S : Store) : sDrop c ρ S = sb (c ρ S) ρ fun _ S1 => .next ρ S1 := rfl
@[simp] theorem sRet_ap (c : CE PV) (ρ : Sl) (S : Store) : sRet c ρ S = sb (c ρ S) ρ fun x S1 => .ret x S1 := rfl
@[simp] theorem sRetN_ap (ρ : Sl) (S : Store) : sRetN ρ S = .ret .non S := rfl
@[simp] theorem sBrk_ap (ρ : Sl) (S : Store) : sBrk ρ S = .brk ρ S := rfl
@[simp] theorem sCont_ap (ρ : Sl) (S : Store) : sCont ρ S = .cont ρ S := rfl
@[simp] theorem sIf_ap (t : CE Bool) (a b : CS) (ρ : Sl) (S : Store) : sIf t a b ρ S = sb (t ρ S) ρ fun k S1 => if k = true then a ρ S1 else b ρ S1 := rfl
@[simp] theorem sRaise_ap (c : Str) (ρ : Sl) (S : Store) : sRaise c ρ S = .exc c none ρ S := rfl
@[simp] theorem sPar_ap (i j : Nat) (ca cb : CE PV) (ρ : Sl) (S : Store) : sPar i j ca cb ρ S = sb (ca ρ S) ρ fun x S1 => sb (cb ρ S1) ρ fun y S2 => .next ((ρ.set i (some x)).set j (some y)) S2 := rfl
@[simp] theorem sSetT_ap (t : TT') (c : CE PV) (ρ : Sl) (S : Store) : sSetT t c ρ S = sb (c ρ S) ρ fun x S1 => match setT t x ρ with
  | some ρ' => .next ρ' S1
  | none => .stuck := rfl
@[simp] theorem sAug_ap (i : Nat) (f : F2) (c : CE PV) (ρ : Sl) (S : Store) : sAug i f c ρ S = match ρ[i]? with
  | some (some x) => sb (c ρ S) ρ fun y S1 => sb (f x y S1) ρ fun z S2 => .next (ρ.set i (some z)) S2
  | _ => .stuck := rfl
@[simp] theorem sSetIx_ap (co ci c : CE PV) (ρ : Sl) (S : Store) : sSetIx co ci c ρ S = sb (c ρ S) ρ fun x S1 => sb (co ρ S1) ρ fun o S2 => sb (ci ρ S2) ρ fun k S3 => match setV o k x S3 with
  | some S4 => .next ρ S4
  | none => .stuck := rfl
@[simp] theorem sFor_ap (t : TT') (i : CE (List PV × Chk)) (b : CS) (ρ : Sl) (S : Store) : sFor t i b ρ S = sb (i ρ S) ρ fun p S1 => forN t b p.2 p.1 ρ S1 := rfl
@[simp] theorem runD_ap (n : Nat) (b : CS) (xs : List PV) (S : Store) : runD n b xs S = outS (b (startP n xs) S) := rfl
@[simp] theorem outS_ret (x : PV) (S : Store) : outS (.ret x S) = .ok x S := rfl
@[simp] theorem outS_next (ρ : Sl) (S : Store) : outS (.next ρ S) = .ok .non S := rfl
@[simp] theorem outS_exc (c : Str) (p : Option (Str × PV)) (ρ : Sl) (S : Store) : outS (.exc c p ρ S) = .exc c p S := rfl
@[simp] theorem startP_nil (xs : List PV) (n : Nat) : startP n xs = xs.map some ++ List.replicate (n - xs.length) none := rfl
@[simp] theorem eIsE_ap (i : Nat) (a : Addr) (r : Bool) (ρ : Sl) (S : Store) : eIsE i a r ρ S = match ρ[i]? with
  | some (some (.fn b)) => if b = a then .ok (.bl r) S else .stuck
  | _ => .stuck := rfl
@[simp] theorem suiteS_next (i : Nat) (ρ : Sl) (S : Store) : suiteS i (.next ρ S) = .next (ρ.set i none) S := rfl
@[simp] theorem suiteS_ret (i : Nat) (x : PV) (S : Store) : suiteS i (.ret x S) = .ret x S := rfl
@[simp] theorem same0_const (r : SR) : (same0 fun _ => r) = r := same0_eq fun _ => rfl
/-! ### gc -/
@[simp] theorem gc_self (S : Store) (x : PV) : gc S (.ok x S) = .ok x S := by
  unfold gc
  simp only
  by_cases h : bnd S.length x = true ∧ S <+: S
  · rw [if_pos h]
  · rw [if_neg h]
    cases x with
    | obj i =>
      simp only
      by_cases q : S.length ≤ i ∧ S <+: S
      · rw [if_pos q, List.getElem?_eq_none_iff.mpr q.1]
      · rw [if_neg q]
    | _ => rfl
@[simp] theorem gc_exc (S : Store) (c : Str) : gc S (.exc c none S) = .exc c none S := by
  unfold gc
  simp
theorem gc_ok {S S' : Store} {x : PV} (hb : bnd S.length x = true) (hp : S <+: S') : gc S (.ok x S') = .ok x S := by
  unfold gc
  simp only
  rw [if_pos ⟨hb, hp⟩]
theorem gc_app {S J : Store} {x : PV} (hb : bnd S.length x = true) : gc S (.ok x (S ++ J)) = .ok x S := gc_ok hb (List.prefix_append S J)
theorem gc_xapp {S J : Store} {c : Str} : gc S (.exc c none (S ++ J)) = .exc c none S := by
  unfold gc
  simp only
  rw [if_pos (List.prefix_append S J)]
theorem gc_new {S J : Store} {i : Nat} {o : PO} (hi : S.length ≤ i) (e : (S ++ J)[i]? = some o) (ho : bndO S.length o = true) : gc S (.ok (.obj i) (S ++ J)) = .ok (.obj S.length) (S ++ [o]) := by
  unfold gc
  simp only
  have h1 : ¬ (bnd S.length (.obj i) = true ∧ S <+: S ++ J) := fun z => absurd (of_decide_eq_true z.1) (by omega)
  rw [if_neg h1, if_pos ⟨hi, List.prefix_append S J⟩, e]
  simp only
  rw [if_pos ho]
/-! ### numbers -/
theorem log2_small {n k : Nat} (h : n < 2 ^ k) (hk : 0 < k) : n.log2 < k := PySem.Flt.log2_lt_of hk h
theorem mulOk_of {i j : Int} {a b : Nat} (ha : i.natAbs < 2 ^ a) (hb : j.natAbs < 2 ^ b) (h0 : 0 < a) (h1 : 0 < b) (h : a + b ≤ 1000000) : mulOk i j = true := by
  have x := log2_small ha h0
  have y := log2_small hb h1
  unfold mulOk
  rw [Bool.or_eq_true]
  exact .inr (decide_eq_true (by omega))
theorem mulOk_r {i j : Int} (h : j.natAbs < 2 ^ 64) : mulOk i j = true := by
  unfold mulOk
  rw [Bool.or_eq_true, Bool.or_eq_true]
  exact .inl (.inr (decide_eq_true h))
theorem mulOk_l {i j : Int} (h : i.natAbs < 2 ^ 64) : mulOk i j = true := by
  unfold mulOk
  rw [Bool.or_eq_true, Bool.or_eq_true]
  exact .inl (.inl (decide_eq_true h))
theorem divOk_of {j : Int} {b : Nat} (h : j ≠ 0) (hb : j.natAbs < 2 ^ b) (h0 : 0 < b) (h1 : b ≤ 9000) : divOk j = true := by
  have y := log2_small hb h0
  unfold divOk
  rw [Bool.and_eq_true]
  exact ⟨decide_eq_true h, decide_eq_true (by omega)⟩
@[simp] theorem mulOk_sl {i j : Int} (h : i.natAbs < 18446744073709551616) : mulOk i j = true := mulOk_l (by omega)
@[simp] theorem mulOk_sr {i j : Int} (h : j.natAbs < 18446744073709551616) : mulOk i j = true := mulOk_r (by omega)
@[simp] theorem divOk_s {j : Int} (h : j ≠ 0) (hb : j.natAbs < 18446744073709551616) : divOk j = true := divOk_of (b := 64) h (by omega) (by decide) (by decide)
@[simp] theorem powOk_s {i j : Int} (h0 : 0 ≤ j) (h1 : j ≤ 1000000) (h : i.natAbs < 18446744073709551616) : powOk i j = true := by
  unfold powOk
  rw [Bool.and_eq_true, Bool.and_eq_true]
  exact ⟨⟨decide_eq_true h0, decide_eq_true h1⟩, decide_eq_true (by omega)⟩
end TL

set_option Elab.async false
set_option linter.all false
set_option maxRecDepth 100000
set_option maxHeartbeats 1000000
/-! TM1: methods of lists and dicts, built-in types as calls, sum, str, int, max, min. -/
namespace TL
open PySem PySem.Spec PyProof.Rows L2
section
variable {K : PySem.W.Frag} {mg : Str → Option Value} {W : WX} {σ : L2.St} {m : Mp} {S : Store} {H : Hp} {Q : VK}
/-- an object of the store is written, a value comes -/
theorem Fin.setO {i : Nat} {x : PV} {v : V} {o : PO} {u : HO} (f : Fin K mg W σ m S H (RV K) Q (.ok x (S.set i o))) (rel : Rel K mg m S H) {q : PO} (hq : S[i]? = some q) (hl : ∀ kvs, q ≠ .dic true kvs) (hb : bndO S.length o = true)
    (ho : ObR K mg m (upd H (m i) u) (m i) o) (rx : RV K S.length m H x v) : Q v (upd H (m i) u) :=
  f m _ v (rel.ext_write hq hl) (by rw [List.length_set]; exact Nat.le_refl _) (rel.write hq hl hb ho) (by rw [List.length_set]; exact stbV (rel.ext_write hq hl) (Nat.le_refl _) rx)
theorem Fin.setL {i : Nat} {x : PV} {v : V} {xs zs : List PV} {us : List V} (f : Fin K mg W σ m S H (RV K) Q (.ok x (S.set i (.lst zs)))) (rel : Rel K mg m S H) (e : S[i]? = some (.lst xs)) (hb : bnds S.length zs = true)
    (hz : Rps K m H zs us) (rx : RV K S.length m H x v) : Q v (upd H (m i) (.lst us)) :=
  f.setO rel e (fun _ z => by cases z) hb ⟨us, upd_same, hz.ext (rel.ext_write e (fun _ z => by cases z)) zs us hb⟩ rx
end
/-! ### o.m(..), o a list -/
abbrev FM := PV → List PV → Store → Res PV
def OpM (K : PySem.W.Frag) (mg : Str → Option Value) (f : FM) (r : V → List V → Hp → VK → Prop) : Prop := ∀ (W : WX) (σ : L2.St) (m : Mp) (S : Store) (H : Hp) (x : PV) (v : V) (xs : List PV) (vs : List V) (Q : VK),
  Rel K mg m S H → RV K S.length m H x v → RL K S.length m H xs vs → Fin K mg W σ m S H (RV K) Q (f x xs S) → r v vs H Q
def isL (x : PV) (S : Store) : Bool := match x with
  | .rol _ => true
  | .obj i => match S[i]? with
    | some (.lst _) => true
    | _ => false
  | _ => false
def eM (f : FM) (co : CE PV) (cs : CE (List PV)) : CE PV := fun ρ S => (co ρ S).bind fun o S1 => if isL o S1 = true then (cs ρ S1).bind fun xs S2 => f o xs S2 else .stuck
theorem isL_ok {K : PySem.W.Frag} {mg : Str → Option Value} {m : Mp} {S : Store} {H : Hp} {x : PV} {v : V} (rel : Rel K mg m S H) (r : RV K S.length m H x v) (h : isL x S = true) : tyV K "list" v H := by
  unfold isL at h
  cases x with
  | rol xs =>
    obtain ⟨_, p, vs, rfl, h1, h2⟩ := r
    exact .inl ⟨rfl, vs, h1.l⟩
  | obj i =>
    have ev : v = .ref (m i) := r.2
    subst ev
    simp only at h
    cases e : S[i]? with
    | none => rw [e] at h; cases h
    | some o =>
      rw [e] at h
      cases o with
      | lst xs =>
        obtain ⟨_, vs, h1, _⟩ := rel.lst e
        exact .inl ⟨rfl, vs, SqL.of h1⟩
      | _ => cases h
  | _ => cases h
section
variable {X : Cx} {W : WX} {o e : Expr} {es : List Expr} {co : CE PV} {cs : CE (List PV)} {f : FM} {r : V → List V → Hp → VK → Prop} {name : Str} {id : String} {apos cpos : Pos}
theorem de_M (slot : Slot "list" name id) (hty : typeOf (.builtin id) = pure (.type "method_descriptor")) (hm : MtR X id r) (oM : OpM X.K X.mg f r) (ho : DE X W o co) (ha : DA X W (e :: es) cs)
    (hbase : attributeBase o name X.env (eval o X.env) = eval o X.env := by rfl)
    (hfew : ((backTo cpos (starEach (e :: es) X.env)).all (fun x => !x.1) && (backToKw cpos (keywordEach [] X.env)).all (fun x => x.1.isSome)
      && decide ((e :: es).length + ([] : List Keyword).length + (if ([] : List Keyword).isEmpty then 0 else 1) < 30)) = true := by rfl)
    (hline : (apos.endLine == cpos.line) = true := by rfl) (hs : starEach (e :: es) X.env = (false, eval e X.env) :: starEach es X.env := by rfl) (hplain : (backTo cpos (starEach es X.env)).any (·.1) = false := by rfl) :
    DE X W (.Call (.Attribute o name apos) (e :: es) [] cpos) (eM f co cs) :=
  pe_imp (pe_bm PySem.F.plainAttrs_list slot hty hm ho ha hbase hfew hline hs hplain) fun σ H Q h => by
    obtain ⟨m, S, ρ, at_, fin⟩ := h
    refine ⟨m, S, ρ, at_, (Fin.bind at_ fin).mono fun v H1 h1 => ?_⟩
    obtain ⟨m1, S1, x, at1, r1, e1, l1, f1⟩ := h1
    dsimp only at f1
    by_cases hL : isL x S1 = true
    · rw [if_pos hL] at f1
      refine ⟨isL_ok at1.rel r1 hL, m1, S1, ρ, at1, (Fin.bind at1 f1).mono fun vs H2 h2 => ?_⟩
      obtain ⟨m2, S2, xs, at2, r2, e2, l2, f2⟩ := h2
      exact oM W σ m2 S2 H2 x v xs vs Q at2.rel (stbV e2 l2 r1) r2 f2
    · rw [if_neg hL] at f1
      exact f1.elim
theorem de_M0 (slot : Slot "list" name id) (hty : typeOf (.builtin id) = pure (.type "method_descriptor")) (hm : MtR X id r) (oM : OpM X.K X.mg f r) (ho : DE X W o co)
    (hbase : attributeBase o name X.env (eval o X.env) = eval o X.env := by rfl) (hline : (apos.endLine == cpos.line) = true := by rfl) : DE X W (.Call (.Attribute o name apos) [] [] cpos) (eM f co aNil) :=
  pe_imp (pe_bm0 PySem.F.plainAttrs_list slot hty hm ho hbase hline) fun σ H Q h => by
    obtain ⟨m, S, ρ, at_, fin⟩ := h
    refine ⟨m, S, ρ, at_, (Fin.bind at_ fin).mono fun v H1 h1 => ?_⟩
    obtain ⟨m1, S1, x, at1, r1, e1, l1, f1⟩ := h1
    dsimp only at f1
    by_cases hL : isL x S1 = true
    · rw [if_pos hL] at f1
      exact ⟨isL_ok at1.rel r1 hL, oM W σ m1 S1 H1 x v [] [] Q at1.rel r1 ⟨rfl, rfl⟩ f1⟩
    · rw [if_neg hL] at f1
      exact f1.elim
end
section
variable {K : PySem.W.Frag} {mg : Str → Option Value}
def appendV : FM := fun o xs S => match o, xs with
  | .obj i, [y] => match S[i]? with
    | some (.lst zs) => if zs.length < sizeLine then .ok .non (S.set i (.lst (zs ++ [y]))) else .stuck
    | _ => .stuck
  | _, _ => .stuck
theorem opM_append : OpM K mg appendV rAppend := by
  intro W σ m S H x v xs vs Q rel rx ra f
  unfold appendV at f
  split at f
  · rename_i i y
    have ev : v = .ref (m i) := rx.2
    obtain ⟨u, rfl, ru⟩ := one_of ra
    split at f
    · rename_i zs e
      obtain ⟨b, us, h1, h2⟩ := rel.lst e
      split at f
      · rename_i hl
        exact ⟨m i, us, u, ev, rfl, h1, by rw [h2.length]; exact hl, f.setL rel e (bnds_append.mpr ⟨b, Bool.and_eq_true_iff.mpr ⟨ru.1, rfl⟩⟩) (h2.append (Rps.one ru.2)) ⟨rfl, rfl⟩⟩
      · exact f.elim
    · exact f.elim
  · exact f.elim
theorem bnds_dropLast {n : Nat} {xs : List PV} (h : bnds n xs = true) : bnds n xs.dropLast = true := bnds_all.mpr fun x hx => bnds_all.mp h x (List.dropLast_subset xs hx)
theorem Rps.dropLast {m : Mp} {H : Hp} : ∀ {xs : List PV} {vs : List V}, Rps K m H xs vs → Rps K m H xs.dropLast vs.dropLast := by
  intro xs vs h
  rw [List.dropLast_eq_take, List.dropLast_eq_take, h.length]
  exact h.take _
def popV : FM := fun o xs S => match o, xs with
  | .obj i, [] => match S[i]? with
    | some (.lst zs) => match zs[zs.length - 1]? with
      | some y => .ok y (S.set i (.lst zs.dropLast))
      | none => .stuck
    | _ => .stuck
  | _, _ => .stuck
theorem opM_pop : OpM K mg popV rPop := by
  intro W σ m S H x v xs vs Q rel rx ra f
  unfold popV at f
  split at f
  · rename_i i
    have ev : v = .ref (m i) := rx.2
    have er : vs = [] := ra.2
    subst er
    split at f
    · rename_i zs e
      obtain ⟨b, us, h1, h2⟩ := rel.lst e
      split at f
      · rename_i y ey
        obtain ⟨u, eu, ru⟩ := h2.get ey
        exact ⟨m i, us, u, ev, rfl, h1, by rw [h2.length]; exact eu, f.setL rel e (bnds_dropLast b) h2.dropLast ⟨bnds_get b ey, ru⟩⟩
      · exact f.elim
    · exact f.elim
  · exact f.elim
theorem bnds_erase {n : Nat} {xs : List PV} (h : bnds n xs = true) (k : Nat) : bnds n (xs.eraseIdx k) = true := bnds_all.mpr fun x hx => bnds_all.mp h x (List.eraseIdx_subset hx)
theorem Rps.erase {m : Mp} {H : Hp} : ∀ {xs : List PV} {vs : List V} (k : Nat), Rps K m H xs vs → Rps K m H (xs.eraseIdx k) (vs.eraseIdx k)
  | [], vs, k, h => by
    have e : vs = [] := h
    subst e
    exact rfl
  | x :: xs, vs, 0, h => by
    obtain ⟨v, r, rfl, h1, h2⟩ := h
    exact h2
  | x :: xs, vs, k + 1, h => by
    obtain ⟨v, r, rfl, h1, h2⟩ := h
    exact ⟨v, r.eraseIdx k, rfl, h1, Rps.erase k h2⟩
def popAtV : FM := fun o xs S => match o, xs with
  | .obj i, [.int j] => match S[i]? with
    | some (.lst zs) => if -(2 ^ 63) ≤ j ∧ j < 2 ^ 63 then match seqIndex? j zs.length with
      | some k => match zs[k]? with
        | some y => .ok y (S.set i (.lst (zs.eraseIdx k)))
        | none => .stuck
      | none => .stuck
      else .stuck
    | _ => .stuck
  | _, _ => .stuck
theorem opM_popAt : OpM K mg popAtV rPopAt := by
  intro W σ m S H x v xs vs Q rel rx ra f
  unfold popAtV at f
  split at f
  · rename_i i j
    have ev : v = .ref (m i) := rx.2
    obtain ⟨u, rfl, ru⟩ := one_of ra
    have eu : u = .int j := ru.2
    subst eu
    split at f
    · rename_i zs e
      obtain ⟨b, us, h1, h2⟩ := rel.lst e
      split at f
      · rename_i hj
        split at f
        · rename_i k ek
          split at f
          · rename_i y ey
            obtain ⟨u, eu, ru⟩ := h2.get ey
            exact ⟨m i, us, j, k, u, ev, rfl, h1, hj.1, hj.2, by rw [h2.length]; exact ek, eu, f.setL rel e (bnds_erase b k) (h2.erase k) ⟨bnds_get b ey, ru⟩⟩
          · exact f.elim
        · exact f.elim
      · exact f.elim
    · exact f.elim
  · exact f.elim
def clearV : FM := fun o xs S => match o, xs with
  | .obj i, [] => match S[i]? with
    | some (.lst zs) => .ok .non (S.set i (.lst []))
    | _ => .stuck
  | _, _ => .stuck
theorem opM_clear : OpM K mg clearV rClear := by
  intro W σ m S H x v xs vs Q rel rx ra f
  unfold clearV at f
  split at f
  · rename_i i
    have ev : v = .ref (m i) := rx.2
    have er : vs = [] := ra.2
    subst er
    split at f
    · rename_i zs e
      obtain ⟨b, us, h1, h2⟩ := rel.lst e
      exact ⟨m i, us, ev, rfl, h1, f.setL rel e rfl rfl ⟨rfl, rfl⟩⟩
    · exact f.elim
  · exact f.elim
def extendV : FM := fun o xs S => match o, xs with
  | .obj i, [.obj j] => match S[i]?, S[j]? with
    | some (.lst zs), some (.lst ys) => if zs.length + ys.length ≤ sizeLine then .ok .non (S.set i (.lst (zs ++ ys))) else .stuck
    | _, _ => .stuck
  | _, _ => .stuck
theorem opM_extend : OpM K mg extendV rExtend := by
  intro W σ m S H x v xs vs Q rel rx ra f
  unfold extendV at f
  split at f
  · rename_i i j
    have ev : v = .ref (m i) := rx.2
    obtain ⟨u, rfl, ru⟩ := one_of ra
    have eu : u = .ref (m j) := ru.2
    subst eu
    split at f
    · rename_i zs ys e1 e2
      obtain ⟨b, us, h1, h2⟩ := rel.lst e1
      obtain ⟨b', ws, h3, h4⟩ := rel.lst e2
      split at f
      · rename_i hl
        exact ⟨m i, m j, us, ws, ev, rfl, h1, h3, by rw [h2.length, h4.length]; exact hl, f.setL rel e1 (bnds_append.mpr ⟨b, b'⟩) (h2.append h4) ⟨rfl, rfl⟩⟩
      · exact f.elim
    · exact f.elim
  · exact f.elim
/-! ### tuple(x), list(x), sum(x), int(x), str(x), max, min -/
def lstOf (x : PV) (S : Store) : Option (List PV) := match x with
  | .rol xs => some xs
  | .obj i => match S[i]? with
    | some (.lst xs) => some xs
    | _ => none
  | _ => none
theorem lst_ok {m : Mp} {S : Store} {H : Hp} {x : PV} {v : V} {xs : List PV} (rel : Rel K mg m S H) (r : RV K S.length m H x v) (h : lstOf x S = some xs) : bnds S.length xs = true ∧ ∃ p vs, v = .ref p ∧ SqL K H p vs ∧ Rps K m H xs vs := by
  unfold lstOf at h
  cases x with
  | rol zs => cases h; obtain ⟨b, p, vs, rfl, h1, h2⟩ := r; exact ⟨b, p, vs, rfl, h1.l, h2⟩
  | obj i =>
    have ev : v = .ref (m i) := r.2
    subst ev
    simp only at h
    cases e : S[i]? with
    | none => rw [e] at h; cases h
    | some o =>
      rw [e] at h
      cases o with
      | lst zs =>
        cases h
        obtain ⟨b, vs, h1, h2⟩ := rel.lst e
        exact ⟨b, _, vs, rfl, SqL.of h1, h2⟩
      | _ => cases h
  | _ => cases h
def tupleV : FB := fun xs S => match xs with
  | [.tup ys] => .ok (.tup ys) S
  | [.kup ys] => .ok (.kup ys) S
  | [x] => match lstOf x S with
    | some ys => .ok (.tup ys) S
    | none => .stuck
  | _ => .stuck
theorem opC_tuple : OpC K mg tupleV (fun xs H Q => ∃ p ys, xs = [.ref p] ∧ ((SqL K H p ys ∧ ∀ l, H l = none → Q (.ref l) (upd H l (.tup ys))) ∨ (SqT K H p ys ∧ Q (.ref p) H))) := by
  intro W σ m S H xs vs Q rel ra f
  unfold tupleV at f
  split at f
  · obtain ⟨v, rfl, b, p, us, rfl, h1, h2⟩ := one_of ra
    exact ⟨p, us, rfl, .inr ⟨SqT.of h1, f.here rel ⟨b, p, us, rfl, h1, h2⟩⟩⟩
  · obtain ⟨v, rfl, b, p, us, rfl, h1, h2⟩ := one_of ra
    exact ⟨p, us, rfl, .inr ⟨h1.t, f.here rel ⟨b, p, us, rfl, h1, h2⟩⟩⟩
  · rename_i x n1 n2
    obtain ⟨v, rfl, rv⟩ := one_of ra
    cases e : lstOf x S with
    | none => rw [e] at f; exact f.elim
    | some ys =>
      rw [e] at f
      obtain ⟨b, p, us, rfl, h1, h2⟩ := lst_ok rel rv e
      exact ⟨p, us, rfl, .inl ⟨h1, fun l hl => f.tup rel b h2 hl⟩⟩
  · exact f.elim
theorem KvK.keys {m : Mp} {H : Hp} : ∀ {kvs : List (PV × PV)} {l : List (Key × V)}, KvK K m H kvs l → Rps K m H (kvs.map (·.1)) (l.map fun kv => kV kv.1)
  | [], l, h => by
    have e : l = [] := h
    subst e
    exact rfl
  | p :: ps, l, h => by
    obtain ⟨q, r, rfl, h1, h2, h3⟩ := h
    refine ⟨_, _, rfl, ?_, KvK.keys h3⟩
    cases e : p.1 with
    | int i =>
      rw [e] at h1
      have e' : q.1 = .inl i := (Option.some.inj h1).symm
      show Rp K m H p.1 (kV q.1)
      rw [e, e']
      exact rfl
    | str z =>
      rw [e] at h1
      have e' : q.1 = .inr z := (Option.some.inj h1).symm
      show Rp K m H p.1 (kV q.1)
      rw [e, e']
      exact rfl
    | _ => rw [e] at h1; cases h1
theorem KvK.keysB {n : Nat} {m : Mp} {H : Hp} : ∀ {kvs : List (PV × PV)} {l : List (Key × V)}, KvK K m H kvs l → bnds n (kvs.map (·.1)) = true
  | [], l, h => rfl
  | p :: ps, l, h => by
    obtain ⟨q, r, rfl, h1, h2, h3⟩ := h
    refine Bool.and_eq_true_iff.mpr ⟨?_, KvK.keysB h3⟩
    show bnd n p.1 = true
    cases e : p.1 with
    | int i => rfl
    | str z => rfl
    | _ => rw [e] at h1; cases h1
theorem keysOf_rps {m : Mp} {H : Hp} : ∀ {xs : List PV} {k : List Key}, keysOf xs = some k → Rps K m H xs (k.map kV) ∧ ∀ n, bnds n xs = true
  | [], k, h => by
    cases h
    exact ⟨rfl, fun _ => rfl⟩
  | x :: xs, k, h => by
    unfold keysOf at h
    cases e1 : keyOf x with
    | none => rw [e1] at h; cases h
    | some q =>
      cases e2 : keysOf xs with
      | none => rw [e1, e2] at h; cases h
      | some qs =>
        rw [e1, e2] at h
        cases h
        obtain ⟨h1, h2⟩ := keysOf_rps (m := m) (H := H) e2
        refine ⟨⟨_, _, rfl, ?_, h1⟩, fun n => Bool.and_eq_true_iff.mpr ⟨?_, h2 n⟩⟩
        · cases x with
          | int i => cases e1; exact rfl
          | str z => cases e1; exact rfl
          | _ => cases e1
        · cases x with
          | int i => rfl
          | str z => rfl
          | _ => cases e1
theorem KvT.keys {m : Mp} {H : Hp} : ∀ {kvs : List (PV × PV)} {l : List (List Key × V)} {bs : List Addr}, KvT K m H kvs l → IsKeys H l bs → Rps K m H (kvs.map (·.1)) (bs.map V.ref) ∧ ∀ n, bnds n (kvs.map (·.1)) = true
  | [], l, bs, h, h' => by
    have e : l = [] := h
    subst e
    cases h'
    exact ⟨rfl, fun _ => rfl⟩
  | p :: ps, l, bs, h, h' => by
    obtain ⟨q, r, rfl, h1, h2, h3⟩ := h
    cases h' with
    | cons hb ht =>
      obtain ⟨i1, i2⟩ := KvT.keys h3 ht
      cases e : p.1 with
      | tup xs =>
        rw [e] at h1
        obtain ⟨r1, r2⟩ := keysOf_rps (K := K) (m := m) (H := H) (show keysOf xs = some q.1 from h1)
        refine ⟨⟨_, _, rfl, ?_, i1⟩, fun n => Bool.and_eq_true_iff.mpr ⟨?_, i2 n⟩⟩
        · show Rp K m H p.1 _
          rw [e]
          exact ⟨_, _, rfl, hb, r1⟩
        · show bnd n p.1 = true
          rw [e]
          exact r2 n
      | _ => rw [e] at h1; cases h1
def listV : FB := fun xs S => match xs with
  | [.tup ys] => .ok (.obj S.length) (S ++ [.lst ys])
  | [.kup ys] => .ok (.obj S.length) (S ++ [.lst ys])
  | [.rol ys] => .ok (.obj S.length) (S ++ [.lst ys])
  | [.obj i] => match S[i]? with
    | some (.lst ys) => .ok (.obj S.length) (S ++ [.lst ys])
    | some (.dic _ kvs) => .ok (.obj S.length) (S ++ [.lst (kvs.map (·.1))])
    | _ => .stuck
  | _ => .stuck
def rListV (K : PySem.W.Frag) : List V → Hp → VK → Prop := fun xs H Q => ((∃ p ys, xs = [.ref p] ∧ (SqL K H p ys ∨ SqT K H p ys) ∧ ∀ l, H l = none → Q (.ref l) (upd H l (.lst ys))) ∨ (∃ (a : Addr) (kvs : List (Key × V)), xs = [.ref a] ∧ Rd H a (.dK kvs) ∧ ∀ p, H p = none → Q (.ref p) (upd H p (.lst (kvs.map fun kv => kV kv.1))))) ∨
  (∃ d kvs, xs = [V.ref d] ∧ Rd H d (.dT kvs) ∧ ∀ p bs, H p = none → IsKeys H kvs bs → Q (.ref p) (upd H p (.lst (bs.map V.ref))))
theorem call_listV {X : Cx} (hc : X.calm = true) : CallR X (.type "list") (rListV X.K) := (call_list_of.or (call_listD hc)).or (call_list_dT hc)
theorem opC_list : OpC K mg listV (rListV K) := by
  intro W σ m S H xs vs Q rel ra f
  unfold listV at f
  split at f
  · obtain ⟨v, rfl, b, p, us, rfl, h1, h2⟩ := one_of ra
    exact .inl (.inl ⟨p, us, rfl, .inr (SqT.of h1), fun l hl => f.lst rel b h2 hl⟩)
  · obtain ⟨v, rfl, b, p, us, rfl, h1, h2⟩ := one_of ra
    exact .inl (.inl ⟨p, us, rfl, .inr h1.t, fun l hl => f.lst rel b h2 hl⟩)
  · obtain ⟨v, rfl, b, p, us, rfl, h1, h2⟩ := one_of ra
    exact .inl (.inl ⟨p, us, rfl, .inl h1.l, fun l hl => f.lst rel b h2 hl⟩)
  · rename_i i
    obtain ⟨v, rfl, b, ev⟩ := one_of ra
    have ev' : v = .ref (m i) := ev
    subst ev'
    split at f
    · rename_i ys e
      obtain ⟨b, us, h1, h2⟩ := rel.lst e
      exact .inl (.inl ⟨_, us, rfl, .inl (SqL.of h1), fun l hl => f.lst rel b h2 hl⟩)
    · rename_i lk kvs e
      cases lk with
      | false =>
        rcases rel.ob i _ e with ⟨l, h1, h2⟩ | ⟨l, h1, h2⟩
        · exact .inl (.inr ⟨_, l, rfl, .inl h1, fun p hp => f.lst rel h2.keysB h2.keys hp⟩)
        · exact .inr ⟨_, l, rfl, .inl h1, fun p bs hp hk => f.lst rel ((h2.keys hk).2 _) (h2.keys hk).1 hp⟩
      | true =>
        rcases rel.ob i _ e with ⟨o, l, h1, h2⟩ | ⟨o, l, h1, h2⟩
        · exact .inl (.inr ⟨_, l, rfl, .inr ⟨o, h1⟩, fun p hp => f.lst rel h2.keysB h2.keys hp⟩)
        · exact .inr ⟨_, l, rfl, .inr ⟨o, h1⟩, fun p bs hp hk => f.lst rel ((h2.keys hk).2 _) (h2.keys hk).1 hp⟩
    · exact f.elim
  · exact f.elim
/-- all ints, all truths -/
def intsOf : List PV → Option (List Int)
  | [] => some []
  | .int i :: xs => (intsOf xs).map (i :: ·)
  | _ :: _ => none
def blsOf : List PV → Option (List Bool)
  | [] => some []
  | .bl i :: xs => (blsOf xs).map (i :: ·)
  | _ :: _ => none
theorem intsOf_eq : ∀ {xs : List PV} {ns : List Int}, intsOf xs = some ns → xs = ns.map .int
  | [], ns, h => by cases h; rfl
  | x :: xs, ns, h => by
    cases x with
    | int i =>
      have h' : (intsOf xs).map (i :: ·) = some ns := h
      cases e : intsOf xs with
      | none => rw [e] at h'; cases h'
      | some ms =>
        rw [e] at h'
        cases h'
        rw [intsOf_eq e]
        rfl
    | _ => cases h
theorem blsOf_eq : ∀ {xs : List PV} {ns : List Bool}, blsOf xs = some ns → xs = ns.map .bl
  | [], ns, h => by cases h; rfl
  | x :: xs, ns, h => by
    cases x with
    | bl i =>
      have h' : (blsOf xs).map (i :: ·) = some ns := h
      cases e : blsOf xs with
      | none => rw [e] at h'; cases h'
      | some ms =>
        rw [e] at h'
        cases h'
        rw [blsOf_eq e]
        rfl
    | _ => cases h
theorem ints_rps {m : Mp} {H : Hp} : ∀ {ns : List Int} {vs : List V}, Rps K m H (ns.map .int) vs → vs = ns.map V.int
  | [], vs, h => h
  | n :: ns, vs, h => by
    obtain ⟨v, r, rfl, h1, h2⟩ := h
    have e : v = .int n := h1
    rw [e, ints_rps h2]
    rfl
theorem bls_rps {m : Mp} {H : Hp} : ∀ {ns : List Bool} {vs : List V}, Rps K m H (ns.map .bl) vs → vs = ns.map V.bl
  | [], vs, h => h
  | n :: ns, vs, h => by
    obtain ⟨v, r, rfl, h1, h2⟩ := h
    have e : v = .bl n := h1
    rw [e, bls_rps h2]
    rfl
@[simp] theorem intsOf_map (ns : List Int) : intsOf (ns.map .int) = some ns := by
  induction ns with
  | nil => rfl
  | cons n ns ih => show (intsOf (ns.map .int)).map (n :: ·) = _; rw [ih]; rfl
@[simp] theorem blsOf_map (ns : List Bool) : blsOf (ns.map .bl) = some ns := by
  induction ns with
  | nil => rfl
  | cons n ns ih => show (blsOf (ns.map .bl)).map (n :: ·) = _; rw [ih]; rfl
def sumV : FB := fun xs S => match xs with
  | [x] => match (lstOf x S).bind intsOf with
    | some ns => .ok (.int ns.sum) S
    | none => .stuck
  | _ => .stuck
theorem opC_sum : OpC K mg sumV (rSum K) := by
  intro W σ m S H xs vs Q rel ra f
  unfold sumV at f
  split at f
  · rename_i x
    obtain ⟨v, rfl, rv⟩ := one_of ra
    cases e : lstOf x S with
    | none => rw [e] at f; exact f.elim
    | some ys =>
      obtain ⟨b, p, us, rfl, h1, h2⟩ := lst_ok rel rv e
      rw [e] at f
      cases e2 : intsOf ys with
      | none => simp only [Option.bind_some, e2] at f; exact f.elim
      | some ns =>
        simp only [Option.bind_some, e2] at f
        have e3 := intsOf_eq e2
        subst e3
        have e4 := ints_rps h2
        subst e4
        exact ⟨p, ns, rfl, h1, f.here rel ⟨rfl, rfl⟩⟩
  · exact f.elim
def qAll (g : List Bool → Bool) : FB := fun xs S => match xs with
  | [x] => match (lstOf x S).bind blsOf with
    | some ns => .ok (.bl (g ns)) S
    | none => .stuck
  | _ => .stuck
theorem opC_q (g : List Bool → Bool) : OpC K mg (qAll g) (fun vs H Q => ∃ (a : Addr) (bs : List Bool), vs = [V.ref a] ∧ SqL K H a (bs.map V.bl) ∧ Q (.bl (g bs)) H) := by
  intro W σ m S H xs vs Q rel ra f
  unfold qAll at f
  split at f
  · rename_i x
    obtain ⟨v, rfl, rv⟩ := one_of ra
    cases e : lstOf x S with
    | none => rw [e] at f; exact f.elim
    | some ys =>
      obtain ⟨b, p, us, rfl, h1, h2⟩ := lst_ok rel rv e
      rw [e] at f
      cases e2 : blsOf ys with
      | none => simp only [Option.bind_some, e2] at f; exact f.elim
      | some ns =>
        simp only [Option.bind_some, e2] at f
        have e3 := blsOf_eq e2
        subst e3
        have e4 := bls_rps h2
        subst e4
        exact ⟨p, ns, rfl, h1, f.here rel ⟨rfl, rfl⟩⟩
  · exact f.elim
abbrev anyV : FB := qAll fun bs => bs.any id
abbrev allV : FB := qAll fun bs => bs.all id
theorem opC_any : OpC K mg anyV (rAny K) := opC_q _
theorem opC_all : OpC K mg allV (rAll K) := opC_q _
/-- the greatest, the least of ints, the first of them -/
def maxI : List Int → Int
  | [] => 0
  | [a] => a
  | a :: b :: r => max a (maxI (b :: r))
def minI : List Int → Int
  | [] => 0
  | [a] => a
  | a :: b :: r => min a (minI (b :: r))
theorem maxI_spec : ∀ {ns : List Int} {k : Int}, k ∈ ns → (∀ y, y ∈ ns → y ≤ k) → maxI ns = k
  | [], k, h, _ => by cases h
  | [a], k, h, _ => by
    rcases List.mem_cons.mp h with h | h
    · exact h.symm
    · cases h
  | a :: b :: r, k, h, q => by
    show max a (maxI (b :: r)) = k
    by_cases hk : k ∈ b :: r
    · rw [maxI_spec hk fun y hy => q y (List.mem_cons_of_mem _ hy)]
      have := q a (List.mem_cons_self ..)
      omega
    · have ea : k = a := (List.mem_cons.mp h).resolve_right hk
      subst ea
      have le : ∀ (l : List Int) (h0 : l ≠ []), (∀ y ∈ l, y ≤ k) → maxI l ≤ k := by
        intro l
        induction l with
        | nil => intro h0; exact absurd rfl h0
        | cons x l ih =>
          intro _ hy
          cases l with
          | nil => exact hy x (List.mem_cons_self ..)
          | cons y l =>
            have h1 := hy x (List.mem_cons_self ..)
            have h2 := ih (by simp) fun z hz => hy z (List.mem_cons_of_mem _ hz)
            show max x (maxI (y :: l)) ≤ k
            omega
      have := le (b :: r) (by simp) fun y hy => q y (List.mem_cons_of_mem _ hy)
      omega
theorem minI_spec : ∀ {ns : List Int} {k : Int}, k ∈ ns → (∀ y, y ∈ ns → k ≤ y) → minI ns = k
  | [], k, h, _ => by cases h
  | [a], k, h, _ => by
    rcases List.mem_cons.mp h with h | h
    · exact h.symm
    · cases h
  | a :: b :: r, k, h, q => by
    show min a (minI (b :: r)) = k
    by_cases hk : k ∈ b :: r
    · rw [minI_spec hk fun y hy => q y (List.mem_cons_of_mem _ hy)]
      have := q a (List.mem_cons_self ..)
      omega
    · have ea : k = a := (List.mem_cons.mp h).resolve_right hk
      subst ea
      have le : ∀ (l : List Int) (h0 : l ≠ []), (∀ y ∈ l, k ≤ y) → k ≤ minI l := by
        intro l
        induction l with
        | nil => intro h0; exact absurd rfl h0
        | cons x l ih =>
          intro _ hy
          cases l with
          | nil => exact hy x (List.mem_cons_self ..)
          | cons y l =>
            have h1 := hy x (List.mem_cons_self ..)
            have h2 := ih (by simp) fun z hz => hy z (List.mem_cons_of_mem _ hz)
            show k ≤ min x (minI (y :: l))
            omega
      have := le (b :: r) (by simp) fun y hy => q y (List.mem_cons_of_mem _ hy)
      omega
def maxV : FB := fun xs S => match xs with
  | [.int i, .int j] => .ok (.int (if j > i then j else i)) S
  | [x] => match (lstOf x S).bind intsOf with
    | some ns => if 0 < ns.length then .ok (.int (maxI ns)) S else .stuck
    | none => .stuck
  | _ => .stuck
def rMaxV (K : PySem.W.Frag) : List V → Hp → VK → Prop := fun xs H Q => (∃ i j, xs = [.int i, .int j] ∧ Q (.int (if j > i then j else i)) H) ∨ rMax K xs H Q
theorem call_maxV {X : Cx} (hc : X.calm = true) : CallR X (.builtin "max") (rMaxV X.K) := (call_max2 hc).or (cr_max hc)
theorem opC_max : OpC K mg maxV (rMaxV K) := by
  intro W σ m S H xs vs Q rel ra f
  unfold maxV at f
  split at f
  · rename_i i j
    obtain ⟨v, u, rfl, rv, ru⟩ := two_of ra
    have e1 : v = .int i := rv.2
    have e2 : u = .int j := ru.2
    subst e1 e2
    exact .inl ⟨i, j, rfl, f.here rel ⟨rfl, rfl⟩⟩
  · rename_i x
    obtain ⟨v, rfl, rv⟩ := one_of ra
    cases e : lstOf x S with
    | none => rw [e] at f; exact f.elim
    | some ys =>
      obtain ⟨b, p, us, rfl, h1, h2⟩ := lst_ok rel rv e
      rw [e] at f
      cases e2 : intsOf ys with
      | none => simp only [Option.bind_some, e2] at f; exact f.elim
      | some ns =>
        simp only [Option.bind_some, e2] at f
        have e3 := intsOf_eq e2
        subst e3
        have e4 := ints_rps h2
        subst e4
        by_cases hl : 0 < ns.length
        · rw [if_pos hl] at f
          refine .inr ⟨p, ns, rfl, h1, hl, fun k hk hq => ?_⟩
          rw [← maxI_spec hk hq]
          exact f.here rel ⟨rfl, rfl⟩
        · rw [if_neg hl] at f
          exact f.elim
  · exact f.elim
def minV : FB := fun xs S => match xs with
  | [.int i, .int j] => .ok (.int (if j < i then j else i)) S
  | [x] => match (lstOf x S).bind intsOf with
    | some ns => if 0 < ns.length then .ok (.int (minI ns)) S else .stuck
    | none => .stuck
  | _ => .stuck
def rMinV (K : PySem.W.Frag) : List V → Hp → VK → Prop := fun xs H Q => (∃ i j, xs = [.int i, .int j] ∧ Q (.int (if j < i then j else i)) H) ∨ rMin K xs H Q
theorem call_minV {X : Cx} (hc : X.calm = true) : CallR X (.builtin "min") (rMinV X.K) := (call_min2 hc).or (cr_min hc)
theorem opC_min : OpC K mg minV (rMinV K) := by
  intro W σ m S H xs vs Q rel ra f
  unfold minV at f
  split at f
  · rename_i i j
    obtain ⟨v, u, rfl, rv, ru⟩ := two_of ra
    have e1 : v = .int i := rv.2
    have e2 : u = .int j := ru.2
    subst e1 e2
    exact .inl ⟨i, j, rfl, f.here rel ⟨rfl, rfl⟩⟩
  · rename_i x
    obtain ⟨v, rfl, rv⟩ := one_of ra
    cases e : lstOf x S with
    | none => rw [e] at f; exact f.elim
    | some ys =>
      obtain ⟨b, p, us, rfl, h1, h2⟩ := lst_ok rel rv e
      rw [e] at f
      cases e2 : intsOf ys with
      | none => simp only [Option.bind_some, e2] at f; exact f.elim
      | some ns =>
        simp only [Option.bind_some, e2] at f
        have e3 := intsOf_eq e2
        subst e3
        have e4 := ints_rps h2
        subst e4
        by_cases hl : 0 < ns.length
        · rw [if_pos hl] at f
          refine .inr ⟨p, ns, rfl, h1, hl, fun k hk hq => ?_⟩
          rw [← minI_spec hk hq]
          exact f.here rel ⟨rfl, rfl⟩
        · rw [if_neg hl] at f
          exact f.elim
  · exact f.elim
def intV : FB := fun xs S => match xs with
  | [.int i] => .ok (.int i) S
  | [.bl k] => .ok (.int (if k then 1 else 0)) S
  | [.str a] => match PySem.intText? a with
    | some n => if a.length ≤ 640 then .ok (.int n) S else .stuck
    | none => .stuck
  | _ => .stuck
def rIntV : List V → Hp → VK → Prop := fun xs H Q => ((∃ i, xs = [.int i] ∧ Q (.int i) H) ∨ ∃ k, xs = [.bl k] ∧ Q (.int (if k then 1 else 0)) H) ∨ ∃ a n, xs = [.str a] ∧ PySem.intText? a = some n ∧ a.length ≤ 640 ∧ Q (.int n) H
theorem call_intV {X : Cx} : CallR X (.type "int") rIntV := call_int1.or call_int_str
theorem opC_int : OpC K mg intV rIntV := by
  intro W σ m S H xs vs Q rel ra f
  unfold intV at f
  split at f
  · rename_i i
    obtain ⟨v, rfl, rv⟩ := one_of ra
    have e1 : v = .int i := rv.2
    subst e1
    exact .inl (.inl ⟨i, rfl, f.here rel ⟨rfl, rfl⟩⟩)
  · rename_i i
    obtain ⟨v, rfl, rv⟩ := one_of ra
    have e1 : v = .bl i := rv.2
    subst e1
    exact .inl (.inr ⟨i, rfl, f.here rel ⟨rfl, rfl⟩⟩)
  · rename_i a
    obtain ⟨v, rfl, rv⟩ := one_of ra
    have e1 : v = .str a := rv.2
    subst e1
    split at f
    · rename_i n e
      split at f
      · rename_i hl
        exact .inr ⟨a, n, rfl, e, hl, f.here rel ⟨rfl, rfl⟩⟩
      · exact f.elim
    · exact f.elim
  · exact f.elim
def strV : FB := fun xs S => match xs with
  | [.int i] => if i.natAbs.log2 < 1920 then .ok (.str (toString i)) S else .stuck
  | _ => .stuck
theorem opC_str : OpC K mg strV (fun xs H Q => ∃ i, xs = [.int i] ∧ i.natAbs.log2 < 1920 ∧ Q (.str (toString i)) H) := by
  intro W σ m S H xs vs Q rel ra f
  unfold strV at f
  split at f
  · rename_i i
    obtain ⟨v, rfl, rv⟩ := one_of ra
    have e1 : v = .int i := rv.2
    subst e1
    split at f
    · rename_i hl
      exact ⟨i, rfl, hl, f.here rel ⟨rfl, rfl⟩⟩
    · exact f.elim
  · exact f.elim
/-- dict(d) -/
def dictV : FB := fun xs S => match xs with
  | [.obj i] => match S[i]? with
    | some (.dic _ kvs) => if (kvs.all fun kv => (keyOf kv.1).isSome) = true then .ok (.obj S.length) (S ++ [.dic false kvs]) else .stuck
    | _ => .stuck
  | _ => .stuck
theorem KvT.nok {m : Mp} {H : Hp} : ∀ {kvs : List (PV × PV)} {l : List (List Key × V)}, KvT K m H kvs l → (kvs.all fun kv => (keyOf kv.1).isSome) = true → kvs = []
  | [], l, h, _ => rfl
  | p :: ps, l, h, q => by
    obtain ⟨q1, r, rfl, h1, h2, h3⟩ := h
    have z : (keyOf p.1).isSome = true := (Bool.and_eq_true_iff.mp q).1
    cases e : p.1 with
    | tup xs => rw [e] at z; cases z
    | _ => rw [e] at h1; cases h1
end
section
variable {X : Cx} {W : WX} {o e e2 : Expr} {co ce c2 : CE PV} {apos cpos : Pos}
theorem pe_cv {te : TE} (h : PE X e te) : PE X e (fun σ H Q => te σ H fun v H1 => ∃ H2, cvH H1 H2 ∧ Q v H2) := ⟨fun pins s σ H Q I q => thn (h.run pins s σ H _ I q) fun v s1 ⟨x, H1, I1, r1, H2, c, q1⟩ => ⟨x, H2, Inv.cv I1 c, r1, q1⟩⟩
def isDic (x : PV) (S : Store) : Bool := match x with
  | .obj i => match S[i]? with
    | some (.dic _ _) => true
    | _ => false
  | _ => false
theorem isDic_ok {K : PySem.W.Frag} {mg : Str → Option Value} {m : Mp} {S : Store} {H : Hp} {x : PV} {v : V} (rel : Rel K mg m S H) (r : RV K S.length m H x v) (h : isDic x S = true) : ∃ a, v = .ref a ∧ IsD H a := by
  unfold isDic at h
  cases x with
  | obj i =>
    refine ⟨m i, r.2, ?_⟩
    simp only at h
    cases e : S[i]? with
    | none => rw [e] at h; cases h
    | some o =>
      rw [e] at h
      cases o with
      | dic lk kvs =>
        cases lk with
        | false =>
          rcases rel.ob i _ e with ⟨l, h1, h2⟩ | ⟨l, h1, h2⟩
          · exact .inl ⟨l, .inl h1⟩
          · exact .inr ⟨l, .inl h1⟩
        | true =>
          rcases rel.ob i _ e with ⟨o, l, h1, h2⟩ | ⟨o, l, h1, h2⟩
          · exact .inl ⟨l, .inr ⟨o, h1⟩⟩
          · exact .inr ⟨l, .inr ⟨o, h1⟩⟩
      | _ => cases h
  | _ => cases h
def getDV (o k z : PV) (S : Store) : Res PV := match o with
  | .obj i => match dicAt S i k with
    | some kvs => .ok ((dget kvs k).getD z) S
    | none => .stuck
  | _ => .stuck
def eGet1 (co ce : CE PV) : CE PV := fun ρ S => (co ρ S).bind fun o S1 => if isDic o S1 = true then (ce ρ S1).bind fun k S2 => getDV o k .non S2 else .stuck
def eGet2 (co ce c2 : CE PV) : CE PV := fun ρ S => (co ρ S).bind fun o S1 => if isDic o S1 = true then (ce ρ S1).bind fun k S2 => (c2 ρ S2).bind fun z S3 => getDV o k z S3 else .stuck
theorem getDV_ok {K : PySem.W.Frag} {mg : Str → Option Value} {W : WX} {σ : L2.St} {m : Mp} {S : Store} {H : Hp} {Q : VK} {x y z : PV} {a : Addr} {u w : V} (rel : Rel K mg m S H) (rx : RV K S.length m H x (.ref a)) (ry : RV K S.length m H y u) (rz : RV K S.length m H z w)
    (f : Fin K mg W σ m S H (RV K) Q (getDV x y z S)) : ∃ H2, cvH H H2 ∧ ∃ o, DGet H2 a u o ∧ Q (o.getD w) H2 := by
  unfold getDV at f
  cases x with
  | obj i =>
    have ea : V.ref a = .ref (m i) := rx.2
    cases ea
    simp only at f
    cases e : dicAt S i y with
    | none => rw [e] at f; exact f.elim
    | some kvs =>
      rw [e] at f
      simp only at f
      obtain ⟨H', c, r', ex, h1, h2⟩ := dic_get rel e ry
      refine ⟨H', c, ?_⟩
      cases eg : dget kvs y with
      | none =>
        rw [eg] at f
        exact ⟨none, h2 eg, f m H' w ex (Nat.le_refl _) r' (stbV ex (Nat.le_refl _) rz)⟩
      | some x =>
        rw [eg] at f
        obtain ⟨v, hv, rv⟩ := h1 x eg
        exact ⟨some v, hv, f m H' v ex (Nat.le_refl _) r' rv⟩
  | _ => exact f.elim
theorem de_get1 (hu : X.A.units + 1 < cLine) (ho : DE X W o co) (he : DE X W e ce) (hb : attributeBase o "get" X.env (eval o X.env) = eval o X.env := by rfl)
    (hf : ((backTo cpos (starEach [e] X.env)).all (fun x => !x.1) && (backToKw cpos (keywordEach [] X.env)).all (fun x => x.1.isSome)
    && decide (([e] : List Expr).length + ([] : List Keyword).length + (if ([] : List Keyword).isEmpty then 0 else 1) < 30)) = true := by rfl) (hl : (apos.endLine == cpos.line) = true := by rfl) (ht : backTo cpos (starEach [e] X.env) = [(false, eval e X.env)] := by rfl) :
    DE X W (.Call (.Attribute o "get" apos) [e] [] cpos) (eGet1 co ce) :=
  pe_imp (pe_dget1 hu ho (pe_cv he) ⟨hb, hf, hl, ht⟩) fun σ H Q h => by
    obtain ⟨m, S, ρ, at_, fin⟩ := h
    refine ⟨m, S, ρ, at_, (Fin.bind at_ fin).mono fun v H1 h1 => ?_⟩
    obtain ⟨m1, S1, x, at1, r1, e1, l1, f1⟩ := h1
    dsimp only at f1
    by_cases hD : isDic x S1 = true
    · rw [if_pos hD] at f1
      obtain ⟨a, rfl, ha⟩ := isDic_ok at1.rel r1 hD
      refine ⟨a, rfl, ha, m1, S1, ρ, at1, (Fin.bind at1 f1).mono fun u H2 h2 => ?_⟩
      obtain ⟨m2, S2, y, at2, r2, e2, l2, f2⟩ := h2
      exact getDV_ok (z := .non) (w := .non) at2.rel (stbV e2 l2 r1) r2 ⟨rfl, rfl⟩ f2
    · rw [if_neg hD] at f1
      exact f1.elim
theorem de_get2 (hu : X.A.units + 1 < cLine) (ho : DE X W o co) (he : DE X W e ce) (hz : DE X W e2 c2) (hb : attributeBase o "get" X.env (eval o X.env) = eval o X.env := by rfl)
    (hf : ((backTo cpos (starEach [e, e2] X.env)).all (fun x => !x.1) && (backToKw cpos (keywordEach [] X.env)).all (fun x => x.1.isSome)
    && decide (([e, e2] : List Expr).length + ([] : List Keyword).length + (if ([] : List Keyword).isEmpty then 0 else 1) < 30)) = true := by rfl) (hl : (apos.endLine == cpos.line) = true := by rfl) (ht : backTo cpos (starEach [e, e2] X.env) = [(false, eval e X.env), (false, eval e2 X.env)] := by rfl) :
    DE X W (.Call (.Attribute o "get" apos) [e, e2] [] cpos) (eGet2 co ce c2) :=
  pe_imp (pe_dget2 hu ho he (pe_cv hz) ⟨hb, hf, hl, ht⟩) fun σ H Q h => by
    obtain ⟨m, S, ρ, at_, fin⟩ := h
    refine ⟨m, S, ρ, at_, (Fin.bind at_ fin).mono fun v H1 h1 => ?_⟩
    obtain ⟨m1, S1, x, at1, r1, e1, l1, f1⟩ := h1
    dsimp only at f1
    by_cases hD : isDic x S1 = true
    · rw [if_pos hD] at f1
      obtain ⟨a, rfl, ha⟩ := isDic_ok at1.rel r1 hD
      refine ⟨a, rfl, ha, m1, S1, ρ, at1, (Fin.bind at1 f1).mono fun u H2 h2 => ?_⟩
      obtain ⟨m2, S2, y, at2, r2, e2, l2, f2⟩ := h2
      refine ⟨m2, S2, ρ, at2, (Fin.bind at2 f2).mono fun w H3 h3 => ?_⟩
      obtain ⟨m3, S3, z, at3, r3, e3, l3, f3⟩ := h3
      exact getDV_ok at3.rel (stbV e3 l3 (stbV e2 l2 r1)) (stbV e3 l3 r2) r3 f3
    · rw [if_neg hD] at f1
      exact f1.elim
end
end TL

set_option Elab.async false
set_option linter.all false
set_option maxRecDepth 100000
/-! TT1: more rules for reckoning on the store. -/
namespace TL
open PySem PySem.Spec PyProof.Rows L2
@[simp] theorem eM_ap (f : FM) (co : CE PV) (cs : CE (List PV)) (ρ : Sl) (S : Store) : eM f co cs ρ S = (co ρ S).bind fun o S1 => if isL o S1 = true then (cs ρ S1).bind fun xs S2 => f o xs S2 else .stuck := rfl
@[simp] theorem eGet1_ap (co ce : CE PV) (ρ : Sl) (S : Store) : eGet1 co ce ρ S = (co ρ S).bind fun o S1 => if isDic o S1 = true then (ce ρ S1).bind fun k S2 => getDV o k .non S2 else .stuck := rfl
@[simp] theorem eGet2_ap (co ce c2 : CE PV) (ρ : Sl) (S : Store) : eGet2 co ce c2 ρ S = (co ρ S).bind fun o S1 => if isDic o S1 = true then (ce ρ S1).bind fun k S2 => (c2 ρ S2).bind fun z S3 => getDV o k z S3 else .stuck := rfl
end TL

set_option Elab.async false
set_option linter.all false
set_option maxRecDepth 100000
set_option maxHeartbeats 1000000
/-! TZ: zip over any two of lists and tuples. -/
namespace TL
open PySem PySem.Spec PyProof.Rows L2
open PySem.Sem (wp)
/-- lists and tuples as what zip draws from -/
inductive Kd where
  | l | t
namespace Kd
def nm : Kd → String
  | .l => "list_iterator"
  | .t => "tuple_iterator"
def It (d : Kd) (h : Heap) (a b : Addr) (i : Nat) : Prop := match d with
  | .l => h.IsListIter a b i
  | .t => h.IsTupleIter a b i
def Sq (d : Kd) (h : Heap) (a : Addr) (xs : Array Value) : Prop := match d with
  | .l => h.IsList a xs
  | .t => h.IsTuple a xs
def Vw (d : Kd) (K : PySem.W.Frag) (H : Hp) (a : Addr) (xs : List V) : Prop := match d with
  | .l => SqL K H a xs
  | .t => SqT K H a xs
section
variable {d : Kd} {h h' : Heap} {a b c : Addr} {i : Nat} {xs : Array Value}
theorem It.ext (x : d.It h a b i) (e : Heap.ExtBut c h h') (n : a ≠ c) : d.It h' a b i := by
  cases d with
  | l => exact Heap.IsListIter.extBut x e n
  | t => exact Heap.IsTupleIter.extBut x e n
theorem It.to (x : d.It h a b i) (e : ∀ o, h.get? a = some o → h'.get? a = some o) : d.It h' a b i := by
  cases d with
  | l => exact Heap.IsListIter.at x e
  | t => exact Heap.IsTupleIter.at x e
theorem It.obj (x : d.It h a b i) : ∃ o, h.get? a = some o ∧ ∀ v, o.data ≠ .cell v := by
  cases d with
  | l =>
    obtain ⟨o, e, _, q⟩ := x
    exact ⟨o, e, fun v z => by rw [q] at z; cases z⟩
  | t =>
    obtain ⟨o, e, _, q⟩ := x
    exact ⟨o, e, fun v z => by rw [q] at z; cases z⟩
theorem Sq.ext (x : d.Sq h a xs) (e : Heap.ExtBut c h h') (n : a ≠ c) : d.Sq h' a xs := by
  cases d with
  | l => exact Heap.IsList.extBut x e n
  | t => exact Heap.IsTuple.extBut x e n
theorem Sq.push (x : d.Sq h a xs) (o : Obj) : d.Sq (h.push o) a xs := by
  cases d with
  | l => exact Heap.IsList.push x o
  | t => exact Heap.IsTuple.push x o
theorem Sq.lt (x : d.Sq h a xs) : a < h.objs.size := by
  cases d with
  | l =>
    obtain ⟨o, e, _⟩ := x
    exact Heap.lt_size e
  | t =>
    obtain ⟨o, e, _⟩ := x
    exact Heap.lt_size e
end
section
variable {prog : Program} {w : World} {A : Around} {E : Value → Shared → Prop} {s : Shared} {d : Kd} {it l : Addr} {i : Nat} {xs : Array Value} {x : Value} {Q : Value → Shared → Prop}
theorem draw (hi : d.It s.heap it l i) (hl : d.Sq s.heap l xs) (hx : xs[i]? = some x) (hQ : ∀ h', d.It h' it l (i + 1) → Heap.SameBut it s.heap h' → Q x { s with heap := h' }) :
    wpAny (model prog w) A (Builtin.SmallTypes.nextOf (.ref it)) Q E s := by
  cases d with
  | l => exact wpAny_nextOf_list_item hi hl hx hQ
  | t => exact RZ.nextOf_tuple_item hi hl hx hQ
theorem drawn (hh : A.handled = none) (hi : d.It s.heap it l i) (hl : d.Sq s.heap l xs) (hx : xs[i]? = none)
    (hE : ∀ h' e, Heap.ExtBut it s.heap h' → (∃ o, h'.get? e = some o ∧ o.cls = .type "StopIteration") → E (.ref e) { s with heap := h' }) :
    wpAny (model prog w) A (Builtin.SmallTypes.nextOf (.ref it)) Q E s := by
  cases d with
  | l => exact wpAny_nextOf_list_end hh hi hl hx hE
  | t => exact RZ.nextOf_tuple_end hh hi hl hx hE
theorem iter (hl : d.Sq s.heap l xs) (hQ : Q (.ref s.heap.objs.size) { s with heap := s.heap.push { cls := .type d.nm, data := .fields #[.ref l, .int 0 0] } }) : wpAny (model prog w) A (pyIter (.ref l)) Q E s := by
  cases d with
  | l => exact wpAny_pyIter_list hl hQ
  | t => exact wpAny_pyIter_tuple hl hQ
theorem newIt {h : Heap} (e : h.get? it = some { cls := .type d.nm, data := .fields #[.ref l, .int 0 0] }) : d.It h it l 0 := by
  cases d with
  | l => exact ⟨_, e, rfl, rfl⟩
  | t => exact ⟨_, e, rfl, rfl⟩
end
end Kd
/-- what a zip's iterator keeps: its two iterators, the pair it hands out -/
structure ZipSt (d e : Kd) (h : Heap) (z p r i j a b : Addr) (k : Nat) : Prop where
  z : IsZip h z p r .none
  p : IsPair h p (.ref i) (.ref j)
  r : ∃ x y, IsPair h r x y
  i : d.It h i a k
  j : e.It h j b k
section
variable {prog : Program} {w : World} {A : Around} {E : Value → Shared → Prop} {s : Shared} {d e : Kd} {z p r i j a b : Addr} {k : Nat} {xs ys : Array Value}
/-- the head of zip's step: the tuple that it keeps is free, the two iterators stand in p -/
theorem zip_item {x y : Value} {Q : Value → Shared → Prop} (D : ZipApart z p r i j a b) (st : ZipSt d e s.heap z p r i j a b k) (ha : d.Sq s.heap a xs) (hb : e.Sq s.heap b ys) (hx : xs[k]? = some x) (hy : ys[k]? = some y)
    (hQ : ∀ h', IsZip h' z p r (rawInt s.heap.objs.size) → IsPair h' r x y → d.It h' i a (k + 1) → e.It h' j b (k + 1) → IsPair h' s.heap.objs.size x y → h'.objs.size = s.heap.objs.size + 1 →
      (∀ c o, c ≠ z → c ≠ r → c ≠ i → c ≠ j → s.heap.get? c = some o → h'.get? c = some o) → Q (.ref s.heap.objs.size) { s with heap := h' }) :
    wpAny (model prog w) A (Builtin.«zip.__next__» ⟨[.ref z], []⟩) (fun fin s' => ∃ v, fin = .done (.ret v) ∧ Q v s') E s := by
  obtain ⟨z0, p0, ⟨x0, y0, r0⟩, i0, j0⟩ := st
  show wpAny _ _ (field (.ref z) 2 >>= _) _ _ _
  refine wpAny_bind (wpAny_field z0 rfl (x := .bool false) rfl ?_)
  show wpAny _ _ (field (.ref z) 3 >>= _) _ _ _
  refine wpAny_bind (wpAny_field z0 rfl (x := .ref p) rfl (wpAny_bind (wpAny_seqItems p0 rfl ?_)))
  show wpAny _ _ (Builtin.SmallTypes.ownedTupleIsFree (.ref z) >>= _) _ _ _
  unfold Builtin.SmallTypes.ownedTupleIsFree
  refine wpAny_bind (wpAny_bind (wpAny_field z0 rfl (x := .none) rfl (wpAny_pure ?_)))
  simp only [if_true]
  refine wpAny_bind (wpAny_rule (wpAny_bind (wpAny_field z0 rfl (x := .ref r) rfl (wpAny_bind (wpAny_setField_rec z0 (by simp) fun ha1 z1' sb1 => ?_)))))
  have z1 : IsZip ha1 z p r .ellipsis := z1'
  refine wpAny_bind ?_
  simp only [List.zipIdx_cons, List.zipIdx_nil, List.forIn_cons, List.forIn_nil]
  refine wpAny_bind (wpAny_bind (wpAny_onRaise ?_))
  show wpAny _ _ (Builtin.SmallTypes.nextOf (.ref i) >>= _) _ _ _
  refine wpAny_bind (Kd.draw (i0.ext sb1.extBut D.i1z) (ha.ext sb1.extBut D.l1z) hx fun ha2 i2 sb2 => wpAny_pure ?_)
  have r2 : IsPair ha2 r x0 y0 := sb2.extBut _ _ D.TOi1 (sb1.extBut _ _ D.TOz r0)
  refine wpAny_bind (wpAny_seqItems r2 rfl (wpAny_bind (wpAny_updateSeq_pair r2 fun ha3 r3' sb3 => wpAny_bind (wpAny_letGo (wpAny_pure ?_)))))
  have r3 : IsPair ha3 r x y0 := r3'
  refine wpAny_bind (wpAny_bind (wpAny_onRaise ?_))
  show wpAny _ _ (Builtin.SmallTypes.nextOf (.ref j) >>= _) _ _ _
  have j3 : e.It ha3 j b k := ((j0.ext sb1.extBut D.i2z).ext sb2.extBut D.i12.symm).ext sb3.extBut D.TOi2.symm
  have b3 : e.Sq ha3 b ys := ((hb.ext sb1.extBut D.l2z).ext sb2.extBut D.l2i1).ext sb3.extBut D.l2TO
  refine wpAny_bind (Kd.draw j3 b3 hy fun ha4 j4 sb4 => wpAny_pure ?_)
  have r4 : IsPair ha4 r x y0 := sb4.extBut _ _ D.TOi2 r3
  refine wpAny_bind (wpAny_seqItems r4 rfl (wpAny_bind (wpAny_updateSeq_pair r4 fun ha5 r5' sb5 => wpAny_bind (wpAny_letGo (wpAny_pure (wpAny_pure ?_))))))
  have r5 : IsPair ha5 r x y := r5'
  refine wpAny_bind (wpAny_seqItems r5 rfl (wpAny_bind (wpAny_newTuple ?_)))
  have size5 : ha5.objs.size = s.heap.objs.size := sb5.1.trans (sb4.1.trans (sb3.1.trans (sb2.1.trans sb1.1)))
  have z5 : IsZip ha5 z p r .ellipsis := sb5.extBut _ _ D.TOz.symm (sb4.extBut _ _ D.i2z.symm (sb3.extBut _ _ D.TOz.symm (sb2.extBut _ _ D.i1z.symm z1)))
  have keep5 : ∀ c o, c ≠ z → c ≠ r → c ≠ i → c ≠ j → s.heap.get? c = some o → ha5.get? c = some o := fun c o n1 n2 n3 n4 q =>
    sb5.extBut _ _ n2 (sb4.extBut _ _ n4 (sb3.extBut _ _ n2 (sb2.extBut _ _ n3 (sb1.extBut _ _ n1 q))))
  have i5 : d.It ha5 i a (k + 1) := ((i2.ext sb3.extBut D.TOi1.symm).ext sb4.extBut D.i12).ext sb5.extBut D.TOi1.symm
  have j5 : e.It ha5 j b (k + 1) := j4.ext sb5.extBut D.TOi2.symm
  have zlt : z < ha5.objs.size := Heap.lt_size z5
  show wpAny _ _ (Builtin.SmallTypes.ownedTupleHandOut (.ref z) (.ref ha5.objs.size) >>= _) _ _ _
  unfold Builtin.SmallTypes.ownedTupleHandOut
  have z6 : IsZip (ha5.push { cls := .type "tuple", data := .seq #[x, y] }) z p r .ellipsis := Heap.get?_push_of_some _ z5
  refine wpAny_bind (wpAny_bind (wpAny_setField_rec z6 (by simp) fun ha7 z7' sb7 => ?_))
  have z7 : IsZip ha7 z p r (rawInt ha5.objs.size) := z7'
  refine wpAny_setField_rec z7 (by simp) fun ha8 z8' sb8 => ?_
  have z8 : IsZip ha8 z p r (rawInt ha5.objs.size) := z8'
  have last : ∀ c o, c ≠ z → ha5.get? c = some o → ha8.get? c = some o := fun c o n q => sb8.extBut _ _ n (sb7.extBut _ _ n (Heap.get?_push_of_some _ q))
  have t8 : IsPair ha8 ha5.objs.size x y := sb8.extBut _ _ (Nat.ne_of_gt zlt) (sb7.extBut _ _ (Nat.ne_of_gt zlt) (Heap.get?_push_size _ rfl))
  have size8 : ha8.objs.size = ha5.objs.size + 1 := by rw [sb8.1, sb7.1, Heap.size_push]
  rw [size5] at z8 t8 size8
  refine wpAny_pure ⟨_, rfl, ?_⟩
  show Q (.ref ha5.objs.size) _
  rw [size5]
  exact hQ ha8 z8 (last _ _ D.TOz r5) (i5.to fun o q => last _ o D.i1z q) (j5.to fun o q => last _ o D.i2z q) t8 size8 fun c o n1 n2 n3 n4 q => last c o n1 (keep5 c o n1 n2 n3 n4 q)
theorem zip_stop {Q : PySem.Fin → Shared → Prop} (hh : A.handled = none) (D : ZipApart z p r i j a b) (st : ZipSt d e s.heap z p r i j a b k) (ha : d.Sq s.heap a xs) (hb : e.Sq s.heap b ys) (hend : xs[k]? = none ∨ ys[k]? = none)
    (hE : ∀ h' x, (∀ c o, c ≠ z → c ≠ r → c ≠ i → c ≠ j → s.heap.get? c = some o → h'.get? c = some o) → (∃ o, h'.get? x = some o ∧ o.cls = .type "StopIteration") → E (.ref x) { s with heap := h' }) :
    wpAny (model prog w) A (Builtin.«zip.__next__» ⟨[.ref z], []⟩) Q E s := by
  obtain ⟨z0, p0, ⟨x0, y0, r0⟩, i0, j0⟩ := st
  show wpAny _ _ (field (.ref z) 2 >>= _) _ _ _
  refine wpAny_bind (wpAny_field z0 rfl (x := .bool false) rfl ?_)
  show wpAny _ _ (field (.ref z) 3 >>= _) _ _ _
  refine wpAny_bind (wpAny_field z0 rfl (x := .ref p) rfl (wpAny_bind (wpAny_seqItems p0 rfl ?_)))
  show wpAny _ _ (Builtin.SmallTypes.ownedTupleIsFree (.ref z) >>= _) _ _ _
  unfold Builtin.SmallTypes.ownedTupleIsFree
  refine wpAny_bind (wpAny_bind (wpAny_field z0 rfl (x := .none) rfl (wpAny_pure ?_)))
  simp only [if_true]
  refine wpAny_bind (wpAny_rule (wpAny_bind (wpAny_field z0 rfl (x := .ref r) rfl (wpAny_bind (wpAny_setField_rec z0 (by simp) fun ha1 z1' sb1 => ?_)))))
  have z1 : IsZip ha1 z p r .ellipsis := z1'
  refine wpAny_bind ?_
  simp only [List.zipIdx_cons, List.zipIdx_nil, List.forIn_cons, List.forIn_nil]
  refine wpAny_bind (wpAny_bind (wpAny_onRaise ?_))
  show wpAny _ _ (Builtin.SmallTypes.nextOf (.ref i) >>= _) _ _ _
  cases hx : xs[k]? with
  | none =>
    refine wpAny_bind (Kd.drawn hh (i0.ext sb1.extBut D.i1z) (ha.ext sb1.extBut D.l1z) hx fun ha2 x sb2 hs => ?_)
    obtain ⟨ox, hox, hcx⟩ := hs
    have z2 : IsZip ha2 z p r .ellipsis := sb2 _ _ D.i1z.symm z1
    have nz : x ≠ z := fun q => by
      rw [q, z2] at hox
      cases hox
      simp at hcx
    exact wpAny_setField_rec z2 (by simp) fun ha3 _ sb3 => hE ha3 x (fun c o n1 _ n3 _ q => sb3.extBut _ _ n1 (sb2 _ _ n3 (sb1.extBut _ _ n1 q))) ⟨ox, sb3.extBut _ _ nz hox, hcx⟩
  | some x =>
    have hy : ys[k]? = none := hend.resolve_left (by rw [hx]; exact fun q => nomatch q)
    refine wpAny_bind (Kd.draw (i0.ext sb1.extBut D.i1z) (ha.ext sb1.extBut D.l1z) hx fun ha2 i2 sb2 => wpAny_pure ?_)
    have r2 : IsPair ha2 r x0 y0 := sb2.extBut _ _ D.TOi1 (sb1.extBut _ _ D.TOz r0)
    refine wpAny_bind (wpAny_seqItems r2 rfl (wpAny_bind (wpAny_updateSeq_pair r2 fun ha3 r3' sb3 => wpAny_bind (wpAny_letGo (wpAny_pure ?_)))))
    refine wpAny_bind (wpAny_bind (wpAny_onRaise ?_))
    show wpAny _ _ (Builtin.SmallTypes.nextOf (.ref j) >>= _) _ _ _
    have j3 : e.It ha3 j b k := ((j0.ext sb1.extBut D.i2z).ext sb2.extBut D.i12.symm).ext sb3.extBut D.TOi2.symm
    have b3 : e.Sq ha3 b ys := ((hb.ext sb1.extBut D.l2z).ext sb2.extBut D.l2i1).ext sb3.extBut D.l2TO
    refine wpAny_bind (Kd.drawn hh j3 b3 hy fun ha4 x sb4 hs => ?_)
    obtain ⟨ox, hox, hcx⟩ := hs
    have z4 : IsZip ha4 z p r .ellipsis := sb4 _ _ D.i2z.symm (sb3.extBut _ _ D.TOz.symm (sb2.extBut _ _ D.i1z.symm z1))
    have nz : x ≠ z := fun q => by
      rw [q, z4] at hox
      cases hox
      simp at hcx
    exact wpAny_setField_rec z4 (by simp) fun ha5 _ sb5 => hE ha5 x (fun c o n1 n2 n3 n4 q => sb5.extBut _ _ n1 (sb4 _ _ n4 (sb3.extBut _ _ n2 (sb2.extBut _ _ n3 (sb1.extBut _ _ n1 q))))) ⟨ox, sb5.extBut _ _ nz hox, hcx⟩
theorem next_item {x y : Value} {Q : Option Value → Shared → Prop} (D : ZipApart z p r i j a b) (st : ZipSt d e s.heap z p r i j a b k) (ha : d.Sq s.heap a xs) (hb : e.Sq s.heap b ys) (hx : xs[k]? = some x) (hy : ys[k]? = some y)
    (hQ : ∀ h', IsZip h' z p r (rawInt s.heap.objs.size) → IsPair h' r x y → d.It h' i a (k + 1) → e.It h' j b (k + 1) → IsPair h' s.heap.objs.size x y → h'.objs.size = s.heap.objs.size + 1 →
      (∀ c o, c ≠ z → c ≠ r → c ≠ i → c ≠ j → s.heap.get? c = some o → h'.get? c = some o) → Q (some (.ref s.heap.objs.size)) { s with heap := h' }) :
    wpAny (model prog w) A (pyNext (.ref z)) Q E s := by
  have ty : s.TypeIs (.ref z) "zip" := ⟨_, st.z, rfl⟩
  unfold pyNext
  exact wpAny_bind (wpAny_attempt (wpAny_callSpecial?_slot (name := Str.ofString "__next__") ty F.slot_zip_next
    (wpAny_call_entry F.slot_zip_next ty F.entry_zip_next
      (zip_item D st ha hb hx hy fun h' q1 q2 q3 q4 q5 q6 q7 => wpAny_pure (hQ h' q1 q2 q3 q4 q5 q6 q7)) (F.args_zip_next_1 _))))
theorem next_stop {Q : Option Value → Shared → Prop} (hh : A.handled = none) (D : ZipApart z p r i j a b) (st : ZipSt d e s.heap z p r i j a b k) (ha : d.Sq s.heap a xs) (hb : e.Sq s.heap b ys) (hend : xs[k]? = none ∨ ys[k]? = none)
    (hQ : ∀ h', (∀ c o, c ≠ z → c ≠ r → c ≠ i → c ≠ j → s.heap.get? c = some o → h'.get? c = some o) → Q none { s with heap := h' }) : wpAny (model prog w) A (pyNext (.ref z)) Q E s := by
  have ty : s.TypeIs (.ref z) "zip" := ⟨_, st.z, rfl⟩
  unfold pyNext
  refine wpAny_bind (wpAny_attempt (wpAny_callSpecial?_slot (name := Str.ofString "__next__") ty F.slot_zip_next
    (wpAny_call_entry F.slot_zip_next ty F.entry_zip_next (zip_stop hh D st ha hb hend fun h' x keep hs => ?_) (F.args_zip_next_1 _))))
  obtain ⟨o, ho, hc⟩ := hs
  refine wpAny_bind (wpAny_isInstance (T := "StopIteration") (b := true) ⟨o, ho, hc⟩ isSubtype_stop ?_)
  exact wpAny_pure (hQ _ keep)
end
/-- the heap behind zip(a, b), object by object -/
abbrev zH1 (d : Kd) (h : Heap) (a : Addr) : Heap := h.push { cls := .type d.nm, data := .fields #[.ref a, .int 0 0] }
abbrev zH2 (d e : Kd) (h : Heap) (a b : Addr) : Heap := (zH1 d h a).push { cls := .type e.nm, data := .fields #[.ref b, .int 0 0] }
abbrev zH3 (d e : Kd) (h : Heap) (a b : Addr) : Heap := (zH2 d e h a b).push { cls := .type "tuple", data := .seq #[.ref h.objs.size, .ref (zH1 d h a).objs.size] }
abbrev zH4 (d e : Kd) (h : Heap) (a b : Addr) : Heap := (zH3 d e h a b).push { cls := .type "tuple", data := .seq #[.none, .none] }
abbrev zH5 (d e : Kd) (h : Heap) (a b : Addr) : Heap := (zH4 d e h a b).push { cls := .type "zip", data := .fields #[.none, .bool false, .bool false, .ref (zH2 d e h a b).objs.size, .ref (zH3 d e h a b).objs.size] }
theorem zip_meets (d e : Kd) (a b : Addr) (xs ys : Array Value) :
    Meets (Builtin.«zip.__new__» ⟨[.type "zip", .ref a, .ref b], []⟩) (fun _ R s => d.Sq s.heap a xs ∧ e.Sq s.heap b ys ∧ R (.ok (.ret (.ref (zH4 d e s.heap a b).objs.size))) { s with heap := zH5 d e s.heap a b }) :=
  .of_wp fun prog w A R s h => by
    obtain ⟨hp, g, dd, tk, os⟩ := s
    obtain ⟨ha, hb, h⟩ := h
    have sz := sub_zip
    have ha' : d.Sq (Shared.heap ⟨hp, g, dd, tk, os⟩) a xs := ha
    have hb' : e.Sq (Shared.heap ⟨hp.push { cls := .type d.nm, data := .fields #[.ref a, .int 0 0] }, g, dd, tk, os⟩) b ys := Kd.Sq.push hb _
    wp_walk using Kd.iter ha', Kd.iter hb'
    exact ⟨_, rfl, h⟩
theorem call_zipK {prog : Program} {w : World} {A : Around} {E : Value → Shared → Prop} {s : Shared} {d e : Kd} {a b : Addr} {xs ys : Array Value} {Q : Value → Shared → Prop} (ha : d.Sq s.heap a xs) (hb : e.Sq s.heap b ys)
    (h : ∀ h', ZipSt d e h' (s.heap.objs.size + 4) (s.heap.objs.size + 2) (s.heap.objs.size + 3) s.heap.objs.size (s.heap.objs.size + 1) a b 0 → (∀ c o, s.heap.get? c = some o → h'.get? c = some o) → Q (.ref (s.heap.objs.size + 4)) { s with heap := h' }) :
    wpAny (model prog w) A (call (.type "zip") [.ref a, .ref b]) Q E s := by
  refine callType_new F.called_zip (by decide) (F.typeCall_zip_2 _ _) (F.newCall_zip_2 _ _) (fun obj => F.args_object_init_3 obj _ _) F.entry_zip_new (zip_meets d e a b xs ys) ⟨ha, hb, ?_⟩
  have n1 : (zH1 d s.heap a).objs.size = s.heap.objs.size + 1 := Heap.size_push ..
  have n2 : (zH2 d e s.heap a b).objs.size = s.heap.objs.size + 2 := by rw [Heap.size_push, n1]
  have n3 : (zH3 d e s.heap a b).objs.size = s.heap.objs.size + 3 := by rw [Heap.size_push, n2]
  have n4 : (zH4 d e s.heap a b).objs.size = s.heap.objs.size + 4 := by rw [Heap.size_push, n3]
  have z5 : (zH5 d e s.heap a b).get? (zH4 d e s.heap a b).objs.size = some _ := Heap.get?_push_size _ rfl
  have z4 : (zH5 d e s.heap a b).get? (zH3 d e s.heap a b).objs.size = some _ := Heap.get?_push_of_some _ (Heap.get?_push_size _ rfl)
  have z3 : (zH5 d e s.heap a b).get? (zH2 d e s.heap a b).objs.size = some _ := Heap.get?_push_of_some _ (Heap.get?_push_of_some _ (Heap.get?_push_size _ rfl))
  have z2 : (zH5 d e s.heap a b).get? (zH1 d s.heap a).objs.size = some _ := Heap.get?_push_of_some _ (Heap.get?_push_of_some _ (Heap.get?_push_of_some _ (Heap.get?_push_size _ rfl)))
  have z1 : (zH5 d e s.heap a b).get? s.heap.objs.size = some _ := Heap.get?_push_of_some _ (Heap.get?_push_of_some _ (Heap.get?_push_of_some _ (Heap.get?_push_of_some _ (Heap.get?_push_size _ rfl))))
  show _ ∧ _
  rw [n2, n3, n4] at z5
  rw [n1, n2] at z3
  rw [n3] at z4
  rw [n1] at z2
  rw [n4]
  refine ⟨⟨_, z5, rfl⟩, h _ ⟨z5, z3, ⟨_, _, z4⟩, Kd.newIt z1, Kd.newIt z2⟩ fun c o q => ?_⟩
  exact Heap.get?_push_of_some _ (Heap.get?_push_of_some _ (Heap.get?_push_of_some _ (Heap.get?_push_of_some _ (Heap.get?_push_of_some _ q))))
/-- the two as they stand at each turn, the items in new pairs -/
def ItzK (K : PySem.W.Frag) (d e : Kd) (a b : Addr) : L2.It :=
  ⟨fun i H => ∃ (xs ys : List V) (x y : V), d.Vw K H a xs ∧ e.Vw K H b ys ∧ xs[i]? = some x ∧ ys[i]? = some y,
    fun i H v H' => ∃ T x y, v = .ref T ∧ H T = none ∧ H' = upd H T (.tup [x, y]) ∧ (∀ xs, d.Vw K H a xs → xs[i]? = some x) ∧ ∀ ys, e.Vw K H b ys → ys[i]? = some y,
    fun i H => ∃ xs ys : List V, d.Vw K H a xs ∧ e.Vw K H b ys ∧ (xs.length ≤ i ∨ ys.length ≤ i)⟩
section
variable {X : Cx} {pins : List (Addr × Obj)} {σ : L2.St} {H : Hp} {s : Shared}
theorem Kd.at_ {d : Kd} {a : Addr} {xs : List V} (I : Inv X pins σ H s) (h : d.Vw X.K H a xs) : ∃ its : List Value, Vals xs its ∧ d.Sq s.heap a its.toArray := by
  cases d with
  | l =>
    obtain ⟨its, rv, q, _⟩ := I.list h
    exact ⟨its, rv, q.isList⟩
  | t =>
    obtain ⟨its, rv, q, _⟩ := I.tuple h
    exact ⟨its, rv, q⟩
theorem Kd.inj {d : Kd} {a : Addr} {xs ys : List V} (I : Inv X pins σ H s) (h : d.Vw X.K H a xs) (h' : d.Vw X.K H a ys) : xs = ys := by
  cases d with
  | l => exact I.list_inj h h'
  | t => exact I.tuple_inj h h'
end
theorem turn_zipK {P : Program} {w : World} {K : PySem.W.Frag} {elts : List Expr} {kk : Nat} {tpos : Pos} {d e : Kd} {a b z p r i j : Addr} (D : ZipApart z p r i j a b) :
    Turn P w K (.Tuple elts kk tpos) (ItzK K d e a b) [z, p, r, i, j] z (fun k h => ZipSt d e h z p r i j a b k) where
  mem := List.mem_cons_self ..
  obj := fun k h st c hc => by
    obtain ⟨z0, p0, ⟨x0, y0, r0⟩, i0, j0⟩ := st
    have hc' : c = z ∨ c = p ∨ c = r ∨ c = i ∨ c = j := by simpa using hc
    rcases hc' with q | q | q | q | q
    · rw [q]; exact ⟨_, z0, fun v q => nomatch q⟩
    · rw [q]; exact ⟨_, p0, fun v q => nomatch q⟩
    · rw [q]; exact ⟨_, r0, fun v q => nomatch q⟩
    · rw [q]; exact i0.obj
    · rw [q]; exact j0.obj
  keep := fun k h h' st kp => by
    obtain ⟨z0, p0, ⟨x0, y0, r0⟩, i0, j0⟩ := st
    exact ⟨kp z (by simp) _ z0, kp p (by simp) _ p0, ⟨x0, y0, kp r (by simp) _ r0⟩, i0.to fun o q => kp i (by simp) o q, j0.to fun o q => kp j (by simp) o q⟩
  item := by
    intro X hP hw hK hc k pins s σ H E I hf st hg
    subst hP hw hK
    obtain ⟨xs, ys, x, y, vx, vy, hx, hy⟩ := hg
    obtain ⟨us, ru, qu⟩ := Kd.at_ I vx
    obtain ⟨ws, rw', qw⟩ := Kd.at_ I vy
    obtain ⟨u, hu, r1⟩ := ru.get hx
    obtain ⟨u2, hu2, r2⟩ := rw'.get hy
    have lt : ∀ c, c ∈ [z, p, r, i, j] → c < s.heap.objs.size := fun c hcm => by
      have hc' : c = z ∨ c = p ∨ c = r ∨ c = i ∨ c = j := by simpa using hcm
      obtain ⟨x1, y1, r0⟩ := st.r
      rcases hc' with q | q | q | q | q
      · rw [q]; exact Heap.lt_size st.z
      · rw [q]; exact Heap.lt_size st.p
      · rw [q]; exact Heap.lt_size r0
      · rw [q]; obtain ⟨o, e1, _⟩ := st.i.obj; exact Heap.lt_size e1
      · rw [q]; obtain ⟨o, e1, _⟩ := st.j.obj; exact Heap.lt_size e1
    refine next_item D st qu qw (x := u) (y := u2) (by simpa using hu) (by simpa using hu2) fun h' z1 rr i1 j1 new _ keep => ?_
    refine ⟨_, rfl, wpAny_letOwnedTupleGo_zip (s := { s with heap := h' }) z1 fun h2 z2 sb => ?_⟩
    have new2 : h2.get? s.heap.objs.size = some { cls := .type "tuple", data := .seq #[u, u2] } := (sb.2 _ (Nat.ne_of_gt (lt z (by simp)))).trans new
    have ok : ObjOk X.prog X.w (upd H s.heap.objs.size (.tup [x, y])) h2 s.heap.objs.size (.tup [x, y]) :=
      ⟨by show 2 ≤ sizeLine; decide, [u, u2], .cons r1 (.cons r2 .nil), ⟨_, new2, rfl, _, rfl⟩⟩
    have I1 : Inv X pins σ (upd H s.heap.objs.size (.tup [x, y])) { s with heap := h2 } :=
      I.turnedNew (t' := s.toks) (ch := [z, p, r, i, j]) (fun c o no q => by
        have no' : c ≠ z ∧ c ≠ p ∧ c ≠ r ∧ c ≠ i ∧ c ≠ j := by simpa using no
        exact (sb.2 c no'.1).trans (keep c o no'.1 no'.2.2.1 no'.2.2.2.1 no'.2.2.2.2 q)) hf (Nat.le_refl _) ok
    refine ⟨.ref s.heap.objs.size, _, I1, rfl, ⟨_, x, y, rfl, I.hok.fresh (Nat.le_refl _), rfl, fun l hl => by rw [Kd.inj I hl vx]; exact hx, fun l hl => by rw [Kd.inj I hl vy]; exact hy⟩, ⟨z2, ?_, ⟨u, u2, ?_⟩, ?_, ?_⟩, fun c hcm => ?_⟩
    · exact (sb.2 _ D.TIz).trans (keep _ _ D.TIz D.TITO D.TIi1 D.TIi2 st.p)
    · exact (sb.2 _ D.TOz).trans rr
    · exact i1.to fun o q => (sb.2 _ D.i1z).trans q
    · exact j1.to fun o q => (sb.2 _ D.i2z).trans q
    · rw [upd_ne (Nat.ne_of_lt (lt c hcm))]
      exact (hf c hcm).1
  done := by
    intro X hP hw hK hc k pins s σ H E I hf st hg
    subst hP hw hK
    obtain ⟨xs, ys, vx, vy, hend⟩ := hg
    obtain ⟨us, ru, qu⟩ := Kd.at_ I vx
    obtain ⟨ws, rw', qw⟩ := Kd.at_ I vy
    have n1 := ru.length
    have n2 := rw'.length
    have he : us.toArray[k]? = none ∨ ws.toArray[k]? = none := by
      rcases hend with q | q
      · exact .inl (by simp; omega)
      · exact .inr (by simp; omega)
    exact next_stop (I.ok.hd hc) D st qu qw he fun h' keep => ⟨rfl, I.turnedL (t' := s.toks) (ch := [z, p, r, i, j]) (fun c o no q => by
      have no' : c ≠ z ∧ c ≠ p ∧ c ≠ r ∧ c ≠ i ∧ c ≠ j := by simpa using no
      exact keep c o no'.1 no'.2.2.1 no'.2.2.2.1 no'.2.2.2.2 q) hf⟩
  self := fun A i s Q E st h => wpAny_pyIter_zip st.z h
def tZipK (K : PySem.W.Frag) (ta : TA) : TI := fun σ H R => ta σ H fun vs H1 => ∃ (d e : Kd) (a b : Addr) (xs ys : List V), vs = [.ref a, .ref b] ∧ d.Vw K H1 a xs ∧ e.Vw K H1 b ys ∧ R (ItzK K d e a b) H1
theorem pi_zipK {X : Cx} {e1 e2 : Expr} {ta : TA} {p pos tpos : Pos} {elts : List Expr} {kk : Nat} (hg : Gl X "zip") (hm : X.mg "zip" = none) (ha : PA X [e1, e2] ta)
    (hs : starEach [e1, e2] X.env = (false, eval e1 X.env) :: starEach [e2] X.env := by rfl) (hpl : (backTo pos (starEach [e2] X.env)).any (·.1) = false := by rfl) :
    PI X (.Tuple elts kk tpos) (.Call (.Name "zip" p) [e1, e2] [] pos) (tZipK X.K ta) := by
  refine ⟨fun pins s σ H R I h => ?_⟩
  refine Call_ (ld_blt I hg hm PyProof.Rows.boot_zip (PyProof.Rows.callWith_type1 (thn (ha.run pos pins s σ H _ I h) fun us s1 ⟨vs, H1, I1, r1, q1⟩ => ?_) hs hpl))
  obtain ⟨d, e, a, b, xs, ys, ex, vx, vy, q⟩ := q1
  subst ex
  cases r1 with
  | cons ra rr =>
    cases rr with
    | cons rb rr =>
      cases rr
      cases ra
      cases rb
      obtain ⟨ws, _, qa⟩ := Kd.at_ I1 vx
      obtain ⟨ws2, _, qb⟩ := Kd.at_ I1 vy
      refine call_zipK qa qb fun h' st keep => wpAny_pyIter_zip st.z ?_
      refine ⟨s1.heap.objs.size + 4, [s1.heap.objs.size + 4, s1.heap.objs.size + 2, s1.heap.objs.size + 3, s1.heap.objs.size, s1.heap.objs.size + 1], _, _, H1, rfl, I1.kept (t' := s1.toks) keep, turn_zipK (PySem.W.ktu_apart s1.heap.objs.size a b qa.lt qb.lt), st, fun c hcm => ?_, q⟩
      have hle : s1.heap.objs.size ≤ c := by
        have hc' : c = s1.heap.objs.size + 4 ∨ c = s1.heap.objs.size + 2 ∨ c = s1.heap.objs.size + 3 ∨ c = s1.heap.objs.size ∨ c = s1.heap.objs.size + 1 := by simpa using hcm
        rcases hc' with q | q | q | q | q <;> rw [q] <;> first | exact Nat.le_add_right _ _ | exact Nat.le_refl _
      exact I1.fpOk hle (I1.hok.fresh hle)
end TL

set_option Elab.async false
set_option linter.all false
set_option maxRecDepth 100000
set_option maxHeartbeats 1000000
/-! TM2: more that is walked: zip, enumerate, reversed, range with a step. -/
namespace TL
open PySem PySem.Spec PyProof.Rows L2
def seqC (x : PV) (S : Store) : Option (Kd × List PV × Chk) := match x with
  | .tup xs => some (.t, xs, [])
  | .kup xs => some (.t, xs, [])
  | .rol xs => some (.l, xs, [])
  | .obj i => match S[i]? with
    | some (.lst xs) => some (.l, xs, [(i, .lst xs)])
    | _ => none
  | _ => none
section
variable {K : PySem.W.Frag} {mg : Str → Option Value}
theorem seqC_ok {m : Mp} {S : Store} {H : Hp} {x : PV} {v : V} {d : Kd} {xs : List PV} {ck : Chk} (rel : Rel K mg m S H) (r : RV K S.length m H x v) (h : seqC x S = some (d, xs, ck)) :
    ∃ p, v = .ref p ∧ ∀ (m' : Mp) (S' : Store) (H' : Hp), Ext K S.length m H m' H' → S.length ≤ S'.length → Rel K mg m' S' H' → chk ck S' → ∃ vs, d.Vw K H' p vs ∧ Rps K m' H' xs vs ∧ bnds S'.length xs = true := by
  unfold seqC at h
  cases x with
  | tup zs =>
    cases h
    obtain ⟨b, p, vs, rfl, h1, h2⟩ := r
    exact ⟨p, rfl, fun m' S' H' e l _ _ => ⟨vs, SqT.of (e.tu _ _ h1), h2.ext e _ _ b, bnds_mono l _ b⟩⟩
  | kup zs =>
    cases h
    obtain ⟨b, p, vs, rfl, h1, h2⟩ := r
    exact ⟨p, rfl, fun m' S' H' e l _ _ => ⟨vs, (e.e0.fk _ _ h1).t, h2.ext e _ _ b, bnds_mono l _ b⟩⟩
  | rol zs =>
    cases h
    obtain ⟨b, p, vs, rfl, h1, h2⟩ := r
    exact ⟨p, rfl, fun m' S' H' e l _ _ => ⟨vs, (e.fz _ _ h1).l, h2.ext e _ _ b, bnds_mono l _ b⟩⟩
  | obj i =>
    have ev : v = .ref (m i) := r.2
    subst ev
    simp only at h
    cases e : S[i]? with
    | none => rw [e] at h; cases h
    | some o =>
      rw [e] at h
      cases o with
      | lst zs =>
        cases h
        refine ⟨m i, rfl, fun m' S' H' ex l r' c => ?_⟩
        have hi := (List.getElem?_eq_some_iff.mp e).1
        obtain ⟨b, vs, h1, h2⟩ := r'.lst (c _ (List.mem_cons_self ..))
        rw [ex.mi i hi] at h1
        exact ⟨vs, SqL.of h1, h2, b⟩
      | _ => cases h
  | _ => cases h
def zipP (xs ys : List PV) : List PV := (xs.zip ys).map fun p => .tup [p.1, p.2]
theorem zipP_len (xs ys : List PV) : (zipP xs ys).length = min xs.length ys.length := by unfold zipP; simp
theorem zipP_get {xs ys : List PV} {i : Nat} {x y : PV} (h1 : xs[i]? = some x) (h2 : ys[i]? = some y) : (zipP xs ys)[i]? = some (.tup [x, y]) := by
  unfold zipP
  rw [List.getElem?_map, (List.getElem?_zip_eq_some (z := (x, y))).mpr ⟨h1, h2⟩]
  rfl
theorem chk_app {a b : Chk} {S : Store} (h : chk (a ++ b) S) : chk a S ∧ chk b S := ⟨fun p hp => h p (List.mem_append_left _ hp), fun p hp => h p (List.mem_append_right _ hp)⟩
theorem itR_zip {m : Mp} {S : Store} {H : Hp} {x y : PV} {v u : V} {d e : Kd} {xs ys : List PV} {ck ck2 : Chk} (rel : Rel K mg m S H) (rx : RV K S.length m H x v) (ry : RV K S.length m H y u) (hx : seqC x S = some (d, xs, ck)) (hy : seqC y S = some (e, ys, ck2)) :
    ∃ p q ps qs, v = .ref p ∧ u = .ref q ∧ (chk (ck ++ ck2) S → d.Vw K H p ps ∧ e.Vw K H q qs) ∧ ItR K mg (ItzK K d e p q) (zipP xs ys) (ck ++ ck2) S.length m H := by
  obtain ⟨p, rfl, hp⟩ := seqC_ok rel rx hx
  obtain ⟨q, rfl, hq⟩ := seqC_ok rel ry hy
  by_cases hc : chk (ck ++ ck2) S
  · obtain ⟨c1, c2⟩ := chk_app hc
    obtain ⟨vs, v1, _⟩ := hp m S H Ext.refl (Nat.le_refl _) rel c1
    obtain ⟨us, u1, _⟩ := hq m S H Ext.refl (Nat.le_refl _) rel c2
    refine ⟨p, q, vs, us, rfl, rfl, fun _ => ⟨v1, u1⟩, fun m' S' H' ex l r c => ?_, fun i m' S' H' ex l r c hi => ?_, fun i m' S' H' w H'' ex l r c hi yl => ?_⟩
    · obtain ⟨c1, c2⟩ := chk_app c
      obtain ⟨vs, v1, r1, _⟩ := hp m' S' H' ex l r c1
      obtain ⟨us, u1, r2, _⟩ := hq m' S' H' ex l r c2
      refine ⟨vs, us, v1, u1, ?_⟩
      have := r1.length
      have := r2.length
      rw [zipP_len]
      omega
    · obtain ⟨c1, c2⟩ := chk_app c
      obtain ⟨vs, v1, r1, _⟩ := hp m' S' H' ex l r c1
      obtain ⟨us, u1, r2, _⟩ := hq m' S' H' ex l r c2
      rw [zipP_len] at hi
      have := r1.length
      have := r2.length
      exact ⟨vs, us, vs[i]'(by omega), us[i]'(by omega), v1, u1, by simp, by simp⟩
    · obtain ⟨c1, c2⟩ := chk_app c
      obtain ⟨vs, v1, r1, b1⟩ := hp m' S' H' ex l r c1
      obtain ⟨us, u1, r2, b2⟩ := hq m' S' H' ex l r c2
      obtain ⟨T, x', y', rfl, hT, rfl, f1, f2⟩ := yl
      obtain ⟨a, ea, ra⟩ := r1.get' (f1 _ v1)
      obtain ⟨b, eb, rb⟩ := r2.get' (f2 _ u1)
      have e0 : Ext K S'.length m' H' m' (upd H' T (.tup [x', y'])) := ext_new hT fun _ _ => rfl
      have ba := bnds_get b1 ea
      have bb := bnds_get b2 eb
      refine ⟨.tup [a, b], zipP_get ea eb, e0, r.newT hT, ⟨Bool.and_eq_true_iff.mpr ⟨ba, Bool.and_eq_true_iff.mpr ⟨bb, rfl⟩⟩, T, [x', y'], rfl, upd_same, x', [y'], rfl, ra.ext e0 _ _ ba, y', [], rfl, rb.ext e0 _ _ bb, rfl⟩, fun D hD => upd_ne fun z => hD (by rw [z]; exact hT)⟩
  · refine ⟨p, q, [], [], rfl, rfl, fun z => absurd z hc, ?_⟩
    exact ⟨fun m' S' H' ex l r c => by
      obtain ⟨c1, c2⟩ := chk_app c
      obtain ⟨vs, v1, r1, _⟩ := hp m' S' H' ex l r c1
      obtain ⟨us, u1, r2, _⟩ := hq m' S' H' ex l r c2
      refine ⟨vs, us, v1, u1, ?_⟩
      have := r1.length
      have := r2.length
      rw [zipP_len]
      omega, fun i m' S' H' ex l r c hi => by
      obtain ⟨c1, c2⟩ := chk_app c
      obtain ⟨vs, v1, r1, _⟩ := hp m' S' H' ex l r c1
      obtain ⟨us, u1, r2, _⟩ := hq m' S' H' ex l r c2
      rw [zipP_len] at hi
      have := r1.length
      have := r2.length
      exact ⟨vs, us, vs[i]'(by omega), us[i]'(by omega), v1, u1, by simp, by simp⟩, fun i m' S' H' w H'' ex l r c hi yl => by
      obtain ⟨c1, c2⟩ := chk_app c
      obtain ⟨vs, v1, r1, b1⟩ := hp m' S' H' ex l r c1
      obtain ⟨us, u1, r2, b2⟩ := hq m' S' H' ex l r c2
      obtain ⟨T, x', y', rfl, hT, rfl, f1, f2⟩ := yl
      obtain ⟨a, ea, ra⟩ := r1.get' (f1 _ v1)
      obtain ⟨b, eb, rb⟩ := r2.get' (f2 _ u1)
      have e0 : Ext K S'.length m' H' m' (upd H' T (.tup [x', y'])) := ext_new hT fun _ _ => rfl
      have ba := bnds_get b1 ea
      have bb := bnds_get b2 eb
      exact ⟨.tup [a, b], zipP_get ea eb, e0, r.newT hT, ⟨Bool.and_eq_true_iff.mpr ⟨ba, Bool.and_eq_true_iff.mpr ⟨bb, rfl⟩⟩, T, [x', y'], rfl, upd_same, x', [y'], rfl, ra.ext e0 _ _ ba, y', [], rfl, rb.ext e0 _ _ bb, rfl⟩, fun D hD => upd_ne fun z => hD (by rw [z]; exact hT)⟩⟩
end
open Classical in
noncomputable def iZipP (ca cb : CE PV) : CE (List PV × Chk) := fun ρ S => (ca ρ S).bind fun x S1 => (cb ρ S1).bind fun y S2 => match seqC x S2, seqC y S2 with
  | some (_, xs, ck), some (_, ys, ck2) => if chk (ck ++ ck2) S2 then .ok (zipP xs ys, ck ++ ck2) S2 else .stuck
  | _, _ => .stuck
section
variable {X : Cx} {W : WX} {p pos tpos : Pos} {a b : Expr} {ca cb : CE PV} {elts : List Expr} {kk : Nat} {tg : Expr}
theorem di_zip (hm : X.mg "zip" = none) (ha : DE X W a ca) (hb : DE X W b cb) (hg : Gl X "zip" := by rfl) (hs : starEach [a, b] X.env = (false, eval a X.env) :: starEach [b] X.env := by rfl) (hs2 : starEach [b] X.env = (false, eval b X.env) :: starEach [] X.env := by rfl)
    (hpl : (backTo pos (starEach [b] X.env)).any (·.1) = false := by rfl) : DI X W (.Tuple elts kk tpos) (.Call (.Name "zip" p) [a, b] [] pos) (iZipP ca cb) := by
  refine pi_imp (pi_zipK hg hm (pa_cons ha (pa_cons hb pa_nil hs2) hs) hs hpl) fun σ H R h => ?_
  obtain ⟨m, S, ρ, at_, fin⟩ := h
  refine ⟨m, S, ρ, at_, (Fin.bind at_ fin).mono fun v H1 h1 => ?_⟩
  obtain ⟨m1, S1, x, at1, r1, e1, l1, f1⟩ := h1
  refine ⟨m1, S1, ρ, at1, (Fin.bind at1 f1).mono fun u H2 h2 => ?_⟩
  obtain ⟨m2, S2, y, at2, r2, e2, l2, f2⟩ := h2
  have rx := stbV e2 l2 r1
  cases hx : seqC x S2 with
  | none => simp only [hx] at f2; exact f2.elim
  | some t1 =>
    obtain ⟨d, xs, ck⟩ := t1
    cases hy : seqC y S2 with
    | none => simp only [hx, hy] at f2; exact f2.elim
    | some t2 =>
      obtain ⟨e, ys, ck2⟩ := t2
      simp only [hx, hy] at f2
      by_cases hc : chk (ck ++ ck2) S2
      · rw [if_pos hc] at f2
        obtain ⟨p, q, ps, qs, rfl, rfl, hv, it⟩ := itR_zip at2.rel rx r2 hx hy
        obtain ⟨v1, v2⟩ := hv hc
        exact ⟨d, e, p, q, ps, qs, rfl, v1, v2, f2.here at2.rel it⟩
      · rw [if_neg hc] at f2
        exact f2.elim
/-! ### enumerate, reversed, range with a step -/
def enumP (xs : List PV) : List PV := xs.zipIdx.map fun p => .tup [.int (p.2 : Nat), p.1]
theorem enumP_len (xs : List PV) : (enumP xs).length = xs.length := by unfold enumP; simp
theorem enumP_get {xs : List PV} {i : Nat} {x : PV} (h : xs[i]? = some x) : (enumP xs)[i]? = some (.tup [.int (i : Nat), x]) := by
  unfold enumP
  rw [List.getElem?_map, List.getElem?_zipIdx, h]
  simp
def iEnumP (c : CE PV) : CE (List PV × Chk) := fun ρ S => (c ρ S).bind fun x S1 => match seqC x S1 with
  | some (.l, xs, ck) => .ok (enumP xs, ck) S1
  | _ => .stuck
theorem di_enum (hm : X.mg "enumerate" = none) (ha : DE X W a ca) (hg : Gl X "enumerate" := by rfl) (hs : starEach [a] X.env = [(false, eval a X.env)] := by rfl) (hs2 : starEach [a] X.env = (false, eval a X.env) :: starEach [] X.env := by rfl) :
    DI X W (.Tuple elts kk tpos) (.Call (.Name "enumerate" p) [a] [] pos) (iEnumP ca) := by
  refine pi_imp (pi_enum hg hm (pa_cons ha pa_nil hs2) hs) fun σ H R h => ?_
  obtain ⟨m, S, ρ, at_, fin⟩ := h
  refine ⟨m, S, ρ, at_, (Fin.bind at_ fin).mono fun v H1 h1 => ?_⟩
  obtain ⟨m1, S1, x, at1, r1, e1, l1, f1⟩ := h1
  dsimp only at f1
  cases hx : seqC x S1 with
  | none => rw [hx] at f1; exact f1.elim
  | some t1 =>
    obtain ⟨d, xs, ck⟩ := t1
    rw [hx] at f1
    cases d with
    | t => exact f1.elim
    | l =>
      obtain ⟨q, rfl, hq⟩ := seqC_ok at1.rel r1 hx
      have c0 : chk ck S1 := by
        unfold seqC at hx
        cases x with
        | rol z => cases hx; exact chk_nil _
        | obj i =>
          simp only at hx
          split at hx
          · rename_i e
            cases hx
            exact chk_one e
          · cases hx
        | _ => cases hx
      obtain ⟨vs, v1, _⟩ := hq m1 S1 H1 Ext.refl (Nat.le_refl _) at1.rel c0
      refine ⟨q, vs, rfl, v1, f1.here at1.rel ⟨fun m' S' H' ex l r c => ?_, fun i m' S' H' ex l r c hi => ?_, fun i m' S' H' w H'' ex l r c hi yl => ?_⟩⟩
      · obtain ⟨us, u1, r1, _⟩ := hq m' S' H' ex l r c
        exact ⟨us, u1, by rw [r1.length]; show _ ≤ (enumP xs).length; rw [enumP_len]; exact Nat.le_refl _⟩
      · obtain ⟨us, u1, r1, _⟩ := hq m' S' H' ex l r c
        have hi' : i < xs.length := by rw [← enumP_len xs]; exact hi
        exact ⟨us, us[i]'(by rw [r1.length]; exact hi'), u1, by simp⟩
      · obtain ⟨us, u1, r1, b1⟩ := hq m' S' H' ex l r c
        obtain ⟨T, x', rfl, hT, rfl, f1'⟩ := yl
        obtain ⟨z, ez, rz⟩ := r1.get' (f1' _ u1)
        have e0 : Ext X.K S'.length m' H' m' (upd H' T (.tup [.int (i : Nat), x'])) := ext_new hT fun _ _ => rfl
        have bz := bnds_get b1 ez
        have bb : bnds S'.length [.int (i : Nat), z] = true := by simp [bnds, bnd, bz]
        exact ⟨.tup [.int (i : Nat), z], enumP_get ez, e0, r.newT hT, ⟨bb, T, [.int (i : Nat), x'], rfl, upd_same, _, [x'], rfl, rfl, x', [], rfl, rz.ext e0 _ _ bz, rfl⟩, fun D hD => upd_ne fun z => hD (by rw [z]; exact hT)⟩
end
end TL

set_option Elab.async false
set_option linter.all false
set_option maxRecDepth 100000
set_option maxHeartbeats 1000000
/-! TM3: slices with a step, of lists. -/
namespace TL
open PySem PySem.Spec PyProof.Rows L2
def pickP {α : Type} (xs : List α) (lo hi st : Option Int) : List α := (sliceRange (sliceBounds lo hi st xs.length).1 (sliceBounds lo hi st xs.length).2.1 (sliceBounds lo hi st xs.length).2.2).filterMap (xs[·]?)
theorem slicePick_eq (its : List Value) (lo hi st : Option Int) : slicePick its.toArray lo hi st = (pickP its lo hi st).toArray := by
  unfold slicePick pickP
  simp
theorem vals_picks {xs : List V} {its : List Value} (h : Vals xs its) : ∀ l : List Nat, Vals (l.filterMap (xs[·]?)) (l.filterMap (its[·]?))
  | [] => .nil
  | i :: l => by
    have ih := vals_picks h l
    by_cases hi : i < xs.length
    · obtain ⟨u, e, r⟩ := h.get (List.getElem?_eq_getElem hi)
      rw [List.filterMap_cons_some (List.getElem?_eq_getElem hi), List.filterMap_cons_some e]
      exact .cons r ih
    · have hl := h.length
      rw [List.filterMap_cons_none (List.getElem?_eq_none (by omega)), List.filterMap_cons_none (List.getElem?_eq_none (by omega))]
      exact ih
theorem vals_pick {xs : List V} {its : List Value} (h : Vals xs its) (lo hi st : Option Int) : Vals (pickP xs lo hi st) (pickP its lo hi st) := by
  unfold pickP
  rw [h.length]
  exact vals_picks h _
theorem pickP_len (xs : List V) {its : List Value} (h : Vals xs its) (lo hi st : Option Int) : (pickP xs lo hi st).length ≤ xs.length := by
  have e := (vals_pick h lo hi st).length
  have z := slicePick_size_le its.toArray lo hi st
  rw [slicePick_eq, List.size_toArray, List.size_toArray, ← e, ← h.length] at z
  exact z
theorem rps_picks {K : PySem.W.Frag} {m : Mp} {H : Hp} {n : Nat} {xs : List PV} {vs : List V} (b : bnds n xs = true) (h : Rps K m H xs vs) : ∀ l : List Nat, Rps K m H (l.filterMap (xs[·]?)) (l.filterMap (vs[·]?)) ∧ bnds n (l.filterMap (xs[·]?)) = true
  | [] => ⟨rfl, rfl⟩
  | i :: l => by
    obtain ⟨i1, i2⟩ := rps_picks b h l
    by_cases hi : i < xs.length
    · obtain ⟨u, e, r⟩ := h.get (List.getElem?_eq_getElem hi)
      rw [List.filterMap_cons_some (List.getElem?_eq_getElem hi), List.filterMap_cons_some e]
      exact ⟨⟨_, _, rfl, r, i1⟩, Bool.and_eq_true_iff.mpr ⟨bnds_get b (List.getElem?_eq_getElem hi), i2⟩⟩
    · have hl := h.length
      rw [List.filterMap_cons_none (List.getElem?_eq_none (by omega)), List.filterMap_cons_none (List.getElem?_eq_none (by omega))]
      exact ⟨i1, i2⟩
def tSlc (K : PySem.W.Frag) (te : TE) (tl th ts : TO) : TE := fun σ H Q => te σ H fun x H1 => tl σ H1 fun l H2 => th σ H2 fun u H3 => ts σ H3 fun c H4 => ∃ a xs, x = .ref a ∧ SqL K H4 a xs ∧ c ≠ some 0 ∧ ∀ p, H4 p = none → Q (.ref p) (upd H4 p (.lst (pickP xs l u c)))
theorem pe_slc {X : Cx} {e c : Expr} {lo hi : Option Expr} {te : TE} {tl th ts : TO} {p2 pos : Pos} (he : PE X e te) (hl : L2.PO X lo tl) (hu : L2.PO X hi th) (hc : L2.PO X (some c) ts) : PE X (.Subscript e (.Slice lo hi (some c) p2) pos) (tSlc X.K te tl th ts) := by
  refine ⟨fun pins s σ H Q I h => ?_⟩
  refine Subscript_ (thn (he.run pins s σ H _ I h) fun v s1 ⟨x, H1, I1, r1, q1⟩ => ?_)
  refine wpAny_Slice (thn (hl.run pins s1 σ H1 _ I1 q1) fun vl s2 ⟨l, H2, I2, pl, q2⟩ => thn (hu.run pins s2 σ H2 _ I2 q2) fun vu s3 ⟨u, H3, I3, pu, q3⟩ => thn (hc.run pins s3 σ H3 _ I3 q3) fun vc s4 ⟨d, H4, I4, pc, q4⟩ => ?_)
  obtain ⟨a, xs, rfl, hx, hd, q⟩ := q4
  have ev : v = Value.ref a := r1
  subst ev
  have I5 : Inv X pins σ H4 { s4 with heap := s4.heap.push { cls := .type "slice", data := .fields #[vl, vu, vc] } } := I4.kept (t' := s4.toks) fun b ob q => Heap.get?_push_of_some _ q
  obtain ⟨its, r, ht, hz⟩ := I5.list hx
  have hlen := r.length
  have ty : ({ s4 with heap := s4.heap.push { cls := .type "slice", data := .fields #[vl, vu, vc] } } : Shared).TypeIs (.ref a) "list" := ht.isList.typeIs
  refine tail_any (ops := [.ref a, .ref s4.heap.objs.size]) ty slot_list_getitem.lookup ?_ (by with_unfolding_all rfl)
  refine wpAny_getItem_list_slice ht.isList (Heap.IsSliceOf.new ..) pl pu pc hd ?_ (by rw [List.size_toArray] <;> omega)
  rw [slicePick_eq]
  generalize hs : ({ s4 with heap := s4.heap.push { cls := .type "slice", data := .fields #[vl, vu, vc] } } : Shared) = s5 at *
  refine ⟨.ref s5.heap.objs.size, _, I5.laid (t' := s5.toks) (o := .lst (pickP xs l u d)) (fun b ob q => Heap.get?_push_of_some _ q) (Nat.le_refl _) ?_, rfl, q _ (I5.hok.fresh (Nat.le_refl _))⟩
  exact ⟨Nat.le_trans (pickP_len xs r l u d) hz, _, 0, vals_pick r l u d, Heap.get?_push_size _ rfl⟩
def eSlc (c : CE PV) (l h s : CE (Option Int)) : CE PV := fun ρ S => (c ρ S).bind fun x S1 => (l ρ S1).bind fun lo S2 => (h ρ S2).bind fun hi S3 => (s ρ S3).bind fun st S4 => match lstOf x S4 with
  | some xs => if st ≠ some 0 then .ok (.obj S4.length) (S4 ++ [.lst (pickP xs lo hi st)]) else .stuck
  | none => .stuck
theorem de_slc {X : Cx} {W : WX} {a c : Expr} {lo hi : Option Expr} {ca : CE PV} {cl ch cc : CE (Option Int)} {p2 pos : Pos} (ha : DE X W a ca) (hl : DO X W lo cl) (hh : DO X W hi ch) (hc : DO X W (some c) cc) : DE X W (.Subscript a (.Slice lo hi (some c) p2) pos) (eSlc ca cl ch cc) :=
  pe_imp (pe_slc ha hl hh hc) fun σ H Q h => by
    obtain ⟨m, S, ρ, at_, fin⟩ := h
    refine ⟨m, S, ρ, at_, (Fin.bind at_ fin).mono fun v H1 h1 => ?_⟩
    obtain ⟨m1, S1, x, at1, r1, e1, l1, f1⟩ := h1
    refine ⟨m1, S1, ρ, at1, (Fin.bind at1 f1).mono fun l H2 h2 => ?_⟩
    obtain ⟨m2, S2, y, at2, r2, e2, l2, f2⟩ := h2
    refine ⟨m2, S2, ρ, at2, (Fin.bind at2 f2).mono fun u H3 h3 => ?_⟩
    obtain ⟨m3, S3, z, at3, r3, e3, l3, f3⟩ := h3
    refine ⟨m3, S3, ρ, at3, (Fin.bind at3 f3).mono fun d H4 h4 => ?_⟩
    obtain ⟨m4, S4, w, at4, r4, e4, l4, f4⟩ := h4
    have q2 : y = l := r2
    have q3 : z = u := r3
    have q4 : w = d := r4
    subst q2 q3 q4
    have rx : RV X.K S4.length m4 H4 x v := stbV e4 l4 (stbV e3 l3 (stbV e2 l2 r1))
    cases e : lstOf x S4 with
    | none => simp only [e] at f4; exact f4.elim
    | some xs =>
      simp only [e] at f4
      obtain ⟨b, p, vs, rfl, h1, h2⟩ := lst_ok at4.rel rx e
      by_cases hw : w ≠ some 0
      · rw [if_pos hw] at f4
        refine ⟨p, vs, rfl, h1, hw, fun t ht => ?_⟩
        obtain ⟨i1, i2⟩ := rps_picks b h2 (sliceRange (sliceBounds y z w xs.length).1 (sliceBounds y z w xs.length).2.1 (sliceBounds y z w xs.length).2.2)
        have e5 : pickP vs y z w = (sliceRange (sliceBounds y z w xs.length).1 (sliceBounds y z w xs.length).2.1 (sliceBounds y z w xs.length).2.2).filterMap (vs[·]?) := by
          unfold pickP
          rw [h2.length]
        rw [e5]
        exact f4.lst at4.rel i2 i1 ht
      · rw [if_neg hw] at f4
        exact f4.elim
theorem pick_map (ns : List Int) (lo hi st : Option Int) : pickP (ns.map PV.int) lo hi st = (pickP ns lo hi st).map PV.int := by
  unfold pickP
  rw [List.length_map, List.map_filterMap]
  congr 1
  funext i
  rw [List.getElem?_map]
end TL

set_option Elab.async false
set_option linter.all false
set_option maxRecDepth 100000
set_option maxHeartbeats 1000000
/-! TM4: sorted(d), the keys of d tuples of ints. -/
namespace TL
open PySem PySem.Spec PyProof.Rows L2

def lexLe : List Int → List Int → Bool
  | [], _ => true
  | _ :: _, [] => false
  | a :: as, b :: bs => decide (a < b) || (decide (a = b) && lexLe as bs)
theorem lexLe_cons {a b : Int} {as bs : List Int} : lexLe (a :: as) (b :: bs) = true ↔ a < b ∨ (a = b ∧ lexLe as bs = true) := by
  show (decide (a < b) || (decide (a = b) && lexLe as bs)) = true ↔ _
  simp
theorem lexLe_total : ∀ a b : List Int, (lexLe a b || lexLe b a) = true
  | [], _ => rfl
  | _ :: _, [] => rfl
  | a :: as, b :: bs => by
    rw [Bool.or_eq_true, lexLe_cons, lexLe_cons]
    have ih := lexLe_total as bs
    rw [Bool.or_eq_true] at ih
    rcases Int.lt_trichotomy a b with h | h | h
    · exact .inl (.inl h)
    · exact ih.elim (fun z => .inl (.inr ⟨h, z⟩)) fun z => .inr (.inr ⟨h.symm, z⟩)
    · exact .inr (.inl h)
theorem lexLe_trans : ∀ a b c : List Int, lexLe a b = true → lexLe b c = true → lexLe a c = true
  | [], _, _, _, _ => rfl
  | _ :: _, [], _, h, _ => nomatch h
  | _ :: _, _ :: _, [], _, h => nomatch h
  | a :: as, b :: bs, c :: cs, h1, h2 => by
    rw [lexLe_cons] at h1 h2 ⊢
    have ih := lexLe_trans as bs cs
    rcases h1 with h1 | ⟨h1, z1⟩ <;> rcases h2 with h2 | ⟨h2, z2⟩
    · exact .inl (by omega)
    · exact .inl (by omega)
    · exact .inl (by omega)
    · exact .inr ⟨by omega, ih z1 z2⟩
theorem lexLe_anti : ∀ a b : List Int, lexLe a b = true → lexLe b a = true → a = b
  | [], [], _, _ => rfl
  | [], _ :: _, _, h => nomatch h
  | _ :: _, [], h, _ => nomatch h
  | a :: as, b :: bs, h1, h2 => by
    rw [lexLe_cons] at h1 h2
    have ih := lexLe_anti as bs
    rcases h1 with h1 | ⟨h1, z1⟩ <;> rcases h2 with h2 | ⟨h2, z2⟩
    · omega
    · omega
    · omega
    · rw [h1, ih z1 z2]
theorem code_lexLe {B : Int} : ∀ a b : List Int, a.length = b.length → TS.Bd B a → TS.Bd B b → TS.code B a ≤ TS.code B b → lexLe a b = true
  | [], _, _, _, _, _ => rfl
  | _ :: _, [], h, _, _, _ => nomatch h
  | a :: as, b :: bs, hl, h1, h2, h => by
    have hl' : as.length = bs.length := by simpa using hl
    rw [lexLe_cons]
    rcases Int.lt_trichotomy a b with z | z | z
    · exact .inl z
    · subst z
      refine .inr ⟨rfl, code_lexLe as bs hl' h1.tail h2.tail ?_⟩
      have q := TS.code_same (B := B) (d := a) hl'.symm
      exact Int.not_lt.mp fun z => Int.not_lt.mpr h (q.mpr z)
    · have := TS.code_lt hl'.symm h2.tail h1.tail z
      omega
/-- the sorted keys -/
def srt (ks : List (List Int)) : List (List Int) := ks.mergeSort lexLe
theorem srt_perm (ks : List (List Int)) : (srt ks).Perm ks := List.mergeSort_perm ks lexLe
theorem srt_pw (ks : List (List Int)) : (srt ks).Pairwise (fun a b => lexLe a b = true) := List.pairwise_mergeSort lexLe_trans lexLe_total ks
theorem srt_eq {ks zs : List (List Int)} (h : zs.Perm ks) (pw : zs.Pairwise (fun a b => lexLe a b = true)) : zs = srt ks :=
  List.Perm.eq_of_pairwise (fun a b _ _ h1 h2 => lexLe_anti a b h1 h2) pw (srt_pw ks) (h.trans (srt_perm ks).symm)
theorem srt_of_perm {ks zs : List (List Int)} (h : zs.Perm ks) : srt zs = srt ks := srt_eq ((srt_perm zs).trans h) (srt_pw zs)
theorem srt_len (ks : List (List Int)) : (srt ks).length = ks.length := (srt_perm ks).length_eq
theorem srt_mem {ks : List (List Int)} {k : List Int} : k ∈ srt ks ↔ k ∈ ks := (srt_perm ks).mem_iff

theorem perm_map_ex {α β : Type} {f : α → β} {m n : List β} (p : m.Perm n) : ∀ l : List α, n = l.map f → ∃ l' : List α, l'.Perm l ∧ m = l'.map f := by
  induction p with
  | nil => intro l e; exact ⟨l, List.Perm.refl _, e⟩
  | cons x p ih =>
    intro l e
    cases l with
    | nil => cases e
    | cons y l =>
      rw [List.map_cons] at e
      injection e with e1 e2
      obtain ⟨l', p', e'⟩ := ih l e2
      exact ⟨y :: l', p'.cons y, by rw [List.map_cons, e1, e']⟩
  | swap x y l0 =>
    intro l e
    cases l with
    | nil => cases e
    | cons a l =>
      cases l with
      | nil => cases e
      | cons b l =>
        rw [List.map_cons, List.map_cons] at e
        injection e with e1 e2
        injection e2 with e2 e3
        exact ⟨b :: a :: l, List.Perm.swap a b l, by rw [List.map_cons, List.map_cons, e1, e2, e3]⟩
  | trans p1 p2 ih1 ih2 =>
    intro l e
    obtain ⟨l1, q1, e1⟩ := ih2 l e
    obtain ⟨l2, q2, e2⟩ := ih1 l1 e1
    exact ⟨l2, q2.trans q1, e2⟩

section
open TS
variable {prog : Program} {w : World} {A : Around} {E : Value → Shared → Prop} {s : Shared}
/-- list.sort of a list of tuples of ints; fewer than two may be empty ones -/
theorem sort_tups1 {a : Addr} {vs : List Value} {n d : Nat} {B : Int} {P : PySem.Fin → Shared → Prop} (ho : s.heap.get? a = some (seqObj "list" vs.toArray n)) (h64 : vs.length < 64) (hd : 2 ≤ vs.length → 1 ≤ d) (x : TupsOk s.heap d B vs)
    (r : Value → Int) (hr : ∀ v, v ∈ vs → ∀ ns, TupInts s.heap v ns → r v = code B ns)
    (h : ∀ out : Array Value, out.toList.Perm vs → out.toList.Pairwise (fun u v => r u ≤ r v) → P (.done (.ret .none)) { s with heap := sortedHeap s.heap a vs out }) :
    wpAny (model prog w) A (Builtin.«list.sort» ⟨[.ref a], []⟩) P E s := by
  have keep : ∀ b o, s.heap.get? b = some o → o.cls = .type "tuple" → (midHeap s.heap a vs).get? b = some o := fun b o e hc => by
    refine midHeap_old ?_ e
    rintro rfl
    rw [ho] at e
    have e' : seqObj "list" vs.toArray n = o := Option.some.inj e
    rw [← e'] at hc
    have c' : Value.type "list" = Value.type "tuple" := hc
    injection c' with c''
    exact absurd c'' (by decide)
  refine SK.plain_sort (r := r) ho h64 (fun h2 Q hQ => ?_) fun ps out h1 h2 h3 => ?_
  · refine kind_tups (s := { s with heap := midHeap s.heap a vs }) (hd h2) h2 (x.keeps keep) r (fun v hv ns t => ?_) Q hQ
    obtain ⟨ns0, t0, _⟩ := x v hv
    have e : ns = ns0 := t.ints.symm.trans (t0.keeps keep).ints
    rw [e]
    exact hr v hv ns0 t0
  · obtain ⟨p, o⟩ := out_rank h1 h2 h3
    exact h out p o
end
theorem ints_are : ∀ {ns : List Int} {us : List Value}, Vals ((ns.map Sum.inl).map kV) us → IntsAre us ns
  | [], _, h => by cases h; exact .nil
  | n :: ns, _, h => by
    cases h with
    | cons r t =>
      obtain ⟨tk, rfl⟩ := r
      exact .cons _ _ (ints_are t)

section
variable {X : Cx}
/-- sorted(d) of a dict whose keys are tuples of ints, all alike long -/
def rSortK : List V → Hp → VK → Prop := fun xs H Q => ∃ d kvs nss dd B, xs = [V.ref d] ∧ Rd H d (.dT kvs) ∧ kvs.map (·.1) = nss.map (fun ns => ns.map Sum.inl) ∧ nss.length < 64 ∧ (2 ≤ nss.length → 1 ≤ dd) ∧ (∀ ns ∈ nss, ns.length = dd ∧ TS.Bd B ns) ∧
  ∀ (p : Addr) (L : List (List Int × Addr)), H p = none → (L.map (·.1)).Perm nss → L.Pairwise (fun a b => TS.code B a.1 ≤ TS.code B b.1) → (∀ q ∈ L, H q.2 = some (.tup (q.1.map V.int))) → Q (.ref p) (upd H p (.lst (L.map fun q => V.ref q.2)))
theorem zip_keys {H : Hp} : ∀ {kvs : List (List Key × V)} {ks : List (List Key × Addr × Value)} {nss : List (List Int)}, Paired (fun (p : List Key × V) (q : List Key × Addr × Value) => p.1 = q.1 ∧ H q.2.1 = some (.tup (p.1.map kV)) ∧ RelV p.2 q.2.2) kvs ks →
    kvs.map (·.1) = nss.map (fun ns => ns.map Sum.inl) → ∃ L : List (List Int × Addr), L.map (·.1) = nss ∧ (ks.map fun x => Value.ref x.2.1) = L.map (fun q => Value.ref q.2) ∧ ∀ q ∈ L, H q.2 = some (.tup (q.1.map V.int))
  | [], _, nss, h, e => by
    cases h
    cases nss with
    | nil => exact ⟨[], rfl, rfl, fun q hq => nomatch hq⟩
    | cons n nss => cases e
  | p :: kvs, _, nss, h, e => by
    cases h with
    | @cons _ q _ ks h1 h2 =>
      cases nss with
      | nil => cases e
      | cons n nss =>
        rw [List.map_cons, List.map_cons] at e
        injection e with e1 e2
        obtain ⟨L, a, b, c⟩ := zip_keys h2 e2
        refine ⟨(n, q.2.1) :: L, by rw [List.map_cons, a], by rw [List.map_cons, List.map_cons, b], fun r hr => ?_⟩
        rcases List.mem_cons.mp hr with z | z
        · subst z
          have := h1.2.1
          rw [e1, List.map_map] at this
          exact this
        · exact c r z
theorem call_sortK (hcalm : X.calm = true) : CallR X (.builtin "sorted") rSortK := by
  intro pins s σ H xs us Q I r q
  obtain ⟨d, kvs, nss, dd, B, rfl, hd, hkeys, h64, hdd, hB, q⟩ := q
  obtain ⟨u, rfl, rx⟩ := r.one
  cases rx
  obtain ⟨z, hs, ks, pr, o, es, ep, ho, hx, hdt, he, hn⟩ := (show ObjOk X.prog X.w H s.heap d (.dT kvs) from hd.ok I.hok)
  have l1 : es.size = ks.length := size_of_entries he
  have l2 : kvs.length = ks.length := Paired.length pr
  obtain ⟨L, eL, evs, hL⟩ := zip_keys pr hkeys
  have lL : L.length = ks.length := by
    have e := congrArg List.length evs
    rw [List.length_map, List.length_map] at e
    exact e.symm
  have lN : nss.length = L.length := by rw [← eL, List.length_map]
  refine Calls.call_function_entry PyProof.Rows.kind_sorted PyProof.Rows.plain_sorted PyProof.Rows.entry_sorted (PyProof.Rows.args_sorted1 _) ?_
  unfold Builtin.«sorted»
  refine wpAny_bind (m := checkCount "sorted" 1 1 _) (wpAny_pure ?_)
  refine wpAny_bind (PySem.W.kdu_collect (A := X.A.in1) (kdl_raw hs hx hdt) (I.ok.hd hcalm) ho (by omega) fun h' tk acc hk it => ?_)
  have ea : acc.toList = L.map fun q => Value.ref q.2 := by
    rw [← evs]
    have hl : acc.toList.length = ks.length := by rw [Array.length_toList, it.1]; exact l1
    apply List.ext_getElem?
    intro j
    rw [List.getElem?_map]
    cases hj : acc.toList[j]? with
    | none =>
      have h1 := List.getElem?_eq_none_iff.mp hj
      rw [List.getElem?_eq_none (by omega)]
      all_goals rfl
    | some v =>
      obtain ⟨en, hen, hv⟩ := it.2 j v (by rw [← Array.getElem?_toList]; exact hj)
      have qe := entry_at he j
      rw [hen] at qe
      cases hb : ks[j]? with
      | none =>
        rw [hb] at qe
        exact nomatch (show some en = none from qe)
      | some b =>
        rw [hb] at qe
        have e2 : en = entryOfKey (tupleKind (mixKind X.prog X.w)) b := Option.some.inj qe
        rw [hv, e2]
        all_goals rfl
  have hal : acc.toList.length = L.length := by rw [ea, List.length_map]
  have I1 : Inv X pins σ H { s with heap := h', toks := tk } := I.kept hk
  refine wpAny_bind (wpAny_newList ?_ (by rw [hal, sizeLine_eq]; omega))
  have hoL : (h'.push (seqObj "list" acc.toList.toArray 0)).get? h'.objs.size = some (seqObj "list" acc.toList.toArray 0) := Heap.get?_push_size _ rfl
  have tk0 : ∀ q ∈ L, TS.TupInts (h'.push (seqObj "list" acc.toList.toArray 0)) (.ref q.2) q.1 := fun q hq => by
    obtain ⟨_, ts, rt, o, ho, hc, hd⟩ := (show ObjOk X.prog X.w H s.heap q.2 (.tup (q.1.map V.int)) from I.hok q.2 _ (hL q hq))
    refine ⟨q.2, ts.toArray, rfl, ⟨o, Heap.get?_push_of_some _ (hk _ _ ho), hc, hd⟩, ?_⟩
    have rt' : Vals ((q.1.map Sum.inl).map kV) ts := by rw [List.map_map]; exact rt
    exact ints_are rt'
  have x : TS.TupsOk (h'.push (seqObj "list" acc.toList.toArray 0)) dd B acc.toList := fun v hv => by
    rw [ea] at hv
    obtain ⟨q, hq, e⟩ := List.mem_map.mp hv
    rw [← e]
    have hm : q.1 ∈ nss := by rw [← eL]; exact List.mem_map.mpr ⟨q, hq, rfl⟩
    exact ⟨q.1, tk0 q hq, (hB _ hm).1, (hB _ hm).2⟩
  show wpAny _ _ _ _ _ { s with heap := h'.push (seqObj "list" acc.toList.toArray 0), toks := tk }
  refine wpAny_bind (wpAny_holding (wpAny_call_entry PyProof.Rows.slot_list_sort ⟨_, hoL, rfl⟩ PyProof.Rows.entry_list_sort
    (sort_tups1 (s := { s with heap := h'.push (seqObj "list" acc.toList.toArray 0), toks := tk }) (B := B) (d := dd) hoL (by omega) (fun h2 => hdd (by omega)) x
      (fun v => TS.code B (TS.intsOf (h'.push (seqObj "list" acc.toList.toArray 0)) v)) (fun v _ ns hv => congrArg (TS.code B) hv.ints) fun out a1 a2 => ⟨_, rfl, ?_⟩)
    (PyProof.Rows.args_list_sort _)))
  rw [ea] at a1
  obtain ⟨L', pL, eo⟩ := perm_map_ex a1 L rfl
  obtain ⟨e', he'⟩ := PyProof.Rows.sortedHeap_at (vs := acc.toList) (out := out) hoL
  have pw : L'.Pairwise (fun a b => TS.code B a.1 ≤ TS.code B b.1) := by
    rw [eo] at a2
    refine List.Pairwise.imp_of_mem (fun {a b} ha hb hle => ?_) (List.pairwise_map.mp a2)
    have f1 := (tk0 a (pL.mem_iff.mp ha)).ints
    have f2 := (tk0 b (pL.mem_iff.mp hb)).ints
    rw [← f1, ← f2]
    exact hle
  have hlen : (L'.map fun q => V.ref q.2).length ≤ sizeLine := by
    rw [List.length_map, pL.length_eq, sizeLine_eq]
    omega
  have rv : Vals (L'.map fun q => V.ref q.2) out.toList := by
    have e1 : (L'.map fun q => V.ref q.2) = (L'.map (·.2)).map V.ref := by rw [List.map_map]; rfl
    have e2 : out.toList = (L'.map (·.2)).map Value.ref := by rw [eo, List.map_map]; rfl
    rw [e1, e2]
    exact vals_refs _
  refine wpAny_pure ⟨_, rfl, .ref h'.objs.size, upd H h'.objs.size (.lst (L'.map fun q => V.ref q.2)), I1.laid (t' := tk) (fun b u e => ?_) (Nat.le_refl _)
    (show ObjOk X.prog X.w _ _ _ (.lst (L'.map fun q => V.ref q.2)) from ⟨hlen, out.toList, e', rv, by rw [Array.toArray_toList]; exact he'⟩), rfl,
    q _ _ (I1.hok.fresh (Nat.le_refl _)) (by rw [← eL]; exact pL.map _) pw fun q hq => hL q (pL.mem_iff.mp hq)⟩
  have hb : b < h'.objs.size := Heap.lt_size e
  rw [PyProof.Rows.sortedHeap_old (Nat.ne_of_lt hb) (by rw [size_push']; exact Nat.lt_succ_of_lt hb)]
  exact Heap.get?_push_of_some _ e
end
/-! ### in the store -/
def keyI : PV → Option (List Int)
  | .tup xs => intsOf xs
  | _ => none
def keysI : List PV → Option (List (List Int))
  | [] => some []
  | x :: xs => match keyI x, keysI xs with
    | some k, some ks => some (k :: ks)
    | _, _ => none
theorem keyI_eq {x : PV} {k : List Int} (h : keyI x = some k) : x = .tup (k.map .int) := by
  cases x with
  | tup xs => rw [intsOf_eq (show intsOf xs = some k from h)]
  | _ => cases h
theorem keysI_eq : ∀ {xs : List PV} {ks : List (List Int)}, keysI xs = some ks → xs = ks.map fun k => .tup (k.map .int)
  | [], ks, h => by cases h; rfl
  | x :: xs, ks, h => by
    unfold keysI at h
    cases e1 : keyI x with
    | none => rw [e1] at h; cases h
    | some k =>
      cases e2 : keysI xs with
      | none => rw [e1, e2] at h; cases h
      | some ks' =>
        rw [e1, e2] at h
        cases h
        rw [List.map_cons, ← keysI_eq e2, ← keyI_eq e1]
theorem keysI_map : ∀ ks : List (List Int), keysI (ks.map fun k => .tup (k.map .int)) = some ks
  | [] => rfl
  | k :: ks => by
    have h : intsOf (k.map .int) = some k := by
      induction k with
      | nil => rfl
      | cons a k ih => show (intsOf (k.map .int)).map (a :: ·) = _; rw [ih]; rfl
    show (match keyI (.tup (k.map .int)), keysI (ks.map fun k => .tup (k.map .int)) with | some k, some ks => some (k :: ks) | _, _ => none) = _
    rw [keysI_map ks, show keyI (.tup (k.map .int)) = some k from h]
/-- fewer than 64, all alike long, none below 0 -/
def okT (ks : List (List Int)) : Bool := decide (ks.length < 64) && (decide (ks.length < 2) || decide (1 ≤ (ks.headD []).length)) && ks.all (fun k => k.length == (ks.headD []).length) && ks.all fun k => k.all fun i => decide (0 ≤ i)
theorem okT_bd {ks : List (List Int)} (h : okT ks = true) : ks.length < 64 ∧ (2 ≤ ks.length → 1 ≤ (ks.headD []).length) ∧ ∃ B, ∀ k ∈ ks, k.length = (ks.headD []).length ∧ TS.Bd B k := by
  unfold okT at h
  rw [Bool.and_eq_true, Bool.and_eq_true, Bool.and_eq_true, Bool.or_eq_true] at h
  obtain ⟨⟨⟨h1, h2⟩, h3⟩, h4⟩ := h
  refine ⟨of_decide_eq_true h1, fun q => h2.elim (fun z => absurd (of_decide_eq_true z) (by omega)) of_decide_eq_true, ?_⟩
  have ex1 : ∀ k : List Int, ∃ B : Int, ∀ i ∈ k, i < B := fun k => by
    induction k with
    | nil => exact ⟨0, fun i hi => nomatch hi⟩
    | cons a k ih =>
      obtain ⟨B, hB⟩ := ih
      refine ⟨max (a + 1) B, fun i hi => ?_⟩
      rcases List.mem_cons.mp hi with z | z
      · omega
      · have := hB i z
        omega
  have ex2 : ∀ l : List (List Int), ∃ B : Int, ∀ k ∈ l, ∀ i ∈ k, i < B := fun l => by
    induction l with
    | nil => exact ⟨0, fun k hk => nomatch hk⟩
    | cons a l ih =>
      obtain ⟨B, hB⟩ := ih
      obtain ⟨C, hC⟩ := ex1 a
      refine ⟨max C B, fun k hk i hi => ?_⟩
      rcases List.mem_cons.mp hk with z | z
      · subst z
        have := hC i hi
        omega
      · have := hB k z i hi
        omega
  obtain ⟨B, hB⟩ := ex2 ks
  refine ⟨B, fun k hk => ⟨beq_iff_eq.mp (List.all_eq_true.mp h3 k hk), fun i hi => ⟨?_, hB k hk i hi⟩⟩⟩
  exact of_decide_eq_true (List.all_eq_true.mp (List.all_eq_true.mp h4 k hk) i hi)
def tups (ks : List (List Int)) : List PV := ks.map fun k => .tup (k.map .int)
def sortedV : FB := fun xs S => match xs with
  | [.obj i] => match S[i]? with
    | some (.dic _ kvs) => match keysI (kvs.map (·.1)) with
      | some ks => if okT ks = true then .ok (.obj S.length) (S ++ [.lst (tups (srt ks))]) else .stuck
      | none => .stuck
    | _ => .stuck
  | _ => .stuck
def rSortedV : List V → Hp → VK → Prop := fun xs H Q => (∃ (a : Addr) (kvs : List (Key × V)) (ks : List Str), xs = [.ref a] ∧ Rd H a (.dK kvs) ∧ kvs.map (·.1) = ks.map Sum.inr ∧ ks.length < 64 ∧
    ∀ ys p, ys.Perm ks → sortedS ys = true → H p = none → Q (.ref p) (upd H p (.lst (ys.map V.str)))) ∨ rSortK xs H Q
theorem call_sortedV {X : Cx} (hc : X.calm = true) : CallR X (.builtin "sorted") rSortedV := (call_sortedD hc).or (call_sortK hc)
section
variable {K : PySem.W.Frag} {mg : Str → Option Value}
theorem intsOf_keys : ∀ {xs : List PV} {ks : List Key} {ns : List Int}, keysOf xs = some ks → intsOf xs = some ns → ks = ns.map Sum.inl
  | [], ks, ns, h, h' => by cases h; cases h'; rfl
  | x :: xs, ks, ns, h, h' => by
    cases x with
    | int i =>
      have q : (intsOf xs).map (i :: ·) = some ns := h'
      cases e : intsOf xs with
      | none => rw [e] at q; cases q
      | some ms =>
        rw [e] at q
        cases q
        unfold keysOf at h
        cases e2 : keysOf xs with
        | none => rw [e2] at h; cases h
        | some qs =>
          rw [e2] at h
          cases h
          rw [intsOf_keys e2 e]
          rfl
    | _ => cases h'
theorem KvT.ints {m : Mp} {H : Hp} : ∀ {kvs : List (PV × PV)} {l : List (List Key × V)} {ks : List (List Int)}, KvT K m H kvs l → keysI (kvs.map (·.1)) = some ks → l.map (·.1) = ks.map fun ns => ns.map Sum.inl
  | [], l, ks, h, e => by
    have e' : l = [] := h
    subst e'
    cases e
    rfl
  | p :: ps, l, ks, h, e => by
    obtain ⟨q, r, rfl, h1, h2, h3⟩ := h
    rw [List.map_cons] at e
    unfold keysI at e
    cases e1 : keyI p.1 with
    | none => rw [e1] at e; cases e
    | some k =>
      cases e2 : keysI (ps.map (·.1)) with
      | none => rw [e1, e2] at e; cases e
      | some ks' =>
        rw [e1, e2] at e
        cases e
        rw [List.map_cons, List.map_cons, KvT.ints h3 e2]
        cases ep : p.1 with
        | tup xs =>
          rw [ep] at h1 e1
          rw [intsOf_keys (show keysOf xs = some q.1 from h1) (show intsOf xs = some k from e1)]
        | _ => rw [ep] at h1; cases h1
theorem KvK.noI {m : Mp} {H : Hp} : ∀ {kvs : List (PV × PV)} {l : List (Key × V)} {ks : List (List Int)}, KvK K m H kvs l → keysI (kvs.map (·.1)) = some ks → kvs = [] ∧ l = [] ∧ ks = []
  | [], l, ks, h, e => by
    have e' : l = [] := h
    cases e
    exact ⟨rfl, e', rfl⟩
  | p :: ps, l, ks, h, e => by
    obtain ⟨q, r, rfl, h1, h2, h3⟩ := h
    rw [List.map_cons] at e
    unfold keysI at e
    cases ep : p.1 with
    | tup xs => rw [ep] at h1; cases h1
    | _ => rw [ep] at e; cases e
theorem intsR {m : Mp} {H : Hp} : ∀ ns : List Int, Rps K m H (ns.map .int) (ns.map V.int)
  | [] => rfl
  | n :: ns => ⟨_, _, rfl, rfl, intsR ns⟩
theorem srt_rps {m : Mp} {H : Hp} : ∀ {L : List (List Int × Addr)}, (∀ q ∈ L, H q.2 = some (.tup (q.1.map V.int))) → Rps K m H (tups (L.map (·.1))) (L.map fun q => V.ref q.2)
  | [], _ => rfl
  | q :: L, h => by
    refine ⟨_, _, rfl, ⟨q.2, q.1.map V.int, rfl, h q (List.mem_cons_self ..), intsR q.1⟩, srt_rps fun r hr => h r (List.mem_cons_of_mem _ hr)⟩
theorem tups_bnd (n : Nat) : ∀ ks : List (List Int), bnds n (tups ks) = true
  | [] => rfl
  | k :: ks => by
    refine Bool.and_eq_true_iff.mpr ⟨?_, tups_bnd n ks⟩
    show bnds n (k.map .int) = true
    induction k with
    | nil => rfl
    | cons a k ih => exact Bool.and_eq_true_iff.mpr ⟨rfl, ih⟩
theorem opC_sorted : OpC K mg sortedV rSortedV := by
  intro W σ m S H xs vs Q rel ra f
  unfold sortedV at f
  split at f
  · rename_i i
    obtain ⟨v, rfl, b, ev⟩ := one_of ra
    have ev' : v = .ref (m i) := ev
    subst ev'
    split at f
    · rename_i lk kvs e
      split at f
      · rename_i ks ek
        split at f
        · rename_i hok
          obtain ⟨h64, hd, B, hB⟩ := okT_bd hok
          have go : ∀ l, Rd H (m i) (.dT l) → KvT K m H kvs l → rSortedV [.ref (m i)] H Q := fun l h1 h2 => .inr ⟨_, l, ks, _, B, rfl, h1, h2.ints ek, h64, hd, hB, fun p L hp pm pw hL => by
            have e1 : L.map (·.1) = srt ks := srt_eq pm (List.pairwise_map.mpr (List.Pairwise.imp_of_mem (fun {a b} ha hb hle => by
              have ma := pm.mem_iff.mp (List.mem_map.mpr ⟨a, ha, rfl⟩)
              have mb := pm.mem_iff.mp (List.mem_map.mpr ⟨b, hb, rfl⟩)
              exact code_lexLe a.1 b.1 ((hB _ ma).1.trans (hB _ mb).1.symm) (hB _ ma).2 (hB _ mb).2 hle) pw))
            exact f.lst rel (tups_bnd _ _) (by rw [← e1]; exact srt_rps hL) hp⟩
          have go0 : ∀ l, Rd H (m i) (.dK l) → KvK K m H kvs l → rSortedV [.ref (m i)] H Q := fun l h1 h2 => by
            obtain ⟨z1, z2, z3⟩ := KvK.noI h2 ek
            subst z2 z3
            refine .inl ⟨_, [], [], rfl, h1, rfl, by decide, fun ys p pm _ hp => ?_⟩
            have ey : ys = [] := pm.eq_nil
            subst ey
            have e0 : srt [] = [] := (srt_perm []).eq_nil
            rw [e0] at f
            exact f.lst rel rfl rfl hp
          cases lk with
          | false =>
            rcases rel.ob i _ e with ⟨l, h1, h2⟩ | ⟨l, h1, h2⟩
            · exact go0 l (.inl h1) h2
            · exact go l (.inl h1) h2
          | true =>
            rcases rel.ob i _ e with ⟨o, l, h1, h2⟩ | ⟨o, l, h1, h2⟩
            · exact go0 l (.inr ⟨o, h1⟩) h2
            · exact go l (.inr ⟨o, h1⟩) h2
        · exact f.elim
      · exact f.elim
    · exact f.elim
  · exact f.elim
end
end TL

set_option Elab.async false
set_option linter.all false
set_option maxRecDepth 100000
set_option maxHeartbeats 1000000
/-! TN1: a def that is never entered, is of truths. -/
namespace TL
open PySem PySem.Spec PyProof.Rows L2
/-- the fuel's end -/
theorem defOk_stuck {P : Program} {w : World} {K : PySem.W.Frag} {mg : Str → Option Value} {base : Heap} {k : Nat} {x qual : Str} {params : Arguments} {body : List Stmt} {scope : Scope} {fd : FuncData} {N ps : List Str}
    (F : FunD K x qual params body scope [] [] (He.ga K x) fd) (S : FnScope N ps scope)
    (hb : ∀ us : List Value, us.length = ps.length → ∀ (kV doc pm : Value) (an : Option Addr) (cdv ct : Value), bindArgs (PySem.W.fnOf x qual params body scope .none kV doc pm an cdv ct) ⟨us, []⟩ = pure (ps.zip us))
    (hm : mg x = some (.ref (He.ga K x))) : DefOk P w K mg base (k + 1) x ps (fun _ _ => .stuck) :=
  ⟨fd, F.ok S (fun vs H Q E h => by
    obtain ⟨m, S, xs, _, _, l, _⟩ := h
    exact l) (fun cdv A outer s H vs Q E hr hsp => by
    obtain ⟨m, S, xs, rel, rx, l, fin⟩ := hsp
    exact fin.elim), F.bindsN fun kV doc pm an cdv ct us hl => hb us hl kV doc pm an cdv ct, hm, F.kp⟩
/-- is True, is False -/
def isBG (g : Bool → Bool) : F2 := fun x y S => match x, y with
  | .bl a, .bl b => .ok (.bl (g (decide (a = b)))) S
  | _, _ => .stuck
abbrev isBV : F2 := isBG fun b => b
abbrev isnBV : F2 := isBG fun b => !b
theorem op2_isBG {K : PySem.W.Frag} {mg : Str → Option Value} (g : Bool → Bool) : Op2 K mg (isBG g) (fun x y H Q => ∃ a b : Bool, x = .bl a ∧ y = .bl b ∧ Q (.bl (g (decide (a = b)))) H) := by
  intro W σ m S H x y v u Q rel rx ry f
  unfold isBG at f
  cases x with
  | bl a =>
    cases y with
    | bl b => exact ⟨a, b, rx.2, ry.2, f.here rel ⟨rfl, rfl⟩⟩
    | _ => exact f.elim
  | _ => exact f.elim
end TL

set_option Elab.async false
set_option linter.all false
set_option maxRecDepth 100000
set_option maxHeartbeats 1000000
/-! TZ3: zip over three lists. -/
namespace TL
open PySem PySem.Spec PyProof.Rows L2
open PySem.Sem (wp)
abbrev IsTri (h : Heap) (T : Addr) (a b c : Value) : Prop := h.get? T = some { cls := .type "tuple", data := .seq #[a, b, c] }
theorem typeCall_zip_3 (a b c : Value) : checkTypeCall "zip" ⟨[a, b, c], []⟩ = pure () := by kernel_rfl
theorem newCall_zip_3 (a b c : Value) : checkBuiltinCall "zip.__new__" ⟨[.type "zip", a, b, c], []⟩ = pure () := by kernel_rfl
theorem args_object_init_4 (a b c d : Value) : argsOk "object.__init__" ⟨[a, b, c, d], []⟩ := by
  unfold argsOk; rw [signature?_of (id := "object.__init__") (n := ['_', '_', 't', 'i', 'n', 'i', '_', '_']) (o := ['t', 'c', 'e', 'j', 'b', 'o']) (by kernel_rfl) F.owner_object]; kernel_rfl
section
variable {prog : Program} {w : World} {A : Around} {E : Value → Shared → Prop} {s : Shared}
theorem wpAny_updateSeq_tri {T : Addr} {a b c x : Value} {k : Nat} {Q : Unit → Shared → Prop} (hT : IsTri s.heap T a b c)
    (h : ∀ h', h'.get? T = some { cls := .type "tuple", data := .seq ((#[a, b, c] : Array Value).setIfInBounds k x) } → Heap.SameBut T s.heap h' → Q () { s with heap := h' }) :
    wpAny (model prog w) A (updateSeq T (·.setIfInBounds k x)) Q E s := by
  refine wpAny_updateSeq hT rfl (h _ ?_ (Heap.SameBut.update ..))
  rw [Heap.get?_update_self _ hT rfl]
  simp [Obj.mapSeq]
/-- what a zip's iterator over three lists keeps; the six lie from I on -/
structure Zip3 (h : Heap) (I a b c : Nat) (k : Nat) : Prop where
  z : IsZip h (I + 5) (I + 3) (I + 4) .none
  p : IsTri h (I + 3) (.ref I) (.ref (I + 1)) (.ref (I + 2))
  r : ∃ x y u, IsTri h (I + 4) x y u
  i : h.IsListIter I a k
  j : h.IsListIter (I + 1) b k
  l : h.IsListIter (I + 2) c k
structure Lt3 (I a b c : Nat) : Prop where
  a : a < I
  b : b < I
  c : c < I
variable {I a b c : Nat} {k : Nat} {xs ys zs : Array Value}
theorem zip3_item {x y u : Value} {Q : Value → Shared → Prop} (D : Lt3 I a b c) (st : Zip3 s.heap I a b c k) (ha : s.heap.IsList a xs) (hb : s.heap.IsList b ys) (hc : s.heap.IsList c zs) (hx : xs[k]? = some x) (hy : ys[k]? = some y) (hu : zs[k]? = some u)
    (hQ : ∀ h', IsZip h' (I + 5) (I + 3) (I + 4) (rawInt s.heap.objs.size) → IsTri h' (I + 4) x y u → h'.IsListIter I a (k + 1) → h'.IsListIter (I + 1) b (k + 1) → h'.IsListIter (I + 2) c (k + 1) → IsTri h' s.heap.objs.size x y u → h'.objs.size = s.heap.objs.size + 1 →
      (∀ t o, t ≠ I + 5 → t ≠ I + 4 → t ≠ I → t ≠ I + 1 → t ≠ I + 2 → s.heap.get? t = some o → h'.get? t = some o) → Q (.ref s.heap.objs.size) { s with heap := h' }) :
    wpAny (model prog w) A (Builtin.«zip.__next__» ⟨[.ref (I + 5)], []⟩) (fun fin s' => ∃ v, fin = .done (.ret v) ∧ Q v s') E s := by
  obtain ⟨z0, p0, ⟨x0, y0, u0, r0⟩, i0, j0, l0⟩ := st
  obtain ⟨da, db, dc⟩ := D
  show wpAny _ _ (field (.ref (I + 5)) 2 >>= _) _ _ _
  refine wpAny_bind (wpAny_field z0 rfl (x := .bool false) rfl ?_)
  show wpAny _ _ (field (.ref (I + 5)) 3 >>= _) _ _ _
  refine wpAny_bind (wpAny_field z0 rfl (x := .ref (I + 3)) rfl (wpAny_bind (wpAny_seqItems p0 rfl ?_)))
  show wpAny _ _ (Builtin.SmallTypes.ownedTupleIsFree (.ref (I + 5)) >>= _) _ _ _
  unfold Builtin.SmallTypes.ownedTupleIsFree
  refine wpAny_bind (wpAny_bind (wpAny_field z0 rfl (x := .none) rfl (wpAny_pure ?_)))
  simp only [if_true]
  refine wpAny_bind (wpAny_rule (wpAny_bind (wpAny_field z0 rfl (x := .ref (I + 4)) rfl (wpAny_bind (wpAny_setField_rec z0 (by simp) fun ha1 z1' sb1 => ?_)))))
  have z1 : IsZip ha1 (I + 5) (I + 3) (I + 4) .ellipsis := z1'
  refine wpAny_bind ?_
  simp only [List.zipIdx_cons, List.zipIdx_nil, List.forIn_cons, List.forIn_nil]
  refine wpAny_bind (wpAny_bind (wpAny_onRaise ?_))
  show wpAny _ _ (Builtin.SmallTypes.nextOf (.ref I) >>= _) _ _ _
  refine wpAny_bind (wpAny_nextOf_list_item (i0.extBut sb1.extBut (PySem.W.neN (by omega))) (ha.extBut sb1.extBut (PySem.W.neN (by omega))) hx fun ha2 i2 sb2 => wpAny_pure ?_)
  have r2 : IsTri ha2 (I + 4) x0 y0 u0 := sb2.extBut _ _ (PySem.W.neN (by omega)) (sb1.extBut _ _ (PySem.W.neN (by omega)) r0)
  refine wpAny_bind (wpAny_seqItems r2 rfl (wpAny_bind (wpAny_updateSeq_tri r2 fun ha3 r3' sb3 => wpAny_bind (wpAny_letGo (wpAny_pure ?_)))))
  have r3 : IsTri ha3 (I + 4) x y0 u0 := r3'
  refine wpAny_bind (wpAny_bind (wpAny_onRaise ?_))
  show wpAny _ _ (Builtin.SmallTypes.nextOf (.ref (I + 1)) >>= _) _ _ _
  have j3 : ha3.IsListIter (I + 1) b k := ((j0.extBut sb1.extBut (PySem.W.neN (by omega))).extBut sb2.extBut (PySem.W.neN (by omega))).extBut sb3.extBut (PySem.W.neN (by omega))
  have b3 : ha3.IsList b ys := ((hb.extBut sb1.extBut (PySem.W.neN (by omega))).extBut sb2.extBut (PySem.W.neN (by omega))).extBut sb3.extBut (PySem.W.neN (by omega))
  refine wpAny_bind (wpAny_nextOf_list_item j3 b3 hy fun ha4 j4 sb4 => wpAny_pure ?_)
  have r4 : IsTri ha4 (I + 4) x y0 u0 := sb4.extBut _ _ (PySem.W.neN (by omega)) r3
  refine wpAny_bind (wpAny_seqItems r4 rfl (wpAny_bind (wpAny_updateSeq_tri r4 fun ha5 r5' sb5 => wpAny_bind (wpAny_letGo (wpAny_pure ?_)))))
  have r5 : IsTri ha5 (I + 4) x y u0 := r5'
  refine wpAny_bind (wpAny_bind (wpAny_onRaise ?_))
  show wpAny _ _ (Builtin.SmallTypes.nextOf (.ref (I + 2)) >>= _) _ _ _
  have l5 : ha5.IsListIter (I + 2) c k := ((((l0.extBut sb1.extBut (PySem.W.neN (by omega))).extBut sb2.extBut (PySem.W.neN (by omega))).extBut sb3.extBut (PySem.W.neN (by omega))).extBut sb4.extBut (PySem.W.neN (by omega))).extBut sb5.extBut (PySem.W.neN (by omega))
  have c5 : ha5.IsList c zs := ((((hc.extBut sb1.extBut (PySem.W.neN (by omega))).extBut sb2.extBut (PySem.W.neN (by omega))).extBut sb3.extBut (PySem.W.neN (by omega))).extBut sb4.extBut (PySem.W.neN (by omega))).extBut sb5.extBut (PySem.W.neN (by omega))
  refine wpAny_bind (wpAny_nextOf_list_item l5 c5 hu fun ha6 l6 sb6 => wpAny_pure ?_)
  have r6 : IsTri ha6 (I + 4) x y u0 := sb6.extBut _ _ (PySem.W.neN (by omega)) r5
  refine wpAny_bind (wpAny_seqItems r6 rfl (wpAny_bind (wpAny_updateSeq_tri r6 fun ha7 r7' sb7 => wpAny_bind (wpAny_letGo (wpAny_pure (wpAny_pure ?_))))))
  have r7 : IsTri ha7 (I + 4) x y u := r7'
  refine wpAny_bind (wpAny_seqItems r7 rfl (wpAny_bind (wpAny_newTuple ?_)))
  have size7 : ha7.objs.size = s.heap.objs.size := sb7.1.trans (sb6.1.trans (sb5.1.trans (sb4.1.trans (sb3.1.trans (sb2.1.trans sb1.1)))))
  have z7 : IsZip ha7 (I + 5) (I + 3) (I + 4) .ellipsis := sb7.extBut _ _ (PySem.W.neN (by omega)) (sb6.extBut _ _ (PySem.W.neN (by omega)) (sb5.extBut _ _ (PySem.W.neN (by omega)) (sb4.extBut _ _ (PySem.W.neN (by omega)) (sb3.extBut _ _ (PySem.W.neN (by omega)) (sb2.extBut _ _ (PySem.W.neN (by omega)) z1)))))
  have keep7 : ∀ t o, t ≠ I + 5 → t ≠ I + 4 → t ≠ I → t ≠ I + 1 → t ≠ I + 2 → s.heap.get? t = some o → ha7.get? t = some o := fun t o n1 n2 n3 n4 n5 q =>
    sb7.extBut _ _ n2 (sb6.extBut _ _ n5 (sb5.extBut _ _ n2 (sb4.extBut _ _ n4 (sb3.extBut _ _ n2 (sb2.extBut _ _ n3 (sb1.extBut _ _ n1 q))))))
  have i7 : ha7.IsListIter I a (k + 1) := ((((i2.extBut sb3.extBut (PySem.W.neN (by omega))).extBut sb4.extBut (PySem.W.neN (by omega))).extBut sb5.extBut (PySem.W.neN (by omega))).extBut sb6.extBut (PySem.W.neN (by omega))).extBut sb7.extBut (PySem.W.neN (by omega))
  have j7 : ha7.IsListIter (I + 1) b (k + 1) := ((j4.extBut sb5.extBut (PySem.W.neN (by omega))).extBut sb6.extBut (PySem.W.neN (by omega))).extBut sb7.extBut (PySem.W.neN (by omega))
  have l7 : ha7.IsListIter (I + 2) c (k + 1) := l6.extBut sb7.extBut (PySem.W.neN (by omega))
  have zlt : I + 5 < ha7.objs.size := Heap.lt_size z7
  show wpAny _ _ (Builtin.SmallTypes.ownedTupleHandOut (.ref (I + 5)) (.ref ha7.objs.size) >>= _) _ _ _
  unfold Builtin.SmallTypes.ownedTupleHandOut
  have z8 : IsZip (ha7.push { cls := .type "tuple", data := .seq #[x, y, u] }) (I + 5) (I + 3) (I + 4) .ellipsis := Heap.get?_push_of_some _ z7
  refine wpAny_bind (wpAny_bind (wpAny_setField_rec z8 (by simp) fun ha9 z9' sb9 => ?_))
  have z9 : IsZip ha9 (I + 5) (I + 3) (I + 4) (rawInt ha7.objs.size) := z9'
  refine wpAny_setField_rec z9 (by simp) fun ha10 z10' sb10 => ?_
  have z10 : IsZip ha10 (I + 5) (I + 3) (I + 4) (rawInt ha7.objs.size) := z10'
  have last : ∀ t o, t ≠ I + 5 → ha7.get? t = some o → ha10.get? t = some o := fun t o n q => sb10.extBut _ _ n (sb9.extBut _ _ n (Heap.get?_push_of_some _ q))
  have t10 : IsTri ha10 ha7.objs.size x y u := sb10.extBut _ _ (Nat.ne_of_gt zlt) (sb9.extBut _ _ (Nat.ne_of_gt zlt) (Heap.get?_push_size _ rfl))
  have size10 : ha10.objs.size = ha7.objs.size + 1 := by rw [sb10.1, sb9.1, Heap.size_push]
  rw [size7] at z10 t10 size10
  refine wpAny_pure ⟨_, rfl, ?_⟩
  show Q (.ref ha7.objs.size) _
  rw [size7]
  exact hQ ha10 z10 (last _ _ (PySem.W.neN (by omega)) r7) (i7.at fun o q => last _ o (PySem.W.neN (by omega)) q) (j7.at fun o q => last _ o (PySem.W.neN (by omega)) q) (l7.at fun o q => last _ o (PySem.W.neN (by omega)) q) t10 size10 fun t o n1 n2 n3 n4 n5 q => last t o n1 (keep7 t o n1 n2 n3 n4 n5 q)
theorem zip3_stop {Q : PySem.Fin → Shared → Prop} (hh : A.handled = none) (D : Lt3 I a b c) (st : Zip3 s.heap I a b c k) (ha : s.heap.IsList a xs) (hb : s.heap.IsList b ys) (hc : s.heap.IsList c zs) (hend : xs[k]? = none ∨ ys[k]? = none ∨ zs[k]? = none)
    (hE : ∀ h' x, (∀ t o, t ≠ I + 5 → t ≠ I + 4 → t ≠ I → t ≠ I + 1 → t ≠ I + 2 → s.heap.get? t = some o → h'.get? t = some o) → (∃ o, h'.get? x = some o ∧ o.cls = .type "StopIteration") → E (.ref x) { s with heap := h' }) :
    wpAny (model prog w) A (Builtin.«zip.__next__» ⟨[.ref (I + 5)], []⟩) Q E s := by
  obtain ⟨z0, p0, ⟨x0, y0, u0, r0⟩, i0, j0, l0⟩ := st
  obtain ⟨da, db, dc⟩ := D
  show wpAny _ _ (field (.ref (I + 5)) 2 >>= _) _ _ _
  refine wpAny_bind (wpAny_field z0 rfl (x := .bool false) rfl ?_)
  show wpAny _ _ (field (.ref (I + 5)) 3 >>= _) _ _ _
  refine wpAny_bind (wpAny_field z0 rfl (x := .ref (I + 3)) rfl (wpAny_bind (wpAny_seqItems p0 rfl ?_)))
  show wpAny _ _ (Builtin.SmallTypes.ownedTupleIsFree (.ref (I + 5)) >>= _) _ _ _
  unfold Builtin.SmallTypes.ownedTupleIsFree
  refine wpAny_bind (wpAny_bind (wpAny_field z0 rfl (x := .none) rfl (wpAny_pure ?_)))
  simp only [if_true]
  refine wpAny_bind (wpAny_rule (wpAny_bind (wpAny_field z0 rfl (x := .ref (I + 4)) rfl (wpAny_bind (wpAny_setField_rec z0 (by simp) fun ha1 z1' sb1 => ?_)))))
  have z1 : IsZip ha1 (I + 5) (I + 3) (I + 4) .ellipsis := z1'
  refine wpAny_bind ?_
  simp only [List.zipIdx_cons, List.zipIdx_nil, List.forIn_cons, List.forIn_nil]
  refine wpAny_bind (wpAny_bind (wpAny_onRaise ?_))
  show wpAny _ _ (Builtin.SmallTypes.nextOf (.ref I) >>= _) _ _ _
  cases hx : xs[k]? with
  | none =>
    refine wpAny_bind (wpAny_nextOf_list_end hh (i0.extBut sb1.extBut (PySem.W.neN (by omega))) (ha.extBut sb1.extBut (PySem.W.neN (by omega))) hx fun ha2 x sb2 hs => ?_)
    obtain ⟨ox, hox, hcx⟩ := hs
    have z2 : IsZip ha2 (I + 5) (I + 3) (I + 4) .ellipsis := sb2 _ _ (PySem.W.neN (by omega)) z1
    have nz : x ≠ I + 5 := fun q => by
      rw [q, z2] at hox
      cases hox
      simp at hcx
    exact wpAny_setField_rec z2 (by simp) fun ha3 _ sb3 => hE ha3 x (fun t o n1 _ n3 _ _ q => sb3.extBut _ _ n1 (sb2 _ _ n3 (sb1.extBut _ _ n1 q))) ⟨ox, sb3.extBut _ _ nz hox, hcx⟩
  | some x =>
    refine wpAny_bind (wpAny_nextOf_list_item (i0.extBut sb1.extBut (PySem.W.neN (by omega))) (ha.extBut sb1.extBut (PySem.W.neN (by omega))) hx fun ha2 i2 sb2 => wpAny_pure ?_)
    have r2 : IsTri ha2 (I + 4) x0 y0 u0 := sb2.extBut _ _ (PySem.W.neN (by omega)) (sb1.extBut _ _ (PySem.W.neN (by omega)) r0)
    refine wpAny_bind (wpAny_seqItems r2 rfl (wpAny_bind (wpAny_updateSeq_tri r2 fun ha3 r3' sb3 => wpAny_bind (wpAny_letGo (wpAny_pure ?_)))))
    have r3 : IsTri ha3 (I + 4) x y0 u0 := r3'
    refine wpAny_bind (wpAny_bind (wpAny_onRaise ?_))
    show wpAny _ _ (Builtin.SmallTypes.nextOf (.ref (I + 1)) >>= _) _ _ _
    have j3 : ha3.IsListIter (I + 1) b k := ((j0.extBut sb1.extBut (PySem.W.neN (by omega))).extBut sb2.extBut (PySem.W.neN (by omega))).extBut sb3.extBut (PySem.W.neN (by omega))
    have b3 : ha3.IsList b ys := ((hb.extBut sb1.extBut (PySem.W.neN (by omega))).extBut sb2.extBut (PySem.W.neN (by omega))).extBut sb3.extBut (PySem.W.neN (by omega))
    have z3 : IsZip ha3 (I + 5) (I + 3) (I + 4) .ellipsis := sb3.extBut _ _ (PySem.W.neN (by omega)) (sb2.extBut _ _ (PySem.W.neN (by omega)) z1)
    cases hy : ys[k]? with
    | none =>
      refine wpAny_bind (wpAny_nextOf_list_end hh j3 b3 hy fun ha4 e sb4 hs => ?_)
      obtain ⟨ox, hox, hcx⟩ := hs
      have z4 : IsZip ha4 (I + 5) (I + 3) (I + 4) .ellipsis := sb4 _ _ (PySem.W.neN (by omega)) z3
      have nz : e ≠ I + 5 := fun q => by
        rw [q, z4] at hox
        cases hox
        simp at hcx
      exact wpAny_setField_rec z4 (by simp) fun ha5 _ sb5 => hE ha5 e (fun t o n1 n2 n3 n4 _ q => sb5.extBut _ _ n1 (sb4 _ _ n4 (sb3.extBut _ _ n2 (sb2.extBut _ _ n3 (sb1.extBut _ _ n1 q))))) ⟨ox, sb5.extBut _ _ nz hox, hcx⟩
    | some y =>
      have hu : zs[k]? = none := (hend.resolve_left (by rw [hx]; exact fun q => nomatch q)).resolve_left (by rw [hy]; exact fun q => nomatch q)
      refine wpAny_bind (wpAny_nextOf_list_item j3 b3 hy fun ha4 j4 sb4 => wpAny_pure ?_)
      have r4 : IsTri ha4 (I + 4) x y0 u0 := sb4.extBut _ _ (PySem.W.neN (by omega)) r3
      refine wpAny_bind (wpAny_seqItems r4 rfl (wpAny_bind (wpAny_updateSeq_tri r4 fun ha5 r5' sb5 => wpAny_bind (wpAny_letGo (wpAny_pure ?_)))))
      refine wpAny_bind (wpAny_bind (wpAny_onRaise ?_))
      show wpAny _ _ (Builtin.SmallTypes.nextOf (.ref (I + 2)) >>= _) _ _ _
      have l5 : ha5.IsListIter (I + 2) c k := ((((l0.extBut sb1.extBut (PySem.W.neN (by omega))).extBut sb2.extBut (PySem.W.neN (by omega))).extBut sb3.extBut (PySem.W.neN (by omega))).extBut sb4.extBut (PySem.W.neN (by omega))).extBut sb5.extBut (PySem.W.neN (by omega))
      have c5 : ha5.IsList c zs := ((((hc.extBut sb1.extBut (PySem.W.neN (by omega))).extBut sb2.extBut (PySem.W.neN (by omega))).extBut sb3.extBut (PySem.W.neN (by omega))).extBut sb4.extBut (PySem.W.neN (by omega))).extBut sb5.extBut (PySem.W.neN (by omega))
      have z5 : IsZip ha5 (I + 5) (I + 3) (I + 4) .ellipsis := sb5.extBut _ _ (PySem.W.neN (by omega)) (sb4.extBut _ _ (PySem.W.neN (by omega)) z3)
      refine wpAny_bind (wpAny_nextOf_list_end hh l5 c5 hu fun ha6 e sb6 hs => ?_)
      obtain ⟨ox, hox, hcx⟩ := hs
      have z6 : IsZip ha6 (I + 5) (I + 3) (I + 4) .ellipsis := sb6 _ _ (PySem.W.neN (by omega)) z5
      have nz : e ≠ I + 5 := fun q => by
        rw [q, z6] at hox
        cases hox
        simp at hcx
      exact wpAny_setField_rec z6 (by simp) fun ha7 _ sb7 => hE ha7 e (fun t o n1 n2 n3 n4 n5 q => sb7.extBut _ _ n1 (sb6 _ _ n5 (sb5.extBut _ _ n2 (sb4.extBut _ _ n4 (sb3.extBut _ _ n2 (sb2.extBut _ _ n3 (sb1.extBut _ _ n1 q))))))) ⟨ox, sb7.extBut _ _ nz hox, hcx⟩
theorem next3_item {x y u : Value} {Q : Option Value → Shared → Prop} (D : Lt3 I a b c) (st : Zip3 s.heap I a b c k) (ha : s.heap.IsList a xs) (hb : s.heap.IsList b ys) (hc : s.heap.IsList c zs) (hx : xs[k]? = some x) (hy : ys[k]? = some y) (hu : zs[k]? = some u)
    (hQ : ∀ h', IsZip h' (I + 5) (I + 3) (I + 4) (rawInt s.heap.objs.size) → IsTri h' (I + 4) x y u → h'.IsListIter I a (k + 1) → h'.IsListIter (I + 1) b (k + 1) → h'.IsListIter (I + 2) c (k + 1) → IsTri h' s.heap.objs.size x y u → h'.objs.size = s.heap.objs.size + 1 →
      (∀ t o, t ≠ I + 5 → t ≠ I + 4 → t ≠ I → t ≠ I + 1 → t ≠ I + 2 → s.heap.get? t = some o → h'.get? t = some o) → Q (some (.ref s.heap.objs.size)) { s with heap := h' }) :
    wpAny (model prog w) A (pyNext (.ref (I + 5))) Q E s := by
  have ty : s.TypeIs (.ref (I + 5)) "zip" := ⟨_, st.z, rfl⟩
  unfold pyNext
  exact wpAny_bind (wpAny_attempt (wpAny_callSpecial?_slot (name := Str.ofString "__next__") ty F.slot_zip_next
    (wpAny_call_entry F.slot_zip_next ty F.entry_zip_next
      (zip3_item D st ha hb hc hx hy hu fun h' q1 q2 q3 q4 q5 q6 q7 q8 => wpAny_pure (hQ h' q1 q2 q3 q4 q5 q6 q7 q8)) (F.args_zip_next_1 _))))
theorem next3_stop {Q : Option Value → Shared → Prop} (hh : A.handled = none) (D : Lt3 I a b c) (st : Zip3 s.heap I a b c k) (ha : s.heap.IsList a xs) (hb : s.heap.IsList b ys) (hc : s.heap.IsList c zs) (hend : xs[k]? = none ∨ ys[k]? = none ∨ zs[k]? = none)
    (hQ : ∀ h', (∀ t o, t ≠ I + 5 → t ≠ I + 4 → t ≠ I → t ≠ I + 1 → t ≠ I + 2 → s.heap.get? t = some o → h'.get? t = some o) → Q none { s with heap := h' }) : wpAny (model prog w) A (pyNext (.ref (I + 5))) Q E s := by
  have ty : s.TypeIs (.ref (I + 5)) "zip" := ⟨_, st.z, rfl⟩
  unfold pyNext
  refine wpAny_bind (wpAny_attempt (wpAny_callSpecial?_slot (name := Str.ofString "__next__") ty F.slot_zip_next
    (wpAny_call_entry F.slot_zip_next ty F.entry_zip_next (zip3_stop hh D st ha hb hc hend fun h' x keep hs => ?_) (F.args_zip_next_1 _))))
  obtain ⟨o, ho, hc⟩ := hs
  refine wpAny_bind (wpAny_isInstance (T := "StopIteration") (b := true) ⟨o, ho, hc⟩ isSubtype_stop ?_)
  exact wpAny_pure (hQ _ keep)
end
/-- the heap behind zip(a, b, c), object by object -/
abbrev tH1 (h : Heap) (a : Addr) : Heap := h.push { cls := .type "list_iterator", data := .fields #[.ref a, .int 0 0] }
abbrev tH2 (h : Heap) (a b : Addr) : Heap := (tH1 h a).push { cls := .type "list_iterator", data := .fields #[.ref b, .int 0 0] }
abbrev tH3 (h : Heap) (a b c : Addr) : Heap := (tH2 h a b).push { cls := .type "list_iterator", data := .fields #[.ref c, .int 0 0] }
abbrev tH4 (h : Heap) (a b c : Addr) : Heap := (tH3 h a b c).push { cls := .type "tuple", data := .seq #[.ref h.objs.size, .ref (tH1 h a).objs.size, .ref (tH2 h a b).objs.size] }
abbrev tH5 (h : Heap) (a b c : Addr) : Heap := (tH4 h a b c).push { cls := .type "tuple", data := .seq #[.none, .none, .none] }
abbrev tH6 (h : Heap) (a b c : Addr) : Heap := (tH5 h a b c).push { cls := .type "zip", data := .fields #[.none, .bool false, .bool false, .ref (tH3 h a b c).objs.size, .ref (tH4 h a b c).objs.size] }
theorem zip3_meets (a b c : Addr) (xs ys zs : Array Value) :
    Meets (Builtin.«zip.__new__» ⟨[.type "zip", .ref a, .ref b, .ref c], []⟩) (fun _ R s => s.heap.IsList a xs ∧ s.heap.IsList b ys ∧ s.heap.IsList c zs ∧ R (.ok (.ret (.ref (tH5 s.heap a b c).objs.size))) { s with heap := tH6 s.heap a b c }) :=
  .of_wp fun prog w A R s h => by
    obtain ⟨hp, g, dd, tk, os⟩ := s
    obtain ⟨ha, hb, hc, h⟩ := h
    have sz := sub_zip
    have ha' : (Shared.heap ⟨hp, g, dd, tk, os⟩).IsList a xs := ha
    have hb' : (Shared.heap ⟨hp.push { cls := .type "list_iterator", data := .fields #[.ref a, .int 0 0] }, g, dd, tk, os⟩).IsList b ys := Heap.IsList.push hb _
    have hc' : (Shared.heap ⟨(hp.push { cls := .type "list_iterator", data := .fields #[.ref a, .int 0 0] }).push { cls := .type "list_iterator", data := .fields #[.ref b, .int 0 0] }, g, dd, tk, os⟩).IsList c zs := Heap.IsList.push (Heap.IsList.push hc _) _
    wp_walk using wpAny_pyIter_list ha', wpAny_pyIter_list hb', wpAny_pyIter_list hc'
    exact ⟨_, rfl, h⟩
end TL

set_option Elab.async false
set_option linter.all false
set_option maxRecDepth 100000
set_option maxHeartbeats 1000000
/-! TZ4: zip over three lists, as a walk. -/
namespace TL
open PySem PySem.Spec PyProof.Rows L2
theorem newLIt {h : Heap} {it : Addr} {l : Addr} (e : h.get? it = some { cls := .type "list_iterator", data := .fields #[.ref l, .int 0 0] }) : h.IsListIter it l 0 := ⟨_, e, rfl, rfl⟩
theorem call_zip3 {prog : Program} {w : World} {A : Around} {E : Value → Shared → Prop} {s : Shared} {a b c : Nat} {xs ys zs : Array Value} {Q : Value → Shared → Prop} (ha : s.heap.IsList a xs) (hb : s.heap.IsList b ys) (hc : s.heap.IsList c zs)
    (h : ∀ h', Zip3 h' s.heap.objs.size a b c 0 → (∀ t o, s.heap.get? t = some o → h'.get? t = some o) → Q (.ref (s.heap.objs.size + 5)) { s with heap := h' }) :
    wpAny (model prog w) A (call (.type "zip") [.ref a, .ref b, .ref c]) Q E s := by
  refine callType_new F.called_zip (by decide) (typeCall_zip_3 _ _ _) (newCall_zip_3 _ _ _) (fun obj => args_object_init_4 obj _ _ _) F.entry_zip_new (zip3_meets a b c xs ys zs) ⟨ha, hb, hc, ?_⟩
  have n1 : (tH1 s.heap a).objs.size = s.heap.objs.size + 1 := Heap.size_push ..
  have n2 : (tH2 s.heap a b).objs.size = s.heap.objs.size + 2 := by rw [Heap.size_push, n1]
  have n3 : (tH3 s.heap a b c).objs.size = s.heap.objs.size + 3 := by rw [Heap.size_push, n2]
  have n4 : (tH4 s.heap a b c).objs.size = s.heap.objs.size + 4 := by rw [Heap.size_push, n3]
  have n5 : (tH5 s.heap a b c).objs.size = s.heap.objs.size + 5 := by rw [Heap.size_push, n4]
  have z6 : (tH6 s.heap a b c).get? (tH5 s.heap a b c).objs.size = some _ := Heap.get?_push_size _ rfl
  have z5 : (tH6 s.heap a b c).get? (tH4 s.heap a b c).objs.size = some _ := Heap.get?_push_of_some _ (Heap.get?_push_size _ rfl)
  have z4 : (tH6 s.heap a b c).get? (tH3 s.heap a b c).objs.size = some _ := Heap.get?_push_of_some _ (Heap.get?_push_of_some _ (Heap.get?_push_size _ rfl))
  have z3 : (tH6 s.heap a b c).get? (tH2 s.heap a b).objs.size = some _ := Heap.get?_push_of_some _ (Heap.get?_push_of_some _ (Heap.get?_push_of_some _ (Heap.get?_push_size _ rfl)))
  have z2 : (tH6 s.heap a b c).get? (tH1 s.heap a).objs.size = some _ := Heap.get?_push_of_some _ (Heap.get?_push_of_some _ (Heap.get?_push_of_some _ (Heap.get?_push_of_some _ (Heap.get?_push_size _ rfl))))
  have z1 : (tH6 s.heap a b c).get? s.heap.objs.size = some _ := Heap.get?_push_of_some _ (Heap.get?_push_of_some _ (Heap.get?_push_of_some _ (Heap.get?_push_of_some _ (Heap.get?_push_of_some _ (Heap.get?_push_size _ rfl)))))
  show _ ∧ _
  rw [n3, n4, n5] at z6
  rw [n1, n2, n3] at z4
  rw [n4] at z5
  rw [n2] at z3
  rw [n1] at z2
  rw [n5]
  refine ⟨⟨_, z6, rfl⟩, h _ ⟨z6, z4, ⟨_, _, _, z5⟩, newLIt z1, newLIt z2, newLIt z3⟩ fun t o q => ?_⟩
  exact Heap.get?_push_of_some _ (Heap.get?_push_of_some _ (Heap.get?_push_of_some _ (Heap.get?_push_of_some _ (Heap.get?_push_of_some _ (Heap.get?_push_of_some _ q)))))
/-- the three as they stand at each turn, the items in new triples -/
def Itz3 (K : PySem.W.Frag) (a b c : Addr) : L2.It :=
  ⟨fun i H => ∃ (xs ys zs : List V) (x y z : V), SqL K H a xs ∧ SqL K H b ys ∧ SqL K H c zs ∧ xs[i]? = some x ∧ ys[i]? = some y ∧ zs[i]? = some z,
    fun i H v H' => ∃ T x y z, v = .ref T ∧ H T = none ∧ H' = upd H T (.tup [x, y, z]) ∧ (∀ xs, SqL K H a xs → xs[i]? = some x) ∧ (∀ ys, SqL K H b ys → ys[i]? = some y) ∧ ∀ zs, SqL K H c zs → zs[i]? = some z,
    fun i H => ∃ xs ys zs : List V, SqL K H a xs ∧ SqL K H b ys ∧ SqL K H c zs ∧ (xs.length ≤ i ∨ ys.length ≤ i ∨ zs.length ≤ i)⟩
theorem turn_zip3 {P : Program} {w : World} {K : PySem.W.Frag} {elts : List Expr} {kk : Nat} {tpos : Pos} {I a b c : Nat} (D : Lt3 I a b c) :
    Turn P w K (.Tuple elts kk tpos) (Itz3 K a b c) [I + 5, I + 3, I + 4, I, I + 1, I + 2] (I + 5) (fun k h => Zip3 h I a b c k) where
  mem := List.mem_cons_self ..
  obj := fun k h st t ht => by
    obtain ⟨z0, p0, ⟨x0, y0, u0, r0⟩, i0, j0, l0⟩ := st
    have lo : ∀ {it l : Addr} {n : Nat}, h.IsListIter it l n → ∃ o, h.get? it = some o ∧ ∀ v, o.data ≠ .cell v := fun x => by
      obtain ⟨o, e, _, q⟩ := x
      exact ⟨o, e, fun v z => by rw [q] at z; cases z⟩
    have ht' : t = I + 5 ∨ t = I + 3 ∨ t = I + 4 ∨ t = I ∨ t = I + 1 ∨ t = I + 2 := by simpa using ht
    rcases ht' with q | q | q | q | q | q
    · rw [q]; exact ⟨_, z0, fun v q => nomatch q⟩
    · rw [q]; exact ⟨_, p0, fun v q => nomatch q⟩
    · rw [q]; exact ⟨_, r0, fun v q => nomatch q⟩
    · rw [q]; exact lo i0
    · rw [q]; exact lo j0
    · rw [q]; exact lo l0
  keep := fun k h h' st kp => by
    obtain ⟨z0, p0, ⟨x0, y0, u0, r0⟩, i0, j0, l0⟩ := st
    exact ⟨kp (I + 5) (by simp) _ z0, kp (I + 3) (by simp) _ p0, ⟨x0, y0, u0, kp (I + 4) (by simp) _ r0⟩, i0.at fun o q => kp I (by simp) o q, j0.at fun o q => kp (I + 1) (by simp) o q, l0.at fun o q => kp (I + 2) (by simp) o q⟩
  item := by
    intro X hP hw hK hc k pins s σ H E I0 hf st hg
    subst hP hw hK
    obtain ⟨xs, ys, zs, x, y, z, vx, vy, vz, hx, hy, hz⟩ := hg
    obtain ⟨us, ru, qu, _⟩ := I0.list vx
    obtain ⟨ws, rw', qw, _⟩ := I0.list vy
    obtain ⟨ts, rt, qt, _⟩ := I0.list vz
    obtain ⟨u, hu, r1⟩ := ru.get hx
    obtain ⟨u2, hu2, r2⟩ := rw'.get hy
    obtain ⟨u3, hu3, r3⟩ := rt.get hz
    have lt : ∀ t, t ∈ [I + 5, I + 3, I + 4, I, I + 1, I + 2] → t < s.heap.objs.size := fun t ht => by
      have h5 : I + 5 < s.heap.objs.size := Heap.lt_size st.z
      have ht' : t = I + 5 ∨ t = I + 3 ∨ t = I + 4 ∨ t = I ∨ t = I + 1 ∨ t = I + 2 := by simpa using ht
      rcases ht' with q | q | q | q | q | q <;> omega
    have zlt := lt (I + 5) (by simp)
    refine next3_item D st qu.isList qw.isList qt.isList (x := u) (y := u2) (u := u3) (by simpa using hu) (by simpa using hu2) (by simpa using hu3) fun h' z1 rr i1 j1 l1 new _ keep => ?_
    refine ⟨_, rfl, wpAny_letOwnedTupleGo_zip (s := { s with heap := h' }) z1 fun h2 z2 sb => ?_⟩
    have new2 : h2.get? s.heap.objs.size = some { cls := .type "tuple", data := .seq #[u, u2, u3] } := (sb.2 _ (Nat.ne_of_gt zlt)).trans new
    have ok : ObjOk X.prog X.w (upd H s.heap.objs.size (.tup [x, y, z])) h2 s.heap.objs.size (.tup [x, y, z]) :=
      ⟨by show 3 ≤ sizeLine; decide, [u, u2, u3], .cons r1 (.cons r2 (.cons r3 .nil)), ⟨_, new2, rfl, _, rfl⟩⟩
    have I1 : Inv X pins σ (upd H s.heap.objs.size (.tup [x, y, z])) { s with heap := h2 } :=
      I0.turnedNew (t' := s.toks) (ch := [I + 5, I + 3, I + 4, I, I + 1, I + 2]) (fun t o no q => by
        have no' : t ≠ I + 5 ∧ t ≠ I + 3 ∧ t ≠ I + 4 ∧ t ≠ I ∧ t ≠ I + 1 ∧ t ≠ I + 2 := by simpa using no
        exact (sb.2 t no'.1).trans (keep t o no'.1 no'.2.2.1 no'.2.2.2.1 no'.2.2.2.2.1 no'.2.2.2.2.2 q)) hf (Nat.le_refl _) ok
    refine ⟨.ref s.heap.objs.size, _, I1, rfl, ⟨_, x, y, z, rfl, I0.hok.fresh (Nat.le_refl _), rfl, fun l hl => by rw [I0.list_inj hl vx]; exact hx, fun l hl => by rw [I0.list_inj hl vy]; exact hy, fun l hl => by rw [I0.list_inj hl vz]; exact hz⟩, ⟨z2, ?_, ⟨u, u2, u3, ?_⟩, ?_, ?_, ?_⟩, fun t ht => ?_⟩
    · exact (sb.2 _ (PySem.W.neN (by omega))).trans (keep _ _ (PySem.W.neN (by omega)) (PySem.W.neN (by omega)) (PySem.W.neN (by omega)) (PySem.W.neN (by omega)) (PySem.W.neN (by omega)) st.p)
    · exact (sb.2 _ (PySem.W.neN (by omega))).trans rr
    · exact i1.at fun o q => (sb.2 _ (PySem.W.neN (by omega))).trans q
    · exact j1.at fun o q => (sb.2 _ (PySem.W.neN (by omega))).trans q
    · exact l1.at fun o q => (sb.2 _ (PySem.W.neN (by omega))).trans q
    · rw [upd_ne (Nat.ne_of_lt (lt t ht))]
      exact (hf t ht).1
  done := by
    intro X hP hw hK hc k pins s σ H E I0 hf st hg
    subst hP hw hK
    obtain ⟨xs, ys, zs, vx, vy, vz, hend⟩ := hg
    obtain ⟨us, ru, qu, _⟩ := I0.list vx
    obtain ⟨ws, rw', qw, _⟩ := I0.list vy
    obtain ⟨ts, rt, qt, _⟩ := I0.list vz
    have n1 := ru.length
    have n2 := rw'.length
    have n3 := rt.length
    have he : us.toArray[k]? = none ∨ ws.toArray[k]? = none ∨ ts.toArray[k]? = none := by
      rcases hend with q | q | q
      · exact .inl (by simp; omega)
      · exact .inr (.inl (by simp; omega))
      · exact .inr (.inr (by simp; omega))
    exact next3_stop (I0.ok.hd hc) D st qu.isList qw.isList qt.isList he fun h' keep => ⟨rfl, I0.turnedL (t' := s.toks) (ch := [I + 5, I + 3, I + 4, I, I + 1, I + 2]) (fun t o no q => by
      have no' : t ≠ I + 5 ∧ t ≠ I + 3 ∧ t ≠ I + 4 ∧ t ≠ I ∧ t ≠ I + 1 ∧ t ≠ I + 2 := by simpa using no
      exact keep t o no'.1 no'.2.2.1 no'.2.2.2.1 no'.2.2.2.2.1 no'.2.2.2.2.2 q) hf⟩
  self := fun A i s Q E st h => wpAny_pyIter_zip st.z h
def tZip3 (K : PySem.W.Frag) (ta : TA) : TI := fun σ H R => ta σ H fun vs H1 => ∃ (a b c : Addr) (xs ys zs : List V), vs = [.ref a, .ref b, .ref c] ∧ SqL K H1 a xs ∧ SqL K H1 b ys ∧ SqL K H1 c zs ∧ R (Itz3 K a b c) H1
theorem pi_zip3 {X : Cx} {e1 e2 e3 : Expr} {ta : TA} {p pos tpos : Pos} {elts : List Expr} {kk : Nat} (hg : Gl X "zip") (hm : X.mg "zip" = none) (ha : PA X [e1, e2, e3] ta)
    (hs : starEach [e1, e2, e3] X.env = (false, eval e1 X.env) :: starEach [e2, e3] X.env := by rfl) (hpl : (backTo pos (starEach [e2, e3] X.env)).any (·.1) = false := by rfl) :
    PI X (.Tuple elts kk tpos) (.Call (.Name "zip" p) [e1, e2, e3] [] pos) (tZip3 X.K ta) := by
  refine ⟨fun pins s σ H R I h => ?_⟩
  refine Call_ (ld_blt I hg hm PyProof.Rows.boot_zip (PyProof.Rows.callWith_type1 (thn (ha.run pos pins s σ H _ I h) fun us s1 ⟨vs, H1, I1, r1, q1⟩ => ?_) hs hpl))
  obtain ⟨a, b, c, xs, ys, zs, ex, vx, vy, vz, q⟩ := q1
  subst ex
  cases r1 with
  | cons ra rr =>
    cases rr with
    | cons rb rr =>
      cases rr with
      | cons rc rr =>
        cases rr
        cases ra
        cases rb
        cases rc
        obtain ⟨ws, _, qa, _⟩ := I1.list vx
        obtain ⟨ws2, _, qb, _⟩ := I1.list vy
        obtain ⟨ws3, _, qc, _⟩ := I1.list vz
        have lt : ∀ {t : Addr} {v : Array Value}, s1.heap.IsList t v → t < s1.heap.objs.size := fun x => by
          obtain ⟨o, e, _⟩ := x
          exact Heap.lt_size e
        refine call_zip3 qa.isList qb.isList qc.isList fun h' st keep => wpAny_pyIter_zip st.z ?_
        refine ⟨s1.heap.objs.size + 5, [s1.heap.objs.size + 5, s1.heap.objs.size + 3, s1.heap.objs.size + 4, s1.heap.objs.size, s1.heap.objs.size + 1, s1.heap.objs.size + 2], _, _, H1, rfl, I1.kept (t' := s1.toks) keep, turn_zip3 ⟨lt qa.isList, lt qb.isList, lt qc.isList⟩, st, fun t ht => ?_, q⟩
        have hle : s1.heap.objs.size ≤ t := by
          have ht' : t = s1.heap.objs.size + 5 ∨ t = s1.heap.objs.size + 3 ∨ t = s1.heap.objs.size + 4 ∨ t = s1.heap.objs.size ∨ t = s1.heap.objs.size + 1 ∨ t = s1.heap.objs.size + 2 := by simpa using ht
          rcases ht' with q | q | q | q | q | q <;> rw [q] <;> first | exact Nat.le_add_right _ _ | exact Nat.le_refl _
        exact I1.fpOk hle (I1.hok.fresh hle)
/-! ### in the store: three lists of the store -/
def zip3P (xs ys zs : List PV) : List PV := ((xs.zip ys).zip zs).map fun p => .tup [p.1.1, p.1.2, p.2]
theorem zip3P_len (xs ys zs : List PV) : (zip3P xs ys zs).length = min (min xs.length ys.length) zs.length := by unfold zip3P; simp
theorem zip3P_get {xs ys zs : List PV} {i : Nat} {x y z : PV} (h1 : xs[i]? = some x) (h2 : ys[i]? = some y) (h3 : zs[i]? = some z) : (zip3P xs ys zs)[i]? = some (.tup [x, y, z]) := by
  unfold zip3P
  rw [List.getElem?_map, (List.getElem?_zip_eq_some (z := ((x, y), z))).mpr ⟨(List.getElem?_zip_eq_some (z := (x, y))).mpr ⟨h1, h2⟩, h3⟩]
  rfl
def iZip3 (ca cb cc : CE PV) : CE (List PV × Chk) := fun ρ S => (ca ρ S).bind fun x S1 => (cb ρ S1).bind fun y S2 => (cc ρ S2).bind fun z S3 => match x, y, z with
  | .obj i, .obj j, .obj k => match S3[i]?, S3[j]?, S3[k]? with
    | some (.lst xs), some (.lst ys), some (.lst zs) => .ok (zip3P xs ys zs, [(i, .lst xs), (j, .lst ys), (k, .lst zs)]) S3
    | _, _, _ => .stuck
  | _, _, _ => .stuck
section
variable {X : Cx} {W : WX} {p pos tpos : Pos} {a b c : Expr} {ca cb cc : CE PV} {elts : List Expr} {kk : Nat}
theorem di_zip3 (hm : X.mg "zip" = none) (ha : DE X W a ca) (hb : DE X W b cb) (hc : DE X W c cc) (hg : Gl X "zip" := by rfl) (hs : starEach [a, b, c] X.env = (false, eval a X.env) :: starEach [b, c] X.env := by rfl) (hs2 : starEach [b, c] X.env = (false, eval b X.env) :: starEach [c] X.env := by rfl) (hs3 : starEach [c] X.env = (false, eval c X.env) :: starEach [] X.env := by rfl)
    (hpl : (backTo pos (starEach [b, c] X.env)).any (·.1) = false := by rfl) : DI X W (.Tuple elts kk tpos) (.Call (.Name "zip" p) [a, b, c] [] pos) (iZip3 ca cb cc) := by
  refine pi_imp (pi_zip3 hg hm (pa_cons ha (pa_cons hb (pa_cons hc pa_nil hs3) hs2) hs) hs hpl) fun σ H R h => ?_
  obtain ⟨m, S, ρ, at_, fin⟩ := h
  refine ⟨m, S, ρ, at_, (Fin.bind at_ fin).mono fun v H1 h1 => ?_⟩
  obtain ⟨m1, S1, x, at1, r1, e1, l1, f1⟩ := h1
  refine ⟨m1, S1, ρ, at1, (Fin.bind at1 f1).mono fun u H2 h2 => ?_⟩
  obtain ⟨m2, S2, y, at2, r2, e2, l2, f2⟩ := h2
  refine ⟨m2, S2, ρ, at2, (Fin.bind at2 f2).mono fun t H3 h3 => ?_⟩
  obtain ⟨m3, S3, z, at3, r3, e3, l3, f3⟩ := h3
  have rx := stbV e3 l3 (stbV e2 l2 r1)
  have ry := stbV e3 l3 r2
  dsimp only at f3
  cases x with
  | obj i =>
    cases y with
    | obj j =>
      cases z with
      | obj k =>
        have ex : v = .ref (m3 i) := rx.2
        have ey : u = .ref (m3 j) := ry.2
        have ez : t = .ref (m3 k) := r3.2
        subst ex ey ez
        simp only at f3
        split at f3
        · rename_i xs ys zs ei ej ek
          have hi := (List.getElem?_eq_some_iff.mp ei).1
          have hj := (List.getElem?_eq_some_iff.mp ej).1
          have hk := (List.getElem?_eq_some_iff.mp ek).1
          obtain ⟨bx, us, u1, u2⟩ := at3.rel.lst ei
          obtain ⟨by_, ws, w1, w2⟩ := at3.rel.lst ej
          obtain ⟨bz, ts, t1, t2⟩ := at3.rel.lst ek
          refine ⟨_, _, _, us, ws, ts, rfl, SqL.of u1, SqL.of w1, SqL.of t1, f3.here at3.rel ?_⟩
          have at' : ∀ (m' : Mp) (S' : Store) (H' : Hp), Ext X.K S3.length m3 H3 m' H' → S3.length ≤ S'.length → Rel X.K X.mg m' S' H' → chk [(i, PO.lst xs), (j, .lst ys), (k, .lst zs)] S' →
              ∃ us ws ts : List V, (SqL X.K H' (m3 i) us ∧ Rps X.K m' H' xs us ∧ bnds S'.length xs = true) ∧ (SqL X.K H' (m3 j) ws ∧ Rps X.K m' H' ys ws ∧ bnds S'.length ys = true) ∧ (SqL X.K H' (m3 k) ts ∧ Rps X.K m' H' zs ts ∧ bnds S'.length zs = true) := by
            intro m' S' H' ex l r ck
            obtain ⟨b1, us, h1, h2⟩ := r.lst (ck _ (List.mem_cons_self ..))
            obtain ⟨b2, ws, h3, h4⟩ := r.lst (ck _ (List.mem_cons_of_mem _ (List.mem_cons_self ..)))
            obtain ⟨b3, ts, h5, h6⟩ := r.lst (ck _ (List.mem_cons_of_mem _ (List.mem_cons_of_mem _ (List.mem_cons_self ..))))
            rw [ex.mi i hi] at h1
            rw [ex.mi j hj] at h3
            rw [ex.mi k hk] at h5
            exact ⟨us, ws, ts, ⟨SqL.of h1, h2, b1⟩, ⟨SqL.of h3, h4, b2⟩, ⟨SqL.of h5, h6, b3⟩⟩
          refine ⟨fun m' S' H' ex l r ck => ?_, fun q m' S' H' ex l r ck hq => ?_, fun q m' S' H' w' H'' ex l r ck hq yl => ?_⟩
          · obtain ⟨us, ws, ts, ⟨a1, a2, _⟩, ⟨b1, b2, _⟩, ⟨c1, c2, _⟩⟩ := at' m' S' H' ex l r ck
            refine ⟨us, ws, ts, a1, b1, c1, ?_⟩
            have := a2.length
            have := b2.length
            have := c2.length
            rw [zip3P_len]
            omega
          · obtain ⟨us, ws, ts, ⟨a1, a2, _⟩, ⟨b1, b2, _⟩, ⟨c1, c2, _⟩⟩ := at' m' S' H' ex l r ck
            have n1 := a2.length
            have n2 := b2.length
            have n3 := c2.length
            have hq' : q < (zip3P xs ys zs).length := hq
            rw [zip3P_len] at hq'
            exact ⟨us, ws, ts, us[q]'(by omega), ws[q]'(by omega), ts[q]'(by omega), a1, b1, c1, by simp, by simp, by simp⟩
          · obtain ⟨us, ws, ts, ⟨a1, a2, a3⟩, ⟨b1, b2, b3⟩, ⟨c1, c2, c3⟩⟩ := at' m' S' H' ex l r ck
            obtain ⟨T, x', y', z', rfl, hT, rfl, f1, f2, f3⟩ := yl
            obtain ⟨x, ex1, rx1⟩ := a2.get' (f1 _ a1)
            obtain ⟨y, ey1, ry1⟩ := b2.get' (f2 _ b1)
            obtain ⟨z, ez1, rz1⟩ := c2.get' (f3 _ c1)
            have e0 : Ext X.K S'.length m' H' m' (upd H' T (.tup [x', y', z'])) := ext_new hT fun _ _ => rfl
            have bx := bnds_get a3 ex1
            have by_ := bnds_get b3 ey1
            have bz := bnds_get c3 ez1
            have bb : bnds S'.length [x, y, z] = true := by simp [bnds, bx, by_, bz]
            exact ⟨.tup [x, y, z], zip3P_get ex1 ey1 ez1, e0, r.newT hT, ⟨bb, T, [x', y', z'], rfl, upd_same, x', [y', z'], rfl, rx1.ext e0 _ _ bx, y', [z'], rfl, ry1.ext e0 _ _ by_, z', [], rfl, rz1.ext e0 _ _ bz, rfl⟩, fun D hD => upd_ne fun z => hD (by rw [z]; exact hT)⟩
        · exact f3.elim
      | _ => exact f3.elim
    | _ => exact f3.elim
  | _ => exact f3.elim
end
end TL

set_option Elab.async false
set_option linter.all false
set_option maxRecDepth 100000
set_option maxHeartbeats 1000000
/-! TN2: == and != of lists that hold lists and dicts. -/
namespace PySem.SeqAt
open AutoSeq1 (wpAny_loadPart')
open MeetsSeq MeetsSeq2 MeetsSeq3 SeqRoads2
section
variable {prog : Program} {w : World}
theorem tn_ne_loopIn (l b : Addr) (items items2 : Array Value) (n n2 : Nat) (dd dd2 : Option Addr) (sl sl2 : Array (Option Value)) (hsz : items.size = items2.size) (e : Nat → Bool) (k : Nat) :
    ∀ i : Nat, items.size - i = k → MeetsIn prog w (Builtin.«list.__eq__.loop» ⟨[.ref l, .ref b, rawInt i, rawInt 3], []⟩)
      (fun A R s => s.heap.get? l = some { cls := .type "list", dict := dd, data := .seq items n, slots := sl } ∧ s.heap.get? b = some { cls := .type "list", dict := dd2, data := .seq items2 n2, slots := sl2 } ∧
        (∀ j (h1 : j < items.size) (h2 : j < items2.size), EqP prog w A.in1 s items[j] items2[j] (e j)) ∧
        R (.ok (.ret (.bool (!((List.range items.size).drop i).all e)))) s) := by
  induction k with
  | zero =>
    intro i hk A R s h
    obtain ⟨hp, g, d, tk, os⟩ := s; obtain ⟨hl, hb, he, h⟩ := h
    wp_walk using wpAny_loadPart' hl, wpAny_loadPart' hb
    have hi1 : items[((i : Nat) : Int).toNat]? = none := by simp; omega
    have hi2 : items2[((i : Nat) : Int).toNat]? = none := by simp; omega
    have hd : (List.range items.size).drop i = [] := by simp; omega
    rw [hd] at h
    rw [hi1, hi2]
    wp_walk using wpAny_loadPart' hl, wpAny_loadPart' hb
    show R (.ok (.ret (.bool (items.size != items2.size)))) _
    rw [hsz]
    simpa using h
  | succ k ih =>
    intro i hk A R s h
    obtain ⟨hp, g, d, tk, os⟩ := s; obtain ⟨hl, hb, he, h⟩ := h
    wp_walk using wpAny_loadPart' hl, wpAny_loadPart' hb
    have hlt : i < items.size := by omega
    have hlt2 : i < items2.size := by omega
    have hi1 : items[((i : Nat) : Int).toNat]? = some items[i] := by simp [hlt]
    have hi2 : items2[((i : Nat) : Int).toNat]? = some items2[i] := by simp [hlt2]
    have hd : (List.range items.size).drop i = i :: (List.range items.size).drop (i + 1) := by simp [List.drop_eq_getElem_cons, hlt]
    have hc : ((i : Int) + 1) = ((i + 1 : Nat) : Int) := by push_cast; rfl
    rw [hd, List.all_cons] at h
    rw [hi1, hi2]
    refine wpAny_bind (he i hlt hlt2 _ _ ?_)
    cases hb' : e i with
    | true =>
      rw [hb'] at h
      wp_walk
      rw [hc]
      exact ⟨plainId_quiet plain_eq_loop _, codeAny_builtin entry_eq_loop (by
        rw [Around.under_plainId plain_eq_loop _]
        exact ih (i + 1) (by omega) A R _ ⟨hl, hb, he, by simpa using h⟩)⟩
    | false =>
      rw [hb'] at h
      wp_walk using wpAny_loadPart' hl, wpAny_loadPart' hb
      rw [hi1, hi2]
      wp_walk
      simpa using h
theorem tn_list_neIn (l b : Addr) (items items2 : Array Value) (n n2 : Nat) (dd dd2 : Option Addr) (sl sl2 : Array (Option Value)) (hsz : items.size = items2.size) (e : Nat → Bool) :
    MeetsIn prog w (Builtin.«list.__ne__» ⟨[.ref l, .ref b], []⟩)
      (fun A R s => s.heap.get? l = some { cls := .type "list", dict := dd, data := .seq items n, slots := sl } ∧ s.heap.get? b = some { cls := .type "list", dict := dd2, data := .seq items2 n2, slots := sl2 } ∧
        (∀ j (h1 : j < items.size) (h2 : j < items2.size), EqP prog w A.in1 s items[j] items2[j] (e j)) ∧
        R (.ok (.ret (.bool (!(List.range items.size).all e)))) s) := by
  intro A R s h
  obtain ⟨hp, g, d, tk, os⟩ := s; obtain ⟨hl, hb, he, h⟩ := h
  have f3 := AutoSeq1.sub_list_list
  have hne : ¬ (items.size != items2.size) = true := by simp [hsz]
  wp_walk using wpAny_loadPart' hl, wpAny_loadPart' hb
  exact ⟨plainId_quiet plain_eq_loop _, codeAny_builtin entry_eq_loop (by
    rw [Around.under_plainId plain_eq_loop _]
    exact tn_ne_loopIn l b items items2 n n2 dd dd2 sl sl2 hsz e _ 0 rfl A R _ ⟨hl, hb, he, by simpa using h⟩)⟩
theorem rcP_ne_lists {A : Around} {s : Shared} {l b : Addr} {items items2 : Array Value} {e : Nat → Bool} (hl : s.heap.IsList l items) (hb : s.heap.IsList b items2) (hsz : items.size = items2.size) (hu : A.units < cLine)
    (he : ∀ j (h1 : j < items.size) (h2 : j < items2.size), EqP prog w A.in1 s items[j] items2[j] (e j)) (E Q : Value → Shared → Prop) (h : Q (.bool (!(List.range items.size).all e)) s) : wpAny (model prog w) A (richCompare .NotEq (.ref l) (.ref b)) Q E s := by
  obtain ⟨⟨cls, dd, data, sl⟩, ho, hc, n, hd⟩ := id hl
  obtain ⟨⟨cls2, dd2, data2, sl2⟩, ho2, hc2, n2, hd2⟩ := id hb
  simp only at hc hd hc2 hd2
  subst hc hd hc2 hd2
  have ta : s.TypeIs (.ref l) "list" := ⟨_, ho, rfl⟩
  have tb : s.TypeIs (.ref b) "list" := ⟨_, ho2, rfl⟩
  exact wpAny_richCompare_same_room (op := .NotEq) ta tb F.slot_list_ne (call_meetsIn F.slot_list_ne ta F.entry_list_ne (F.args_list_ne_2 _ _) (tn_list_neIn l b items items2 n n2 dd dd2 sl sl2 hsz e)
    ⟨ho, ho2, he, show Value.bool (!(List.range items.size).all e) ≠ Value.notImplemented ∧ Q (.bool (!(List.range items.size).all e)) s from ⟨(fun x => nomatch x), h⟩⟩) hu
end
end PySem.SeqAt
namespace TL
open PySem PySem.Spec PyProof.Rows L2
/-- equal, of nesting below n: as data, or two lists or dicts of equal items -/
def EqW (K : PySem.W.Frag) (H : Hp) : Nat → V → V → Prop
  | 0 => fun _ _ => False
  | n + 1 => fun x y => (∃ d e, Dp K H x d ∧ Dp K H y e ∧ SeqAt.shaped d = true ∧ SeqAt.shaped e = true ∧ PyData.eqv d e = true) ∨ EqR K H (EqW K H n) x y
section
variable {X : Cx} {pins : List (Addr × Obj)} {σ : L2.St} {H : Hp} {s : Shared}
theorem eqW_run (I : Inv X pins σ H s) : ∀ (n : Nat) (A : Around), A.units + n + 66 < cLine → ∀ (x y : V) (v u : Value), EqW X.K H n x y → RelV x v → RelV y u → SeqAt.EqP X.prog X.w A s v u true
  | 0, _, _, _, _, _, _, h, _, _ => (show False from h).elim
  | n + 1, A, hu, x, y, v, u, h, rx, ry => by
    rcases h with ⟨d, e, hd, he, sd, se, q⟩ | h
    · obtain ⟨as, r1⟩ := Dp.reads I d x v hd rx
      obtain ⟨bs, r2⟩ := Dp.reads I e y u he ry
      have := SeqAt.eqAt_reads d e A s v u as bs r1 r2 (SeqAt.canLay_of_shaped sd) (SeqAt.canLay_of_shaped se) (SeqAt.room_of_shaped sd (by omega))
      rw [q] at this
      exact this.eqP
    · have step := eqR_run I (A := A) (by omega) (eqW_run I n A.in1 (by show A.units + 1 + n + 66 < cLine; omega)) h rx ry
      obtain ⟨a, b, rfl, rfl⟩ : ∃ a b, x = .ref a ∧ y = .ref b := by
        rcases h with ⟨a, b, _, _, e1, e2, _⟩ | ⟨a, b, _, _, e1, e2, _⟩
        · exact ⟨a, b, e1, e2⟩
        · exact ⟨a, b, e1, e2⟩
      cases (show v = Value.ref a from rx)
      cases (show u = Value.ref b from ry)
      by_cases e : a = b
      · subst e
        exact (SeqAt.EqAt.same _).eqP
      · exact SeqAt.eqP_refs e step
/-- two lists of equal items -/
def EqL (K : PySem.W.Frag) (H : Hp) (E : V → V → Prop) (x y : V) : Prop := ∃ a b xs ys, x = .ref a ∧ y = .ref b ∧ SqL K H a xs ∧ SqL K H b ys ∧ Paired E xs ys
theorem neL_run (I : Inv X pins σ H s) {A : Around} {F : V → V → Prop} (hu : A.units < cLine) (ih : ∀ x y v u, F x y → RelV x v → RelV y u → SeqAt.EqP X.prog X.w A.in1 s v u true) {x y : V} {v u : Value} (h : EqL X.K H F x y) (rx : RelV x v) (ry : RelV y u)
    (E Q : Value → Shared → Prop) (q : Q (.bool false) s) : wpAny (model X.prog X.w) A (richCompare .NotEq v u) Q E s := by
  obtain ⟨a, b, xs, ys, rfl, rfl, ha, hb, hp⟩ := h
  cases (show v = Value.ref a from rx)
  cases (show u = Value.ref b from ry)
  obtain ⟨us, r1, p1, _⟩ := I.list ha
  obtain ⟨ws, r2, p2, _⟩ := I.list hb
  have hsz : us.toArray.size = ws.toArray.size := by
    rw [List.size_toArray, List.size_toArray, ← r1.length, ← r2.length]
    exact Paired.length hp
  refine SeqAt.rcP_ne_lists (e := fun _ => true) p1.isList p2.isList hsz hu (fun j h1 h2 => ?_) E Q ?_
  · have k := items_run ih hp r1 r2 j (by simpa using h1) (by simpa using h2)
    simpa using k
  · rw [show ((List.range us.toArray.size).all fun _ => true) = true from List.all_eq_true.mpr fun _ _ => rfl]
    exact q
end
section
variable {X : Cx}
def rEqW (K : PySem.W.Frag) : R2 := fun x y H Q => EqL K H (EqW K H 4) x y ∧ Q (.bl true) H
def rNeW (K : PySem.W.Frag) : R2 := fun x y H Q => EqL K H (EqW K H 4) x y ∧ Q (.bl false) H
theorem op_eqW (hu : X.A.units + 80 < cLine) : OpR X (compareOp .Eq) (rEqW X.K) := by
  intro pins s σ H x y v u Q I rx ry h
  obtain ⟨h, q⟩ := h
  exact eqR_run I (A := X.A) (by omega) (eqW_run I 4 X.A.in1 (by show X.A.units + 1 + 4 + 66 < cLine; omega)) (.inl h) rx ry _ _ ⟨.bl true, H, I, rfl, q⟩
theorem op_neW (hu : X.A.units + 80 < cLine) : OpR X (compareOp .NotEq) (rNeW X.K) := by
  intro pins s σ H x y v u Q I rx ry h
  obtain ⟨h, q⟩ := h
  exact neL_run I (A := X.A) (by omega) (eqW_run I 4 X.A.in1 (by show X.A.units + 1 + 4 + 66 < cLine; omega)) h rx ry _ _ ⟨.bl false, H, I, rfl, q⟩
end
end TL

set_option Elab.async false
set_option linter.all false
set_option maxRecDepth 100000
set_option maxHeartbeats 1000000
/-! TN3: deep == in the store; constants of the module; dict(d). -/
namespace TL
open PySem PySem.Spec PyProof.Rows L2
def all2 (f : PV → PV → Bool) : List PV → List PV → Bool
  | [], [] => true
  | x :: xs, y :: ys => f x y && all2 f xs ys
  | _, _ => false
def datB (S : Store) (x y : PV) : Bool := match toD S 66 x, toD S 66 y with
  | some d, some e => SeqAt.shaped d && (SeqAt.shaped e && PyData.eqv d e)
  | _, _ => false
def dicB (f : PV → PV → Bool) (ks ls : List (PV × PV)) : Bool := !ks.isEmpty && (decide (ks.length = ls.length) && ks.all fun p => (keyOf p.1).isSome && match dget ls p.1 with
  | some u => f p.2 u
  | none => false)
/-- equal, at most n deep -/
def deepB (S : Store) : Nat → PV → PV → Bool
  | 0 => fun _ _ => false
  | n + 1 => fun x y => datB S x y || match x, y with
    | .obj i, .obj j => match S[i]?, S[j]? with
      | some (.lst xs), some (.lst ys) => all2 (deepB S n) xs ys
      | some (.dic false ks), some (.dic false ls) => dicB (deepB S n) ks ls
      | _, _ => false
    | _, _ => false
section
variable {K : PySem.W.Frag} {mg : Str → Option Value} {m : Mp} {S : Store} {H : Hp}
theorem all2_pair {F : V → V → Prop} {f : PV → PV → Bool} (ih : ∀ x y v u, f x y = true → Rp K m H x v → Rp K m H y u → F v u) : ∀ {xs ys : List PV} {vs us : List V}, all2 f xs ys = true → Rps K m H xs vs → Rps K m H ys us → Paired F vs us
  | [], [], vs, us, _, h1, h2 => by
    have e1 : vs = [] := h1
    have e2 : us = [] := h2
    subst e1 e2
    exact .nil
  | x :: xs, y :: ys, vs, us, h, h1, h2 => by
    obtain ⟨v, r, rfl, a1, a2⟩ := h1
    obtain ⟨u, q, rfl, b1, b2⟩ := h2
    have h' := Bool.and_eq_true_iff.mp h
    exact .cons (ih _ _ _ _ h'.1 a1 b1) (all2_pair ih h'.2 a2 b2)
  | [], _ :: _, _, _, h, _, _ => nomatch h
  | _ :: _, [], _, _, h, _, _ => nomatch h
theorem KvK.mem : ∀ {kvs : List (PV × PV)} {l : List (Key × V)} {p : Key × V}, KvK K m H kvs l → p ∈ l → ∃ q ∈ kvs, keyOf q.1 = some p.1 ∧ Rp K m H q.2 p.2
  | [], l, p, h, hp => by
    have e : l = [] := h
    rw [e] at hp
    cases hp
  | q :: kvs, l, p, h, hp => by
    obtain ⟨r, l', rfl, h1, h2, h3⟩ := h
    rcases List.mem_cons.mp hp with z | z
    · rw [z]; exact ⟨q, List.mem_cons_self .., h1, h2⟩
    · obtain ⟨q', a, b⟩ := KvK.mem h3 z
      exact ⟨q', List.mem_cons_of_mem _ a, b⟩
theorem KvK.len : ∀ {kvs : List (PV × PV)} {l : List (Key × V)}, KvK K m H kvs l → l.length = kvs.length
  | [], l, h => by
    have e : l = [] := h
    rw [e]; rfl
  | q :: kvs, l, h => by
    obtain ⟨r, l', rfl, h1, h2, h3⟩ := h
    rw [List.length_cons, List.length_cons, KvK.len h3]
theorem Rel.dicK (r : Rel K mg m S H) {i : Nat} {ks : List (PV × PV)} (e : S[i]? = some (.dic false ks)) {p : PV × PV} (hp : p ∈ ks) (hk : (keyOf p.1).isSome = true) : ∃ l, H (m i) = some (.dK l) ∧ KvK K m H ks l := by
  rcases r.ob i _ e with ⟨l, h1, h2⟩ | ⟨l, h1, h2⟩
  · exact ⟨l, h1, h2⟩
  · exfalso
    have : ∀ {kvs : List (PV × PV)} {l : List (List Key × V)}, KvT K m H kvs l → p ∈ kvs → False := by
      intro kvs
      induction kvs with
      | nil => intro l _ hp; cases hp
      | cons q kvs ih =>
        intro l h hp
        obtain ⟨r, l', rfl, h1, h2, h3⟩ := h
        rcases List.mem_cons.mp hp with z | z
        · rw [← z] at h1
          have := keyOf_tkey hk
          rw [h1] at this
          cases this
        · exact ih h3 z
    exact this h2 hp
theorem deep_ok (r : Rel K mg m S H) : ∀ (n : Nat) (x y : PV) (v u : V), deepB S n x y = true → Rp K m H x v → Rp K m H y u → EqW K H n v u
  | 0, _, _, _, _, h, _, _ => nomatch h
  | n + 1, x, y, v, u, h, rx, ry => by
    have h' := Bool.or_eq_true_iff.mp h
    rcases h' with h' | h'
    · refine .inl ?_
      unfold datB at h'
      cases e1 : toD S 66 x with
      | none => rw [e1] at h'; cases h'
      | some d =>
        cases e2 : toD S 66 y with
        | none => rw [e1, e2] at h'; cases h'
        | some e =>
          rw [e1, e2] at h'
          simp only [Bool.and_eq_true] at h'
          exact ⟨d, e, dp_of r 66 x v d rx e1, dp_of r 66 y u e ry e2, h'.1, h'.2.1, h'.2.2⟩
    · refine .inr ?_
      cases x with
      | obj i =>
        cases y with
        | obj j =>
          have ev : v = .ref (m i) := rx
          have eu : u = .ref (m j) := ry
          subst ev eu
          simp only at h'
          cases ei : S[i]? with
          | none => rw [ei] at h'; cases h'
          | some o =>
            cases ej : S[j]? with
            | none =>
              rw [ei, ej] at h'
              cases o with
              | lst _ => cases h'
              | dic lk _ => cases lk <;> cases h'
              | ins _ _ => cases h'
            | some p =>
              rw [ei, ej] at h'
              cases o with
              | lst xs =>
                cases p with
                | lst ys =>
                  obtain ⟨_, vs, a1, a2⟩ := r.lst ei
                  obtain ⟨_, us, b1, b2⟩ := r.lst ej
                  exact .inl ⟨_, _, vs, us, rfl, rfl, SqL.of a1, SqL.of b1, all2_pair (fun x y v u h1 h2 h3 => deep_ok r n x y v u h1 h2 h3) h' a2 b2⟩
                | _ => cases h'
              | dic lk ks =>
                cases lk with
                | true => cases p <;> cases h'
                | false =>
                  cases p with
                  | dic lk2 ls =>
                    cases lk2 with
                    | true => cases h'
                    | false =>
                      have h'' : dicB (deepB S n) ks ls = true := h'
                      unfold dicB at h''
                      rw [Bool.and_eq_true, Bool.and_eq_true, List.all_eq_true] at h''
                      obtain ⟨d1, d2, d3⟩ := h''
                      have d2' := of_decide_eq_true d2
                      obtain ⟨p0, hp0⟩ : ∃ p0, p0 ∈ ks := by
                        cases ks with
                        | nil => cases d1
                        | cons a l => exact ⟨a, List.mem_cons_self ..⟩
                      obtain ⟨k0, _⟩ := Bool.and_eq_true_iff.mp (d3 p0 hp0)
                      obtain ⟨l, a1, a2⟩ := r.dicK ei hp0 k0
                      obtain ⟨q0, hq0, kq⟩ : ∃ q0 ∈ ls, (keyOf q0.1).isSome = true := by
                        have h3 := (Bool.and_eq_true_iff.mp (d3 p0 hp0)).2
                        cases e : dget ls p0.1 with
                        | none => rw [e] at h3; cases h3
                        | some w =>
                          unfold dget at e
                          cases e2 : ls.find? (fun kv => decide (kv.1 = p0.1)) with
                          | none => rw [e2] at e; cases e
                          | some q =>
                            have e3 : q.1 = p0.1 := of_decide_eq_true (List.find?_some (p := fun kv : PV × PV => decide (kv.1 = p0.1)) e2)
                            exact ⟨q, List.mem_of_find?_eq_some e2, by rw [e3]; exact k0⟩
                      obtain ⟨l2, b1, b2⟩ := r.dicK ej hq0 kq
                      refine .inr ⟨_, _, l, l2, rfl, rfl, a1, b1, by rw [a2.len, b2.len]; exact d2', fun p hp => ?_⟩
                      obtain ⟨q, hq, e1, e2⟩ := a2.mem hp
                      have h3 := (Bool.and_eq_true_iff.mp (d3 q hq)).2
                      cases e : dget ls q.1 with
                      | none => rw [e] at h3; cases h3
                      | some w =>
                        rw [e] at h3
                        obtain ⟨z, hz, rz⟩ := (b2.get e1).1 w e
                        exact ⟨z, hz, deep_ok r n _ _ _ _ h3 e2 rz⟩
                  | _ => cases h'
              | ins _ _ => cases p <;> cases h'
        | _ => cases h'
      | _ => cases h'
end
/-- x == y, two lists that are equal, deep -/
def eqW (g : Bool → Bool) : F2 := fun x y S => match x, y with
  | .obj i, .obj j => match S[i]?, S[j]? with
    | some (.lst xs), some (.lst ys) => if all2 (deepB S 4) xs ys = true then .ok (.bl (g true)) S else .stuck
    | _, _ => .stuck
  | _, _ => .stuck
abbrev eqWV : F2 := eqW fun b => b
abbrev neWV : F2 := eqW fun b => !b
theorem op2_eqW {K : PySem.W.Frag} {mg : Str → Option Value} (g : Bool → Bool) : Op2 K mg (eqW g) (fun x y H Q => EqL K H (EqW K H 4) x y ∧ Q (.bl (g true)) H) := by
  intro W σ m S H x y v u Q rel rx ry f
  unfold eqW at f
  split at f
  · rename_i i j
    have ev : v = .ref (m i) := rx.2
    have eu : u = .ref (m j) := ry.2
    subst ev eu
    split at f
    · rename_i xs ys ei ej
      split at f
      · rename_i h
        obtain ⟨_, vs, a1, a2⟩ := rel.lst ei
        obtain ⟨_, us, b1, b2⟩ := rel.lst ej
        exact ⟨⟨_, _, vs, us, rfl, rfl, SqL.of a1, SqL.of b1, all2_pair (fun x y v u h1 h2 h3 => deep_ok rel 4 x y v u h1 h2 h3) h a2 b2⟩, f.here rel ⟨rfl, rfl⟩⟩
      · exact f.elim
    · exact f.elim
  · exact f.elim
/-! ### constants of the module -/
def cvB (K : PySem.W.Frag) : Nat → PV → Value → Bool
  | _, .int i, .int j _ => decide (i = j)
  | _, .str x, .str y _ => decide (x = y)
  | _, .non, .none => true
  | n + 1, .kup xs, .ref a => match K.lookup a with
    | some o => (decide (o.cls = .type "tuple") && o.dict.isNone) && match o.data with
      | .seq its _ => decide (its.size ≤ sizeLine) && (decide (xs.length = its.toList.length) && (xs.zip its.toList).all fun p => cvB K n p.1 p.2)
      | _ => false
    | none => false
  | _, _, _ => false
structure CstR (K : PySem.W.Frag) (x : PV) (v : Value) : Prop where
  ex : ∃ w : V, RelV w v ∧ (∀ m H, Rp K m H x w) ∧ ∀ n, bnd n x = true
theorem cv_list {K : PySem.W.Frag} {f : PV → Value → Bool} (ih : ∀ x v, f x v = true → CstR K x v) : ∀ (xs : List PV) (its : List Value), xs.length = its.length → (xs.zip its).all (fun p => f p.1 p.2) = true → ∃ ws : List V, Vals ws its ∧ (∀ m H, Rps K m H xs ws) ∧ ∀ n, bnds n xs = true
  | [], [], _, _ => ⟨[], .nil, fun _ _ => rfl, fun _ => rfl⟩
  | x :: xs, v :: its, hl, h => by
    rw [List.zip_cons_cons, List.all_cons] at h
    obtain ⟨h1, h2⟩ := Bool.and_eq_true_iff.mp h
    obtain ⟨w, r1, r2, r3⟩ := (ih x v h1).ex
    obtain ⟨ws, q1, q2, q3⟩ := cv_list ih xs its (by simpa using hl) h2
    exact ⟨w :: ws, .cons r1 q1, fun m H => ⟨w, ws, rfl, r2 m H, q2 m H⟩, fun n => Bool.and_eq_true_iff.mpr ⟨r3 n, q3 n⟩⟩
  | [], _ :: _, hl, _ => by simp at hl
  | _ :: _, [], hl, _ => by simp at hl
theorem cv_ok {K : PySem.W.Frag} : ∀ (n : Nat) (x : PV) (v : Value), cvB K n x v = true → CstR K x v := by
  intro n
  induction n with
  | zero =>
    intro x v h
    unfold cvB at h
    split at h
    · exact ⟨V.int _, ⟨_, rfl⟩, fun _ _ => congrArg V.int (of_decide_eq_true h).symm, fun _ => rfl⟩
    · exact ⟨V.str _, ⟨_, rfl⟩, fun _ _ => congrArg V.str (of_decide_eq_true h).symm, fun _ => rfl⟩
    · exact ⟨.non, rfl, fun _ _ => rfl, fun _ => rfl⟩
    · contradiction
    · cases h
  | succ n ih =>
    intro x v h
    unfold cvB at h
    split at h
    · exact ⟨V.int _, ⟨_, rfl⟩, fun _ _ => congrArg V.int (of_decide_eq_true h).symm, fun _ => rfl⟩
    · exact ⟨V.str _, ⟨_, rfl⟩, fun _ _ => congrArg V.str (of_decide_eq_true h).symm, fun _ => rfl⟩
    · exact ⟨.non, rfl, fun _ _ => rfl, fun _ => rfl⟩
    · rename_i k xs a e
      cases e
      split at h
      · rename_i o eo
        obtain ⟨h1, h2⟩ := Bool.and_eq_true_iff.mp h
        split at h2
        · rename_i its c ed
          simp only [Bool.and_eq_true] at h2
          obtain ⟨z, l, q⟩ := h2
          obtain ⟨h1, h1d⟩ := Bool.and_eq_true_iff.mp h1
          obtain ⟨ws, w1, w2, w3⟩ := cv_list ih xs its.toList (of_decide_eq_true l) q
          exact ⟨.ref a, rfl, fun m H => ⟨a, ws, rfl, .inr ⟨o, its, c, eo, of_decide_eq_true h1, Option.isNone_iff_eq_none.mp h1d, ed, of_decide_eq_true z, w1⟩, w2 m H⟩, w3⟩
        · cases h2
      · cases h
    · cases h
def conB (K : PySem.W.Frag) (x : Str) (c : PV) : Bool := match PySem.W.nsIn K mainGlobals x with
  | some (some v) => cvB K 4 c v
  | _ => false
structure CstF (K : PySem.W.Frag) (mg : Str → Option Value) (x : Str) (c : PV) : Prop where
  ex : ∃ v, mg x = some v ∧ CstR K c v
theorem con_ok {K : PySem.W.Frag} {h : Heap} {mg : Str → Option Value} (X : K.In h) (G : h.Ns mainGlobals mg) {x : Str} {c : PV} (e : conB K x c = true) : CstF K mg x c := by
  unfold conB at e
  split at e
  · rename_i v ev
    exact ⟨v, PySem.W.mg_of X G ev, cv_ok 4 c v e⟩
  · cases e
theorem de_con {X : Cx} {W : WX} {x : Str} {c : PV} {pos : Pos} (C : CstF X.K X.mg x c) (hg : Gl X x := by rfl) (hd : (x == ("__debug__" : Str)) = false := by decide) : DE X W (.Name x pos) (eK c) := by
  obtain ⟨v, hm, w, r1, r2, r3⟩ := C
  exact de_k (pe_glob hg hm r1 hd) r3 r2
/-! ### dict(d) -/
section
variable {K : PySem.W.Frag} {mg : Str → Option Value}
def rDictV (K : PySem.W.Frag) : List V → Hp → VK → Prop := fun xs H Q => ∃ (a : Addr) (kvs : List (Key × V)), xs = [.ref a] ∧ Rd H a (.dK kvs) ∧ ∀ p, H p = none → Q (.ref p) (upd H p (.dK kvs))
def dictV' : FB := fun xs S => match xs with
  | [.obj i] => match S[i]? with
    | some (.dic _ (p :: kvs)) => if (keyOf p.1).isSome = true then .ok (.obj S.length) (S ++ [.dic false (p :: kvs)]) else .stuck
    | _ => .stuck
  | _ => .stuck
theorem opC_dict : OpC K mg dictV' (rDictV K) := by
  intro W σ m S H xs vs Q rel ra f
  unfold dictV' at f
  split at f
  · rename_i i
    obtain ⟨v, rfl, b, ev⟩ := one_of ra
    have ev' : v = .ref (m i) := ev
    subst ev'
    split at f
    · rename_i lk p kvs e
      split at f
      · rename_i hk
        have wf := rel.wf i _ e
        have noT : ∀ l, KvT K m H (p :: kvs) l → False := fun l h => by
          obtain ⟨r, l', rfl, h1, _⟩ := h
          have := keyOf_tkey hk
          rw [h1] at this
          cases this
        cases lk with
        | false =>
          rcases rel.ob i _ e with ⟨l, h1, h2⟩ | ⟨l, h1, h2⟩
          · exact ⟨_, l, rfl, .inl h1, fun q hq => f.dicK rel wf h2 hq⟩
          · exact (noT l h2).elim
        | true =>
          rcases rel.ob i _ e with ⟨o, l, h1, h2⟩ | ⟨o, l, h1, h2⟩
          · exact ⟨_, l, rfl, .inr ⟨o, h1⟩, fun q hq => f.dicK rel wf h2 hq⟩
          · exact (noT l h2).elim
      · exact f.elim
    · exact f.elim
  · exact f.elim
end
end TL

set_option Elab.async false
set_option linter.all false
set_option maxRecDepth 100000
set_option maxHeartbeats 1000000
/-! TN4: o[k] += e; range with a step; reversed in a for; written dicts. -/
namespace TL
open PySem PySem.Spec PyProof.Rows L2
/-! ### o[k] += e -/
section
variable {X : Cx}
theorem get_or {r r' : V → V → Hp → VK → Prop} (h : PGet X r) (h' : PGet X r') : PGet X (fun x y H Q => r x y H Q ∨ r' x y H Q) := by
  intro pins s σ H x y v u Q I rx ry q
  rcases q with q | q
  · exact h pins s σ H x y v u Q I rx ry q
  · exact h' pins s σ H x y v u Q I rx ry q
theorem get_cv {r : R2} (h : PGet X r) : PGet X (cv2 r) := by
  intro pins s σ H x y v u Q I rx ry q
  obtain ⟨H', c, q⟩ := q
  exact h pins s σ H' x y v u Q (Inv.cv I c) rx ry q
theorem get_list : PGet X (rIxL X.K) := by
  intro pins s σ H x y v u Q I rx ry h
  obtain ⟨p, xs, i, z, rfl, rfl, hq, he, q⟩ := h
  cases rx
  obtain ⟨t, rfl⟩ := ry
  obtain ⟨its, r, pl, hz⟩ := I.list hq
  obtain ⟨j, h1, h2, h3, h4, h5⟩ := atI_get he
  obtain ⟨w, ew, rw'⟩ := r.get h2
  have hl := r.length
  have hn := line63
  have fin : EP X pins σ Q w s := ⟨z, H, I, rw', q⟩
  by_cases h0 : 0 ≤ i
  · have hj : i.toNat = j := by
      rw [seqIndex_of h0 h5] at h1
      exact Option.some.inj h1
    exact wpAny_getItem_list pl.isList h0 (by omega) (by rw [hj]; simpa using ew) fin
  · have hj : (i + (its.toArray.size : Int)).toNat = j := by
      rw [seqIndex_neg (by omega) h4] at h1
      rw [List.size_toArray, ← hl]
      exact Option.some.inj h1
    exact wpAny_getItem_list_neg pl.isList (by omega) (by rw [List.size_toArray] <;> omega) (by omega) (by rw [hj]; simpa using ew) fin
theorem get_tup : PGet X (rIxT X.K) := by
  intro pins s σ H x y v u Q I rx ry h
  obtain ⟨p, xs, i, z, rfl, rfl, hq, he, q⟩ := h
  cases rx
  obtain ⟨t, rfl⟩ := ry
  obtain ⟨its, r, pl, hz⟩ := I.tuple hq
  obtain ⟨j, h1, h2, h3, h4, h5⟩ := atI_get he
  obtain ⟨w, ew, rw'⟩ := r.get h2
  have hl := r.length
  have hn := line63
  have fin : EP X pins σ Q w s := ⟨z, H, I, rw', q⟩
  exact PyProof.Rows.getItem_tuple (j := j) pl (by omega) (by omega) (by rw [List.size_toArray, ← hl]; exact h1) (by simpa using ew) fin
theorem get_str : PGet X rIxS := by
  intro pins s σ H x y v u Q I rx ry h
  obtain ⟨z, i, c, rfl, rfl, hz, he, q⟩ := h
  obtain ⟨t, rfl⟩ := rx
  obtain ⟨t', rfl⟩ := ry
  obtain ⟨j, h1, h2, h3, h4, h5⟩ := atI_get he
  have hl : z.cps.toList.length = z.length := by simp [Str.length]
  rw [hl] at h1 h4 h5
  have hn := line63
  exact PyProof.Rows.getItem_str (c := c) (by
    have e1 : decide (i < -(2 ^ 63 : Int)) = false := decide_eq_false (by omega)
    have e2 : decide (i ≥ 2 ^ 63) = false := decide_eq_false (by omega)
    rw [e1, e2, Bool.or_false]) (by rw [h1]; simpa using h2) ⟨.str ⟨#[c]⟩, H, I.tok _, ⟨_, rfl⟩, q⟩
theorem get_dic (hu : X.A.units + 1 < cLine) : PGet X rGetD := by
  intro pins s σ H x y v u Q I rx ry h
  obtain ⟨a, z, rfl, g, q⟩ := h
  obtain rfl : v = Value.ref a := rx
  exact d_getItem hu I g ry fun w' s' I' r => ⟨z, H, I', r, q⟩
theorem get_V (hu : X.A.units + 1 < cLine) : PGet X (rGetV X.K) := get_cv (get_or (get_or get_list (get_or get_tup get_str)) (get_dic hu))
def sAugIx (co ci : CE PV) (f : F2) (c : CE PV) : CS := fun ρ S => sb (co ρ S) ρ fun o S1 => sb (ci ρ S1) ρ fun k S2 => sb (getV o k S2) ρ fun x S3 => sb (c ρ S3) ρ fun y S4 => sb (f x y S4) ρ fun z S5 => match setV o k z S5 with
  | some S6 => .next ρ S6
  | none => .stuck
theorem ds_augIx {W : WX} {pos tpos : Pos} {o i e : Expr} {co ci c : CE PV} {op : Operator} {tip : TIp} {f : F2} (hu : X.A.units + 1 < cLine) (hp : PIp X op tip) (o2 : Op2 X.K X.mg f tip) (ho : DE X W o co) (hi : DE X W i ci) (he : DE X W e c)
    (ha : ∀ ov iv new, augStore i ov iv new = (do holding [new, ov, iv] (setItem ov iv new); release [new, ov, iv] []; pure .next) := by intros; rfl) : DS X W (.AugAssign (.Subscript o i tpos) op e pos) (sAugIx co ci f c) :=
  ps_imp (ps_augS ho hi (get_V hu) he hp (set_V hu) ha) fun D σ H h => by
    obtain ⟨m, S, ρ, at_, fin⟩ := h
    refine ⟨m, S, ρ, at_, (FinS.bind at_ fin).mono fun ov H1 h1 => ?_⟩
    obtain ⟨m1, S1, xo, at1, r1, e1, l1, f1⟩ := h1
    refine ⟨m1, S1, ρ, at1, (FinS.bind at1 f1).mono fun iv H2 h2 => ?_⟩
    obtain ⟨m2, S2, xi, at2, r2, e2, l2, f2⟩ := h2
    have ro2 := stbV e2 l2 r1
    refine op2_get W σ m2 S2 H2 xo xi ov iv _ at2.rel ro2 r2 ((FinS.bind at2 f2).mono fun old H3 h3 => ?_)
    obtain ⟨m3, S3, xx, at3, r3, e3, l3, f3⟩ := h3
    have ro3 := stbV e3 l3 ro2
    have ri3 := stbV e3 l3 r2
    refine ⟨m3, S3, ρ, at3, (FinS.bind at3 f3).mono fun y H4 h4 => ?_⟩
    obtain ⟨m4, S4, xy, at4, r4, e4, l4, f4⟩ := h4
    have ro4 := stbV e4 l4 ro3
    have ri4 := stbV e4 l4 ri3
    refine o2 W σ m4 S4 H4 xx xy old y _ at4.rel (stbV e4 l4 r3) r4 ((FinS.bind at4 f4).mono fun z H5 h5 => ?_)
    obtain ⟨m5, S5, xz, at5, r5, e5, l5, f5⟩ := h5
    dsimp only at f5
    cases q : setV xo xi xz S5 with
    | none => rw [q] at f5; exact f5.elim
    | some S6 =>
      rw [q] at f5
      exact set_ok at5.rel (stbV e5 l5 ro4) (stbV e5 l5 ri4) r5 q fun H' ex el r' => f5 m5 H' σ ex (by omega) ⟨r', at5.env.ext ex (by omega)⟩
end
/-! ### range(a, b, c), reversed(xs) in a for -/
section
variable {X : Cx} {W : WX} {pos p : Pos} {tg a b c : Expr} {ca cb cc : CE PV}
def rngC (i c : Int) (n : Nat) : List PV := (List.range n).map fun (t : Nat) => PV.int (i + (t : Int) * c)
theorem itR_rngC {K : PySem.W.Frag} {mg : Str → Option Value} {m : Mp} {S : Store} {H : Hp} {lo c : Int} {n : Nat} : ItR K mg (Itc lo c n) (rngC lo c n) [] S.length m H := by
  unfold rngC
  refine ⟨fun m' S' H' e l r _ => by show n ≤ _; simp, fun i m' S' H' e l r _ hi => by show i < n; simpa using hi, fun i m' S' H' v H'' e l r _ hi y => ?_⟩
  obtain ⟨rfl, ev⟩ := y
  subst ev
  have hi' : i < n := by simpa using hi
  refine ⟨.int (lo + i * c), ?_, Ext.refl, r, ⟨rfl, rfl⟩, fun _ _ => rfl⟩
  rw [List.getElem?_map, List.getElem?_range hi']
  rfl
instance (i j c : Int) (n : Nat) : Decidable (RgC i j c n) := by unfold RgC; infer_instance
def iRange3 (ca cb cc : CE PV) : CE (List PV × Chk) := fun ρ S => (ca ρ S).bind fun x S1 => (cb ρ S1).bind fun y S2 => (cc ρ S2).bind fun z S3 => match x, y, z with
  | .int i, .int j, .int k => if RgC i j k (Builtin.Range.rangeSize i j k).toNat then .ok (rngC i k (Builtin.Range.rangeSize i j k).toNat, []) S3 else .stuck
  | _, _, _ => .stuck
theorem di_range3 (hm : X.mg "range" = none) (ha : DE X W a ca) (hb : DE X W b cb) (hc : DE X W c cc) (hg : Gl X "range" := by rfl)
    (hs : starEach [a, b, c] X.env = (false, eval a X.env) :: starEach [b, c] X.env := by rfl) (hpl : (backTo pos (starEach [b, c] X.env)).any (·.1) = false := by rfl)
    (hs4 : starEach [b, c] X.env = (false, eval b X.env) :: starEach [c] X.env := by rfl) (hs5 : starEach [c] X.env = (false, eval c X.env) :: starEach [] X.env := by rfl) : DI X W tg (.Call (.Name "range" p) [a, b, c] [] pos) (iRange3 ca cb cc) := by
  refine pi_imp (pi_range3 hg hm (pa_cons ha (pa_cons hb (pa_cons hc pa_nil hs5) hs4) hs) hs hpl) fun σ H R h => ?_
  obtain ⟨m, S, ρ, at_, fin⟩ := h
  refine ⟨m, S, ρ, at_, (Fin.bind at_ fin).mono fun v H1 h1 => ?_⟩
  obtain ⟨m1, S1, x, at1, r1, e1, l1, f1⟩ := h1
  refine ⟨m1, S1, ρ, at1, (Fin.bind at1 f1).mono fun u H2 h2 => ?_⟩
  obtain ⟨m2, S2, y, at2, r2, e2, l2, f2⟩ := h2
  refine ⟨m2, S2, ρ, at2, (Fin.bind at2 f2).mono fun w H3 h3 => ?_⟩
  obtain ⟨m3, S3, z, at3, r3, e3, l3, f3⟩ := h3
  cases x with
  | int i =>
    cases y with
    | int j =>
      cases z with
      | int k =>
        have ev : v = .int i := r1.2
        have eu : u = .int j := r2.2
        have ew : w = .int k := r3.2
        subst ev eu ew
        simp only at f3
        by_cases q : RgC i j k (Builtin.Range.rangeSize i j k).toNat
        · rw [if_pos q] at f3
          exact ⟨i, j, k, _, rfl, q, f3.here at3.rel itR_rngC⟩
        · rw [if_neg q] at f3
          exact f3.elim
      | _ => exact f3.elim
    | _ => exact f3.elim
  | _ => exact f3.elim
def iRev (c : CE PV) : CE (List PV × Chk) := fun ρ S => (c ρ S).bind fun x S1 => match seqC x S1 with
  | some (.l, xs, ck) => .ok (xs.reverse, ck) S1
  | _ => .stuck
theorem di_rev (hm : X.mg "reversed" = none) (ha : DE X W a ca) (hg : Gl X "reversed" := by rfl) (hs : starEach [a] X.env = [(false, eval a X.env)] := by rfl) (hs2 : starEach [a] X.env = (false, eval a X.env) :: starEach [] X.env := by rfl) :
    DI X W tg (.Call (.Name "reversed" p) [a] [] pos) (iRev ca) := by
  refine pi_imp (pi_reversed hg hm (pa_cons ha pa_nil hs2) hs) fun σ H R h => ?_
  obtain ⟨m, S, ρ, at_, fin⟩ := h
  refine ⟨m, S, ρ, at_, (Fin.bind at_ fin).mono fun v H1 h1 => ?_⟩
  obtain ⟨m1, S1, x, at1, r1, e1, l1, f1⟩ := h1
  dsimp only at f1
  cases hx : seqC x S1 with
  | none => rw [hx] at f1; exact f1.elim
  | some t1 =>
    obtain ⟨d, xs, ck⟩ := t1
    rw [hx] at f1
    cases d with
    | t => exact f1.elim
    | l =>
      obtain ⟨q, rfl, hq⟩ := seqC_ok at1.rel r1 hx
      have c0 : chk ck S1 := by
        unfold seqC at hx
        cases x with
        | rol z => cases hx; exact chk_nil _
        | obj i =>
          simp only at hx
          split at hx
          · rename_i e
            cases hx
            exact chk_one e
          · cases hx
        | _ => cases hx
      obtain ⟨vs, v1, rr, _⟩ := hq m1 S1 H1 Ext.refl (Nat.le_refl _) at1.rel c0
      have hlen : vs.length = xs.length := rr.length
      refine ⟨q, vs, rfl, v1, f1.here at1.rel ⟨fun m' S' H' ex l r c => ?_, fun i m' S' H' ex l r c hi => ?_, fun i m' S' H' w H'' ex l r c hi yl => ?_⟩⟩
      · show vs.length ≤ xs.reverse.length
        rw [List.length_reverse, hlen]; exact Nat.le_refl _
      · obtain ⟨us, u1, r1, _⟩ := hq m' S' H' ex l r c
        have hi' : i < xs.length := by simpa using hi
        have hu := r1.length
        exact ⟨by rw [hlen]; exact hi', us, us[vs.length - 1 - i]'(by omega), u1, by simp⟩
      · obtain ⟨us, u1, r1, b1⟩ := hq m' S' H' ex l r c
        obtain ⟨rfl, f1'⟩ := yl
        have hi' : i < xs.length := by simpa using hi
        obtain ⟨z, ez, rz⟩ := r1.get' (f1' _ u1)
        rw [hlen] at ez
        exact ⟨z, by rw [List.getElem?_reverse hi']; exact ez, Ext.refl, r, ⟨bnds_get b1 ez, rz⟩, fun _ _ => rfl⟩
end
end TL
namespace TL
open PySem PySem.Spec PyProof.Rows L2
/-! ### what a test has made is dropped -/
open Classical in
noncomputable def gcT (S : Store) : Res Bool → Res Bool
  | .ok b S' => if S <+: S' then .ok b S else .ok b S'
  | .exc c none S' => if S <+: S' then .exc c none S else .exc c none S'
  | .exc c p S' => .exc c p S'
  | .stuck => .stuck
theorem Fin.gcT {K : PySem.W.Frag} {mg : Str → Option Value} {W : WX} {σ : L2.St} {m : Mp} {S : Store} {H : Hp} {Q : Bool → Hp → Prop} {r : Res Bool} (rel : Rel K mg m S H) (f : Fin K mg W σ m S H RB Q (gcT S r)) : Fin K mg W σ m S H RB Q r := by
  cases r with
  | stuck => exact f
  | ok b S' =>
    unfold TL.gcT at f
    dsimp only at f
    by_cases h : S <+: S'
    · rw [if_pos h] at f
      exact fun m' H' v e l r' rr => f m' H' v e (Nat.le_refl _) (rel.shrink r' h) rr
    · rw [if_neg h] at f
      exact f
  | exc c p S' =>
    cases p with
    | some p => exact f
    | none =>
      unfold TL.gcT at f
      dsimp only at f
      by_cases h : S <+: S'
      · rw [if_pos h] at f
        exact fun m' H' d e l r' xr => f m' H' d e (Nat.le_refl _) (rel.shrink r' h) xr
      · rw [if_neg h] at f
        exact f
noncomputable def tGc (c : CE Bool) : CE Bool := fun ρ S => gcT S (c ρ S)
theorem dt_gc {X : Cx} {W : WX} {a : Expr} {ca : CE Bool} (h : DT X W a ca) : DT X W a (tGc ca) := pt_imp h fun σ H Q h => by
  obtain ⟨m, S, ρ, at_, fin⟩ := h
  exact ⟨m, S, ρ, at_, Fin.gcT at_.rel fin⟩
@[simp] theorem tGc_ap (c : CE Bool) (ρ : Sl) (S : Store) : tGc c ρ S = gcT S (c ρ S) := rfl
@[simp] theorem gcT_self (S : Store) (b : Bool) : gcT S (.ok b S) = .ok b S := by
  unfold gcT
  simp
@[simp] theorem gcT_app (S J : Store) (b : Bool) : gcT S (.ok b (S ++ J)) = .ok b S := by
  unfold gcT
  simp
end TL

set_option Elab.async false
set_option linter.all false
set_option maxRecDepth 100000
set_option maxHeartbeats 1000000
/-! TN5: max(xs, default=d) of a list of whole numbers. -/
namespace PySem
theorem tn_max_dflt (a d : Value) : argsOk "max" ⟨[a], [(Str.ofString "default", d)]⟩ := by unfold argsOk; kernel_rfl
section
variable {prog : Program} {w : World} {A : Around} {R : Result → Shared → Prop} {I : Addr} {fp wr : List Addr} {n : Nat} {P : Nat → Value → Prop} {St : Nat → Heap → Prop}
/-- the best of the first j, as the loop keeps it -/
def TnOld (bt : Nat → Nat → Bool) (P : Nat → Value → Prop) : Nat → Array Value → Prop
  | 0, old => old = #[]
  | j + 1, old => ∃ vb, old = #[vb, vb] ∧ P (argBest bt j) vb
theorem tn_max_loop (W : Walks prog w A.in1 I fp wr n P St) (bt : Nat → Nat → Bool) (cmp : CmpOf prog w A.in1 .Gt P bt) (S : Addr) (hf : S ∉ fp) (nm : Str) (d : Value) :
    ∀ (k j : Nat) (s : Shared) (old : Array Value) (c : Nat), n - j = k → j ≤ n → St j s.heap → TnOld bt P j old →
    s.heap.get? S = some { cls := .type "list", dict := none, data := .seq old c, slots := #[] } →
    (∀ v h' tk, (n = 0 ∧ v = d ∨ 0 < n ∧ P (argBest bt (n - 1)) v) → (∀ b o, b ∉ wr → b ≠ S → s.heap.get? b = some o → h'.get? b = some o) → R (.ok (.ret v)) { s with heap := h', toks := tk }) →
    codeAny (model prog w) A (.builtin "max.loop" ⟨[.ref I, .none, .ref S], [(nm, d)]⟩) R s := by
  have hw : S ∉ wr := fun h => hf (W.sub _ h)
  have nam : (toString "max" ++ toString ".loop" : String) = "max.loop" := by decide
  intro k
  induction k with
  | zero =>
    intro j s old c hk hj st ho hS hR
    obtain rfl : j = n := by omega
    refine codeAny_builtin F.entry_max_loop ?_
    rw [Around.under_plainId F.plain_max_loop _]
    show wpAny _ A.in1 (seqItems? (.ref S) >>= _) _ _ s
    refine wpAny_bind (wpAny_seqItems hS rfl ?_)
    show wpAny _ A.in1 (tryCatch (pyNext (.ref I)) _ >>= _) _ _ s
    refine wpAny_bind (wpAny_tryCatch (W.done s _ _ st fun h' tk hk' => ?_))
    cases j with
    | zero =>
      obtain rfl : old = #[] := ho
      show wpAny _ A.in1 (rule _ >>= _) _ _ _
      exact wpAny_bind (wpAny_rule (wpAny_pure (hR d _ tk (.inl ⟨rfl, rfl⟩) fun b o h1 _ e => hk' b o h1 e)))
    | succ j =>
      obtain ⟨vb, rfl, hP⟩ := ho
      have S1 := hk' S _ hw hS
      show wpAny _ A.in1 (updateSeq S (fun _ => #[]) >>= _) _ _ _
      refine wpAny_bind (wpAny_updateSeq S1 rfl (wpAny_bind (wpAny_letGo (wpAny_pure ?_))))
      exact hR vb _ tk (.inr ⟨Nat.succ_pos _, hP⟩) fun b o h1 h2 e => (Heap.get?_update_other _ _ (Ne.symm h2)).trans (hk' b o h1 e)
  | succ k ih =>
    intro j s old c hk hj st ho hS hR
    have lt : j < n := by omega
    refine codeAny_builtin F.entry_max_loop ?_
    rw [Around.under_plainId F.plain_max_loop _]
    show wpAny _ A.in1 (seqItems? (.ref S) >>= _) _ _ s
    refine wpAny_bind (wpAny_seqItems hS rfl ?_)
    show wpAny _ A.in1 (tryCatch (pyNext (.ref I)) _ >>= _) _ _ s
    refine wpAny_bind (wpAny_tryCatch (W.item j s _ _ lt st fun v h' tk hv st' hk' => ?_))
    have S1 := hk' S _ hw hS
    have go : ∀ (h2 : Heap) (old2 : Array Value) (c2 : Nat), St (j + 1) h2 → TnOld bt P (j + 1) old2 → h2.get? S = some { cls := .type "list", dict := none, data := .seq old2 c2, slots := #[] } →
        (∀ b o, b ∉ wr → b ≠ S → s.heap.get? b = some o → h2.get? b = some o) → codeAny (model prog w) A (.builtin "max.loop" ⟨[.ref I, .none, .ref S], [(nm, d)]⟩) R { s with heap := h2, toks := tk } :=
      fun h2 old2 c2 q1 q2 q3 q4 => ih (j + 1) { s with heap := h2, toks := tk } old2 c2 (by omega) (by omega) q1 q2 q3 fun v h3 tk3 p1 p2 => hR v h3 tk3 p1 fun b o z1 z2 z3 => p2 b o z1 z2 (q4 b o z1 z2 z3)
    cases j with
    | zero =>
      obtain rfl : old = #[] := ho
      show wpAny _ A.in1 (updateSeq S (fun _ => #[v, v]) >>= _) _ _ _
      refine wpAny_bind (wpAny_updateSeq S1 rfl ?_)
      rw [nam]
      refine wpAny_pure ⟨plainId_quiet F.plain_max_loop _, go _ #[v, v] _ (W.frame _ _ _ st' fun b hb o e => ?_) ⟨v, rfl, hv⟩ (Heap.get?_update_self _ S1 rfl) fun b o z1 z2 z3 => ?_⟩
      · exact (Heap.get?_update_other _ _ (fun h : S = b => hf (by rw [h]; exact hb))).trans e
      · exact (Heap.get?_update_other _ _ (Ne.symm z2)).trans (hk' b o z1 z3)
    | succ j =>
      obtain ⟨vb, rfl, hP⟩ := ho
      show wpAny _ A.in1 (tryCatch (holding [v, v] (richCompare .Gt v vb >>= _)) _ >>= _) _ _ _
      refine wpAny_bind (wpAny_tryCatch (wpAny_holding (wpAny_bind (cmp (j + 1) (argBest bt j) v vb _ _ _ hv hP ?_))))
      refine wpAny_bind (wpAny_holding (wpAny_truthy_bool (wpAny_bind (wpAny_letGo (wpAny_pure ?_)))))
      cases hb : bt (j + 1) (argBest bt j) with
      | true =>
        simp only [if_true]
        refine wpAny_bind (wpAny_updateSeq S1 rfl (wpAny_bind (wpAny_letGo ?_)))
        rw [nam]
        refine wpAny_pure ⟨plainId_quiet F.plain_max_loop _, go _ #[v, v] _ (W.frame _ _ _ st' fun b hb o e => ?_) ⟨v, rfl, by simp only [argBest, hb, if_true]; exact hv⟩ (Heap.get?_update_self _ S1 rfl) fun b o z1 z2 z3 => ?_⟩
        · exact (Heap.get?_update_other _ _ (fun h : S = b => hf (by rw [h]; exact hb))).trans e
        · exact (Heap.get?_update_other _ _ (Ne.symm z2)).trans (hk' b o z1 z3)
      | false =>
        simp only [Bool.false_eq_true, if_false]
        refine wpAny_bind (wpAny_letGo ?_)
        rw [nam]
        exact wpAny_pure ⟨plainId_quiet F.plain_max_loop _, go _ #[vb, vb] c st' ⟨vb, rfl, by simp only [argBest, hb, Bool.false_eq_true, if_false]; exact hP⟩ S1 fun b o z1 _ z3 => hk' b o z1 z3⟩
end
section
variable {prog : Program} {w : World} {A : Around} {E : Value → Shared → Prop} {s : Shared}
theorem tn_max_call {x d : Value} {Q : Value → Shared → Prop}
    (h : wpAny (model prog w) A.in1 (pyIter x) (fun it s₂ => ∃ I fp wr n P St bt, it = .ref I ∧ Walks prog w A.in1 I fp wr n P St ∧ St 0 s₂.heap ∧ (∀ b ∈ fp, b < s₂.heap.objs.size) ∧ CmpOf prog w A.in1 .Gt P bt ∧
      ∀ v h' tk, (n = 0 ∧ v = d ∨ 0 < n ∧ P (argBest bt (n - 1)) v) → (∀ b o, b ∉ wr → s₂.heap.get? b = some o → h'.get? b = some o) → Q v { s₂ with heap := h', toks := tk }) E s) :
    wpAny (model prog w) A (call (.builtin "max") [x] [(Str.ofString "default", d)]) Q E s := by
  have nam : (toString "max" ++ toString ".loop" : String) = "max.loop" := by decide
  refine PyProof.Rows.kmk_tree F.kind_max F.plain_max F.entry_max (tn_max_dflt _ _) ?_
  show wpAny _ A.in1 (Builtin.Builtins.bindParams "max" ["key", "default"] 0 ⟨[], [(Str.ofString "default", d)]⟩ >>= _) _ _ s
  refine wpAny_bind (wpAny_of_eq (show Builtin.Builtins.bindParams "max" ["key", "default"] 0 ⟨[], [(Str.ofString "default", d)]⟩ = pure [none, some d] from rfl) ?_)
  refine wpAny_bind (wpAny_pure ?_)
  refine wpAny_bind (wpAny_mono h (fun it s₂ h₂ => ?_) fun _ _ e => e)
  obtain ⟨I, fp, wr, n, P, St, bt, rfl, W, st, hfp, cmp, hQ⟩ := h₂
  refine wpAny_bind (wpAny_newObj_type ?_)
  have hf : s₂.heap.objs.size ∉ fp := fun hm => Nat.lt_irrefl _ (hfp _ hm)
  rw [nam]
  refine wpAny_pure ⟨plainId_quiet F.plain_max_loop _, tn_max_loop W bt cmp s₂.heap.objs.size hf _ d n 0 _ #[] 0 (by omega) (by omega) (W.frame _ _ _ st fun b _ o e => Heap.get?_push_of_some _ e) rfl (Heap.get?_push_size _ rfl) fun v h' tk hP hk => ?_⟩
  exact hQ v h' tk hP fun b o hb e => hk b o hb (Nat.ne_of_lt (Heap.lt_size e)) (Heap.get?_push_of_some _ e)
theorem tn_max_ints {l : Addr} {xs : Array (Int × Tok)} {d : Value} {Q : Value → Shared → Prop} (hh : A.handled = none) (hl : s.heap.IsList l (intItems xs))
    (h : ∀ v h' tk, (xs.size = 0 ∧ v = d ∨ 0 < xs.size ∧ (intItems xs)[argBest (fun i j => decide (numAt xs i > numAt xs j)) (xs.size - 1)]? = some v) → (∀ b o, s.heap.get? b = some o → h'.get? b = some o) → Q v { s with heap := h', toks := tk }) :
    wpAny (model prog w) A (call (.builtin "max") [.ref l] [(Str.ofString "default", d)]) Q E s := by
  refine tn_max_call (iter_intList hl fun s₂ e st hfp hne => ?_)
  subst e
  refine ⟨_, _, _, _, _, _, _, rfl, Walks.list (A := A.in1) hh _ l hne (intItems xs), st, hfp, CmpOf.ints_gt (numAt xs) (fun _ _ => intItems_at), fun v h' tk hP hk => ?_⟩
  exact h v h' tk (by simpa [intItems] using hP) (old_kept hk)
end
end PySem
namespace TL
open PySem PySem.Spec PyProof.Rows L2
theorem hu80 {k : Nat} {A : Around} (r : Room k A) : A.units + 80 < cLine := by have := r.un; omega
def rMaxD (K : PySem.W.Frag) (d : V) : List V → Hp → VK → Prop := fun vs H Q => ∃ (a : Addr) (ns : List Int), vs = [V.ref a] ∧ SqL K H a (ns.map V.int) ∧
  (ns = [] → Q d H) ∧ ∀ m, m ∈ ns → (∀ y, y ∈ ns → y ≤ m) → Q (.int m) H
theorem max_dflt {X : Cx} (hc : X.calm = true) {pins : List (Addr × Obj)} {s : Shared} {σ : L2.St} {H : Hp} {vs : List V} {us : List Value} {d : V} {u : Value} {Q : VK} (I : Inv X pins σ H s) (r : Vals vs us) (rd : RelV d u) (h : rMaxD X.K d vs H Q) :
    wpAny (model X.prog X.w) X.A (call (.builtin "max") us [(Str.ofString "default", u)]) (EP X pins σ Q) X.xe s := by
  obtain ⟨a, ns, rfl, hs, q0, q⟩ := h
  obtain ⟨its, rv, hl, _⟩ := I.list hs
  rw [Vals.ref1 r]
  have hi := rv.ints
  obtain ⟨xs, e⟩ := hi.allInts.items
  have hn : numsOf (intItems xs).toList = ns := by rw [← e]; exact hi.numsOf
  rw [nums_intItems] at hn
  subst hn
  have hl2 := hl.isList
  rw [e] at hl2
  refine tn_max_ints (I.ok.hd hc) hl2 fun v h' tk hv hk => ?_
  rcases hv with ⟨z, rfl⟩ | ⟨z, hv⟩
  · exact ⟨d, H, I.kept hk, rd, q0 (List.eq_nil_of_length_eq_zero (by rw [List.length_map, Array.length_toList]; exact z))⟩
  · obtain ⟨t, rfl⟩ := intItems_at hv
    obtain ⟨h1, h2⟩ := argBest_gt (numAt xs) (xs.size - 1)
    refine ⟨.int _, H, I.kept hk, ⟨_, rfl⟩, q _ ?_ fun a ha => ?_⟩
    · rw [numAt_eq]; exact PySem.getD_mem (by rw [List.length_map, Array.length_toList]; omega)
    · obtain ⟨j, hj, rfl⟩ := mem_getD ha
      rw [List.length_map, Array.length_toList] at hj
      rw [← numAt_eq]; exact h2 j (by omega)
/-- max(a, default=b) -/
def eMaxD (ca cb : CE PV) : CE PV := fun ρ S => (ca ρ S).bind fun x S1 => (cb ρ S1).bind fun y S2 => match (lstOf x S2).bind intsOf with
  | some [] => .ok y S2
  | some (n :: ns) => .ok (.int (maxI (n :: ns))) S2
  | none => .stuck
theorem de_maxD {X : Cx} {W : WX} {p pos kp : Pos} {a b : Expr} {ca cb : CE PV} (hc : X.calm = true) (hm : X.mg "max" = none) (ha : DE X W a ca) (hb : DE X W b cb) (hg : Gl X "max" := by rfl)
    (he : backTo pos (starEach [a] X.env) = (false, eval a X.env) :: backTo pos (starEach [] X.env) := by rfl) (he2 : starEach [a] X.env = (false, eval a X.env) :: starEach [] X.env := by rfl) (hpl : (backTo pos (starEach [a] X.env)).any (·.1) = false := by rfl)
    (hall : (backToKw pos (keywordEach [⟨some "default", b, kp⟩] X.env)).all (·.1.isSome) = true := by rfl) (hkw : (backToKw pos (keywordEach [⟨some "default", b, kp⟩] X.env)).any (·.1.isNone) = false := by rfl) :
    DE X W (.Call (.Name "max" p) [a] [⟨some "default", b, kp⟩] pos) (eMaxD ca cb) := by
  refine ⟨fun pins s σ H Q I h => ?_⟩
  refine wpAny_Call_Name_kw (ld_blt I hg hm (u := .builtin "max") (by decide +kernel) ?_ (by decide) (by decide))
  obtain ⟨m, S, ρ, at_, fin⟩ := h
  refine PyProof.Rows.callWith_kw ?_ he hpl hall hkw
  refine thn ((pa_cons ha pa_nil he2).run pos pins s σ H (fun vs H1 => ∃ v, vs = [v] ∧ rdE X.K X.mg W cb σ H1 fun y H2 => rMaxD X.K y [v] H2 Q) I ⟨m, S, ρ, at_, (Fin.bind at_ fin).mono fun v H1 h1 => ⟨v, rfl, ?_⟩⟩) fun us s1 ⟨vs, H1, I1, r1, v, ev, q1⟩ => ?_
  · obtain ⟨m1, S1, x, at1, r1, e1, l1, f1⟩ := h1
    refine ⟨m1, S1, ρ, at1, (Fin.bind at1 f1).mono fun u H2 h2 => ?_⟩
    obtain ⟨m2, S2, y, at2, r2, e2, l2, f2⟩ := h2
    have rx := stbV e2 l2 r1
    cases e : lstOf x S2 with
    | none => simp only [e, Option.bind_none] at f2; exact f2.elim
    | some ys =>
      obtain ⟨b, p, us, rfl, h1, h3⟩ := lst_ok at2.rel rx e
      cases e4 : intsOf ys with
      | none => simp only [e, Option.bind_some, e4] at f2; exact f2.elim
      | some ns =>
        simp only [e, Option.bind_some, e4] at f2
        have e3 := intsOf_eq e4
        subst e3
        have e5 := ints_rps h3
        subst e5
        cases ns with
        | nil => exact ⟨p, [], rfl, h1, fun _ => f2.here at2.rel r2, fun k hk => nomatch hk⟩
        | cons n ns =>
          refine ⟨p, n :: ns, rfl, h1, fun z => (nomatch z), fun k hk hq => ?_⟩
          rw [← maxI_spec hk hq]
          exact f2.here at2.rel ⟨rfl, rfl⟩
  · subst ev
    refine thn ((pk_cons hb pk_nil).run pos pins s1 σ H1 (fun ws H2 => ∃ w, ws = [w] ∧ rMaxD X.K w [v] H2 Q) I1 ?_) fun ks s2 ⟨ws, H2, I2, r2, w, ew, q2⟩ => ?_
    · obtain ⟨m1, S1, ρ1, at1, f1⟩ := q1
      exact ⟨m1, S1, ρ1, at1, f1.mono fun w H2 q => ⟨w, rfl, q⟩⟩
    · subst ew
      cases r2 with
      | cons rw0 rr =>
        cases rr
        exact max_dflt hc I2 r1 rw0 q2
end TL

set_option Elab.async false
set_option linter.all false
set_option maxRecDepth 100000
set_option maxHeartbeats 1000000
/-! TN6: len of a dict too. -/
namespace TL
open PySem PySem.Spec PyProof.Rows L2
def lenA : FB := fun xs S => match xs with
  | [.obj i] => match S[i]? with
    | some (.dic false (p :: kvs)) => if (keyOf p.1).isSome = true then .ok (.int ((kvs.length + 1 : Nat) : Int)) S else .stuck
    | _ => lenV [.obj i] S
  | _ => lenV xs S
def rLenA (K : PySem.W.Frag) : List V → Hp → VK → Prop := fun xs H Q => (∃ x n, xs = [x] ∧ LenV K x H n ∧ Q (.int n) H) ∨ ∃ a kvs, xs = [V.ref a] ∧ H a = some (.dK kvs) ∧ Q (.int kvs.length) H
theorem call_lenA {X : Cx} : CallR X (.builtin "len") (rLenA X.K) := call_len.or call_lenD
theorem opC_lenA {K : PySem.W.Frag} {mg : Str → Option Value} : OpC K mg lenA (rLenA K) := by
  intro W σ m S H xs vs Q rel ra f
  unfold lenA at f
  split at f
  · rename_i i
    split at f
    · rename_i p kvs e
      split at f
      · rename_i hk
        obtain ⟨v, rfl, b, ev⟩ := one_of ra
        have ev' : v = .ref (m i) := ev
        subst ev'
        obtain ⟨l, h1, h2⟩ := rel.dicK e (List.mem_cons_self ..) hk
        refine .inr ⟨_, l, rfl, h1, ?_⟩
        have hl := h2.len
        rw [hl]
        exact f.here rel ⟨rfl, rfl⟩
      · exact f.elim
    · exact .inl (opC_len W σ m S H _ vs Q rel ra f)
  · exact .inl (opC_len W σ m S H _ vs Q rel ra f)
end TL

set_option Elab.async false
set_option linter.all false
set_option maxRecDepth 100000
set_option maxHeartbeats 1000000
/-! TN7: a dict that is walked is locked meanwhile: d.items(), d.values(). -/
namespace TL
open PySem PySem.Spec PyProof.Rows L2
/-! ### locked -/
section
variable {K : PySem.W.Frag} {mg : Str → Option Value} {m : Mp} {S : Store} {H : Hp}
/-- a place is written that may have been locked: the content fits -/
theorem Rel.put {m' : Mp} {S' : Store} {H' : Hp} (r : Rel K mg m' S' H') {k : Nat} {u : HO} {o : PO} (hk : k < S'.length) (he : Ext0 K S'.length m' H' m' (upd H' (m' k) u)) (hb : bndO S'.length o = true) (ho : ObR K mg m' (upd H' (m' k) u) (m' k) o) : Rel K mg m' (S'.set k o) (upd H' (m' k) u) := by
  refine ⟨fun i j hi hj e => ?_, fun i p e => ?_, fun i p e => ?_⟩
  · rw [List.length_set] at hi hj
    exact r.inj i j hi hj e
  · by_cases h : k = i
    · subst h
      rw [List.getElem?_set_self hk] at e
      cases e
      exact ho
    · rw [List.getElem?_set_ne h] at e
      have hi := (List.getElem?_eq_some_iff.mp e).1
      exact ObR.ext0 he (upd_ne fun z => h (r.inj k i hk hi z.symm)) p (r.wf i p e) (r.ob i p e)
  · rw [List.length_set]
    by_cases h : k = i
    · subst h
      rw [List.getElem?_set_self hk] at e
      cases e
      exact hb
    · rw [List.getElem?_set_ne h] at e
      exact r.wf i p e
end
/-- what a dict's place holds, as the store tells it -/
def DC (K : PySem.W.Frag) (m : Mp) (H : Hp) (kvs : List (PV × PV)) (u : HO) : Prop := (∃ l, u = .dK l ∧ KvK K m H kvs l) ∨ ∃ l, u = .dT l ∧ KvT K m H kvs l
section
variable {K : PySem.W.Frag} {mg : Str → Option Value} {m m' : Mp} {n : Nat} {H H' : Hp} {kvs : List (PV × PV)} {u : HO} {a : Addr}
theorem DC.ext0 (d : DC K m H kvs u) (e : Ext0 K n m H m' H') (b : bnds n (kvs.map (·.2)) = true) : DC K m' H' kvs u := by
  rcases d with ⟨l, q, h⟩ | ⟨l, q, h⟩
  · exact .inl ⟨l, q, KvK.ext0 e kvs l b h⟩
  · exact .inr ⟨l, q, KvT.ext0 e kvs l b h⟩
theorem DC.f (d : DC K m H kvs u) (e : H a = some u) : ObR K mg m H a (.dic false kvs) := by
  rcases d with ⟨l, rfl, h⟩ | ⟨l, rfl, h⟩
  · exact .inl ⟨l, e, h⟩
  · exact .inr ⟨l, e, h⟩
theorem DC.t (d : DC K m H kvs u) {od : Obj} (e : H a = some (.frz od u)) : ObR K mg m H a (.dic true kvs) := by
  rcases d with ⟨l, rfl, h⟩ | ⟨l, rfl, h⟩
  · exact .inl ⟨od, l, e, h⟩
  · exact .inr ⟨od, l, e, h⟩
theorem DC.of (h : ObR K mg m H a (.dic false kvs)) : ∃ u, H a = some u ∧ DC K m H kvs u := by
  rcases h with ⟨l, e, h⟩ | ⟨l, e, h⟩
  · exact ⟨_, e, .inl ⟨l, rfl, h⟩⟩
  · exact ⟨_, e, .inr ⟨l, rfl, h⟩⟩
theorem DC.mut (d : DC K m H kvs u) : Mut (some u) := by
  rcases d with ⟨l, rfl, h⟩ | ⟨l, rfl, h⟩ <;> trivial
theorem DC.no (d : DC K m H kvs u) : (∀ xs, u ≠ .tup xs) ∧ (∀ fs, u ≠ .xd fs) ∧ (∀ ob v, u ≠ .frz ob v) ∧ ∀ xs, u ≠ .lst xs := by
  rcases d with ⟨l, rfl, h⟩ | ⟨l, rfl, h⟩
  · exact ⟨(fun _ z => by cases z), (fun _ z => by cases z), (fun _ _ z => by cases z), fun _ z => by cases z⟩
  · exact ⟨(fun _ z => by cases z), (fun _ z => by cases z), (fun _ _ z => by cases z), fun _ z => by cases z⟩
end
/-- the dict in a slot is locked while c runs -/
def eLock (i : Nat) (c : CE PV) : CE PV := fun ρ S => match ρ[i]? with
  | some (some (.obj k)) => match S[k]? with
    | some (.dic false kvs) => match c ρ (S.set k (.dic true kvs)) with
      | .ok x S' => .ok x (S'.set k (.dic false kvs))
      | _ => .stuck
    | _ => .stuck
  | _ => .stuck
theorem de_lock {X : Cx} {W : WX} {a : Expr} {ca : CE PV} (i : Nat) (h : DE X W a ca) : DE X W a (eLock i ca) := by
  refine pe_imp (pe_lock h) fun σ H Q hy => ?_
  obtain ⟨m, S, ρ, at_, fin⟩ := hy
  unfold eLock at fin
  split at fin
  · rename_i k er
    split at fin
    · rename_i kvs es
      have hk := (List.getElem?_eq_some_iff.mp es).1
      have b : bnds S.length (kvs.map (·.2)) = true := at_.rel.wf k _ es
      obtain ⟨u, hu, dc⟩ := DC.of (at_.rel.ob k _ es)
      obtain ⟨n1, n2, n3, n4⟩ := dc.no
      refine ⟨m k, u, hu, dc.mut, fun od => ?_⟩
      have wr : Wr H (m k) := (at_.rel.ob k _ es).wr fun _ z => by cases z
      have ex1 : Ext X.K S.length m H m (upd H (m k) (.frz od u)) := ext_upd wr fun _ _ => rfl
      have dc1 := dc.ext0 ex1.e0 b
      refine ⟨m, S.set k (.dic true kvs), ρ, ⟨at_.rel.put hk (Ext.e0 (ext_upd wr fun _ _ => rfl)) b (dc1.t upd_same), by rw [List.length_set]; exact at_.env.ext ex1 (Nat.le_refl _)⟩, ?_⟩
      cases hc : ca ρ (S.set k (.dic true kvs)) with
      | stuck => rw [hc] at fin; exact fin.elim
      | exc c p S' => rw [hc] at fin; exact fin.elim
      | ok x S' =>
        rw [hc] at fin
        simp only at fin
        intro m' H' v e l r rr
        rw [List.length_set] at e l
        have hl := e.lk (m k) od u upd_same
        refine ⟨hl, ?_⟩
        have mk : m' k = m k := e.mi k hk
        have e2 : Ext0 X.K S'.length m' H' m' (upd H' (m k) u) := by
          refine ⟨fun _ _ => rfl, fun c xs q => ?_, fun c xs q => ?_, fun c xs q => ?_, fun c xs q => ?_⟩
          · have hc : c ≠ m k := fun z => by rw [z, hl] at q; cases q
            rw [upd_ne hc]; exact q
          · have hc : c ≠ m k := fun z => by rw [z, hl] at q; cases q
            rw [upd_ne hc]; exact q
          · rcases q with ⟨o, q⟩ | q
            · have hc : c ≠ m k := fun z => by
                rw [z, hl] at q
                have q' := Option.some.inj q
                injection q' with _ q'
                exact n4 _ q'
              exact .inl ⟨o, by rw [upd_ne hc]; exact q⟩
            · exact .inr q
          · rcases q with ⟨o, q, d⟩ | q
            · have hc : c ≠ m k := fun z => by
                rw [z, hl] at q
                have q' := Option.some.inj q
                injection q' with _ q'
                exact n1 _ q'
              exact .inl ⟨o, by rw [upd_ne hc]; exact q, d⟩
            · exact .inr q
        have ex2 : Ext X.K S.length m H m' (upd H' (m k) u) := by
          refine ⟨e.mi, fun c xs q => ?_, fun c xs q => ?_, fun c xs q => ?_, fun c o v q => ?_⟩
          · have hc : c ≠ m k := fun z => by rw [z, hu] at q; exact n1 _ (Option.some.inj q)
            rw [upd_ne hc]; exact e.tu c xs (by rw [upd_ne hc]; exact q)
          · have hc : c ≠ m k := fun z => by rw [z, hu] at q; exact n2 _ (Option.some.inj q)
            rw [upd_ne hc]; exact e.xd c xs (by rw [upd_ne hc]; exact q)
          · rcases q with ⟨o, q⟩ | q
            · have hc : c ≠ m k := fun z => by rw [z, hu] at q; exact n3 _ _ (Option.some.inj q)
              exact .inl ⟨o, by rw [upd_ne hc]; exact e.lk c o _ (by rw [upd_ne hc]; exact q)⟩
            · exact .inr q
          · have hc : c ≠ m k := fun z => by rw [z, hu] at q; exact n3 _ _ (Option.some.inj q)
            rw [upd_ne hc]; exact e.lk c o v (by rw [upd_ne hc]; exact q)
        have hk' : k < S'.length := Nat.lt_of_lt_of_le hk l
        have rel2 : Rel X.K X.mg m' (S'.set k (.dic false kvs)) (upd H' (m' k) u) := r.put hk' (by rw [mk]; exact e2) (bnds_mono l _ b) (by rw [mk]; exact (dc.ext0 ex2.e0 b).f upd_same)
        rw [mk] at rel2
        exact fin m' _ v ex2 (by rw [List.length_set]; exact l) rel2 (by rw [List.length_set]; exact ⟨rr.1, Rp.ext0 e2 _ _ rr.1 rr.2⟩)
    · exact fin.elim
  · exact fin.elim
/-! ### d.items(), d.values() -/
section
variable {X : Cx} {pins : List (Addr × Obj)} {σ : L2.St} {H : Hp} {s : Shared} {d : Addr} {o : Obj}
theorem frzT2 {kvs : List (List Key × V)} (I : Inv X pins σ H s) (h : H d = some (.frz o (.dT kvs))) :
    (d == sysModules) = false ∧ s.heap.get? d = some o ∧ o.ExactDict ∧ ∃ (es : Array DictEntry) (ep : Nat), o.data = .dict es ep ∧ es.size = kvs.length ∧
      ∀ (i : Nat) (k : List Key) (v : V), kvs[i]? = some (k, v) → ∃ (en : DictEntry) (q : Addr), es[i]? = some en ∧ en.key = .ref q ∧ H q = some (.tup (k.map kV)) ∧ RelV v en.val := by
  obtain ⟨hd, z, hs, xs, pr, o', es, ep, ho, hx, hdt, he, _⟩ := I.hok d _ h
  rw [hd] at ho
  cases ho
  refine ⟨hs, hd, hx, es, ep, hdt, ?_, fun i k v e => ?_⟩
  · have l1 : es.size = xs.length := size_of_entries he
    have l2 : kvs.length = xs.length := Paired.length pr
    omega
  · obtain ⟨b, hb, e1, e2, e3⟩ := paired_get pr e
    have q := entry_at he i
    rw [hb] at q
    exact ⟨_, b.2.1, q, rfl, e2, e3⟩
end
def ItiT (d : Addr) (o : Obj) (kvs : List (List Key × V)) : It :=
  ⟨fun i H => H d = some (.frz o (.dT kvs)) ∧ i < kvs.length, fun i H x H' => ∃ T k v q, kvs[i]? = some (k, v) ∧ x = .ref T ∧ H T = none ∧ H q = some (.tup (k.map kV)) ∧ H' = upd H T (.tup [.ref q, v]), fun i H => H d = some (.frz o (.dT kvs)) ∧ kvs.length ≤ i⟩
theorem turn_itemsT {P : Program} {w : World} {K : PySem.W.Frag} {d : Addr} {o : Obj} {es : Array DictEntry} {ep : Nat} {kvs : List (List Key × V)} {elts : List Expr} {kk : Nat} {tpos : Pos} (it : Addr) (hod : o.data = .dict es ep) :
    Turn P w K (.Tuple elts kk tpos) (ItiT d o kvs) [it] it (fun i h => ∃ ok ov, IsItemIter h it d i kvs.length ep ok ov) where
  mem := by simp
  obj := fun i h st b hb => by
    have e : b = it := by simpa using hb
    subst e
    obtain ⟨ok, ov, e⟩ := st
    exact ⟨_, e, fun v z => nomatch z⟩
  keep := fun i h h' st k => let ⟨ok, ov, e⟩ := st; ⟨ok, ov, k it (by simp) _ e⟩
  item := by
    intro X hP hw hK hc i pins s σ H E I hf st hg
    subst hP hw hK
    obtain ⟨hd, hi⟩ := hg
    obtain ⟨hs, hgd, hx, es', ep', hdt, hsz, ent⟩ := frzT2 I hd
    obtain ⟨rfl, rfl⟩ := dict_ep hod hdt
    obtain ⟨⟨k, v⟩, hkv⟩ : ∃ p, kvs[i]? = some p := ⟨kvs[i], List.getElem?_eq_getElem hi⟩
    obtain ⟨en, q, hen, hkey, hq, rv⟩ := ent i k v hkv
    obtain ⟨hlt', een⟩ := Array.getElem?_eq_some_iff.mp hen
    obtain ⟨ok, ov, he⟩ := st
    rw [← hsz] at he
    have hlt : it < s.heap.objs.size := Heap.lt_size he
    refine wpAny_pyNext_items_item_raw he ⟨o, hgd, hx, hod⟩ hlt' fun h' ho hT hz hk => ?_
    rw [een] at ho hT
    refine ⟨_, rfl, wpAny_letOwnedTupleGo_items (s := { s with heap := h' }) ho fun h'' he' sb => ?_⟩
    have hT2 : h''.get? s.heap.objs.size = some { cls := .type "tuple", data := .seq #[en.key, en.val] } := (sb.2 _ (Nat.ne_of_gt hlt)).trans hT
    have new : ObjOk X.prog X.w (upd H s.heap.objs.size (.tup [.ref q, v])) h'' s.heap.objs.size (.tup [.ref q, v]) :=
      ⟨by show 2 ≤ sizeLine; decide, [en.key, en.val], .cons (show en.key = Value.ref q from hkey) (.cons rv .nil), ⟨_, hT2, rfl, _, rfl⟩⟩
    have I1 : Inv X pins σ (upd H s.heap.objs.size (.tup [.ref q, v])) { s with heap := h'' } :=
      I.turnedNew (t' := s.toks) (ch := [it]) (fun b ob hb e => (sb.2 b (by simpa using hb)).trans (hk b ob (by simpa using hb) e)) hf (Nat.le_refl _) new
    refine ⟨.ref s.heap.objs.size, _, I1, rfl, ⟨_, k, v, q, hkv, rfl, I.hok.fresh (Nat.le_refl _), hq, rfl⟩, ⟨en.key, en.val, ?_⟩, fun b hb => ?_⟩
    · rw [← hsz]; exact he'
    · have e : b = it := by simpa using hb
      rw [e, upd_ne (Nat.ne_of_lt hlt)]
      exact (hf it (by simp)).1
  done := by
    intro X hP hw hK hc i pins s σ H E I hf st hg
    subst hP hw hK
    obtain ⟨hd, hi⟩ := hg
    obtain ⟨hs, hgd, hx, es', ep', hdt, hsz, ent⟩ := frzT2 I hd
    obtain ⟨rfl, rfl⟩ := dict_ep hod hdt
    obtain ⟨ok, ov, he⟩ := st
    rw [← hsz] at he
    exact wpAny_pyNext_items_end_raw (I.ok.hd hc) he ⟨o, hgd, hx, hod⟩ (by omega) fun h' eb => ⟨rfl, I.turned (t' := s.toks) (fun b ob hb e => eb b ob hb e) (hf it (by simp)).1 (hf it (by simp)).2.1 (hf it (by simp)).2.2.2.1 (hf it (by simp)).2.2.2.2.1 (hf it (by simp)).2.2.2.2.2⟩
  self := fun A i s Q E st h => let ⟨_, _, e⟩ := st; PySem.W.kcp_self e h
def iItems2 (td : TE) : TI := fun σ H R => td σ H fun x H1 => ∃ d o, x = .ref d ∧ ((∃ kvs, H1 d = some (.frz o (.dK kvs)) ∧ R (Iti d o kvs) H1) ∨ ∃ kvs, H1 d = some (.frz o (.dT kvs)) ∧ R (ItiT d o kvs) H1)
theorem pi_items2 {X : Cx} {e : Expr} {td : TE} {apos cpos tpos : Pos} {elts : List Expr} {kk : Nat} (he : PE X e td) (hbase : attributeBase e "items" X.env (eval e X.env) = eval e X.env := by rfl) (hline : (apos.endLine == cpos.line) = true := by rfl) :
    PI X (.Tuple elts kk tpos) (.Call (.Attribute e "items" apos) [] [] cpos) (iItems2 td) := by
  refine ⟨fun pins s σ H R I h => ?_⟩
  refine wpAny_Call_method (T := "dict") (id := "dict.items") hbase rfl hline F.plainAttrs_dict F.slot_dict_items F.type_dict_items (thn (he.run pins s σ H _ I h) fun u s1 ⟨x, H1, I1, rx, d, o, ex, q⟩ => ?_)
  subst ex
  obtain rfl : u = Value.ref d := rx
  have raw : (d == sysModules) = false ∧ ∃ es ep, s1.heap.DictRaw d es ep ∧ ∃ n, es.size = n ∧ wpAny (model X.prog X.w) X.A (pyIter (.ref s1.heap.objs.size)) (PIE X pins σ (.Tuple elts kk tpos) R) X.xe { s1 with heap := s1.heap.push { cls := .type "dict_items", data := .fields #[.ref d] } } := by
    have I2 : Inv X pins σ H1 { s1 with heap := s1.heap.push { cls := .type "dict_items", data := .fields #[.ref d] } } := I1.kept (t' := s1.toks) fun b ob q => Heap.get?_push_of_some _ q
    rcases q with ⟨kvs, hd, q⟩ | ⟨kvs, hd, q⟩
    · obtain ⟨hs, hgd, hx, es, ep, vs, hdt, hsz, kv, hm⟩ := I1.frzK hd
      refine ⟨hs, es, ep, ⟨o, hgd, hx, hdt⟩, _, rfl, ?_⟩
      refine wpAny_pyIter_items_raw (d := d) (es := es) (ep := ep) ⟨_, Heap.get?_push_size _ rfl, rfl, rfl⟩ ⟨o, Heap.get?_push_of_some _ hgd, hx, hdt⟩ (pi_one (tk := s1.toks) I2 _ (turn_items _ hdt) ⟨.none, .none, ?_⟩ q)
      rw [← hsz]
      exact Heap.get?_push_size _ rfl
    · obtain ⟨hs, hgd, hx, es, ep, hdt, hsz, ent⟩ := frzT2 I1 hd
      refine ⟨hs, es, ep, ⟨o, hgd, hx, hdt⟩, _, rfl, ?_⟩
      refine wpAny_pyIter_items_raw (d := d) (es := es) (ep := ep) ⟨_, Heap.get?_push_size _ rfl, rfl, rfl⟩ ⟨o, Heap.get?_push_of_some _ hgd, hx, hdt⟩ (pi_one (tk := s1.toks) I2 _ (turn_itemsT _ hdt) ⟨.none, .none, ?_⟩ q)
      rw [← hsz]
      exact Heap.get?_push_size _ rfl
  obtain ⟨hs, es, ep, hm, n, _, fin⟩ := raw
  refine ⟨hm.typeIs, fun b eb => ?_, ?_⟩
  · cases eb
    obtain ⟨ob, ho, hx, _⟩ := hm
    exact ⟨ob, ho, hx.2.1⟩
  · show wpAny _ _ (callWith cpos (.builtin "dict.items") [.ref d] [] []) _ X.xe s1
    exact method_meetsIn F.slot_dict_items F.entry_dict_items rfl (PySem.evalArgs_none ⟨rfl, hm.typeIs, F.args_dict_items_1 _, _, meets_dict_items_raw d hs, ⟨es, ep, hm⟩, fin⟩)
def itemsD (x : PV) (S : Store) : Res (List PV × Chk) := match x with
  | .obj i => match S[i]? with
    | some (.dic true kvs) => .ok (kvs.map fun p => .tup [p.1, p.2], [(i, .dic true kvs)]) S
    | _ => .stuck
  | _ => .stuck
def iItemsP (c : CE PV) : CE (List PV × Chk) := fun ρ S => (c ρ S).bind itemsD
section
variable {K : PySem.W.Frag} {m : Mp} {H : Hp}
theorem keyOf_rp {x : PV} {k : Key} (h : keyOf x = some k) : Rp K m H x (kV k) ∧ ∀ n, bnd n x = true := by
  cases x with
  | int i => cases h; exact ⟨rfl, fun _ => rfl⟩
  | str z => cases h; exact ⟨rfl, fun _ => rfl⟩
  | _ => cases h
theorem KvK.at_ : ∀ {kvs : List (PV × PV)} {l : List (Key × V)} {i : Nat} {k : Key} {v : V}, KvK K m H kvs l → l[i]? = some (k, v) → ∃ p, kvs[i]? = some p ∧ keyOf p.1 = some k ∧ Rp K m H p.2 v
  | [], l, i, k, v, h, e => by
    have h' : l = [] := h
    subst h'
    cases e
  | p :: ps, l, i, k, v, h, e => by
    obtain ⟨q, r, rfl, h1, h2, h3⟩ := h
    cases i with
    | zero => cases e; exact ⟨p, rfl, h1, h2⟩
    | succ i => exact KvK.at_ (kvs := ps) (l := r) (i := i) h3 (by simpa using e)
theorem KvT.at_ : ∀ {kvs : List (PV × PV)} {l : List (List Key × V)} {i : Nat} {k : List Key} {v : V}, KvT K m H kvs l → l[i]? = some (k, v) → ∃ p, kvs[i]? = some p ∧ tkeyOf p.1 = some k ∧ Rp K m H p.2 v
  | [], l, i, k, v, h, e => by
    have h' : l = [] := h
    subst h'
    cases e
  | p :: ps, l, i, k, v, h, e => by
    obtain ⟨q, r, rfl, h1, h2, h3⟩ := h
    cases i with
    | zero => cases e; exact ⟨p, rfl, h1, h2⟩
    | succ i => exact KvT.at_ (kvs := ps) (l := r) (i := i) h3 (by simpa using e)
theorem KvK.len2 : ∀ {kvs : List (PV × PV)} {l : List (Key × V)}, KvK K m H kvs l → l.length = kvs.length
  | [], l, h => by
    have h' : l = [] := h
    subst h'
    rfl
  | p :: ps, l, h => by
    obtain ⟨q, r, rfl, h1, h2, h3⟩ := h
    rw [List.length_cons, List.length_cons, KvK.len2 h3]
theorem KvT.len2 : ∀ {kvs : List (PV × PV)} {l : List (List Key × V)}, KvT K m H kvs l → l.length = kvs.length
  | [], l, h => by
    have h' : l = [] := h
    subst h'
    rfl
  | p :: ps, l, h => by
    obtain ⟨q, r, rfl, h1, h2, h3⟩ := h
    rw [List.length_cons, List.length_cons, KvT.len2 h3]
end
section
variable {X : Cx} {W : WX}
theorem itR_items {K : PySem.W.Frag} {mg : Str → Option Value} {m : Mp} {S : Store} {H : Hp} {i : Nat} {kvs : List (PV × PV)} {l : List (Key × V)} {o : Obj} (hi : i < S.length) (h0 : H (m i) = some (.frz o (.dK l))) (hkv : KvK K m H kvs l) (b : bnds S.length (kvs.map (·.2)) = true) :
    ItR K mg (Iti (m i) o l) (kvs.map fun p => .tup [p.1, p.2]) [(i, .dic true kvs)] S.length m H := by
  have hl := hkv.len2
  refine ⟨fun m' S' H' e l' r c => ⟨e.lk _ _ _ h0, by rw [List.length_map, hl]; exact Nat.le_refl _⟩, fun j m' S' H' e l' r c hj => ⟨e.lk _ _ _ h0, by rw [hl]; simpa using hj⟩, fun j m' S' H' v H'' e l' r c hj y => ?_⟩
  obtain ⟨T, k, w, e1, rfl, hT, rfl⟩ := y
  obtain ⟨p, hp, hk, hw⟩ := (KvK.ext e kvs l b hkv).at_ e1
  have e0 : Ext K S'.length m' H' m' (upd H' T (.tup [kV k, w])) := ext_new hT fun _ _ => rfl
  have bp : bnd S'.length p.2 = true := bnd_mono l' _ (bnds_all.mp b _ (List.mem_map_of_mem (List.mem_of_getElem? hp)))
  obtain ⟨k1, k2⟩ := keyOf_rp (K := K) (m := m') (H := upd H' T (.tup [kV k, w])) hk
  refine ⟨.tup [p.1, p.2], by rw [List.getElem?_map, hp]; rfl, e0, r.newT hT, ⟨?_, ?_⟩, fun D hD => upd_ne fun z => hD (by rw [z]; exact hT)⟩
  · show (bnd S'.length p.1 && (bnd S'.length p.2 && true)) = true
    rw [k2, bp]
    rfl
  · exact ⟨T, [kV k, w], rfl, upd_same, ⟨_, _, rfl, k1, _, _, rfl, hw.ext e0 _ _ bp, rfl⟩⟩
theorem itR_itemsT {K : PySem.W.Frag} {mg : Str → Option Value} {m : Mp} {S : Store} {H : Hp} {i : Nat} {kvs : List (PV × PV)} {l : List (List Key × V)} {o : Obj} (hi : i < S.length) (h0 : H (m i) = some (.frz o (.dT l))) (hkv : KvT K m H kvs l) (b : bnds S.length (kvs.map (·.2)) = true) :
    ItR K mg (ItiT (m i) o l) (kvs.map fun p => .tup [p.1, p.2]) [(i, .dic true kvs)] S.length m H := by
  have hl := hkv.len2
  refine ⟨fun m' S' H' e l' r c => ⟨e.lk _ _ _ h0, by rw [List.length_map, hl]; exact Nat.le_refl _⟩, fun j m' S' H' e l' r c hj => ⟨e.lk _ _ _ h0, by rw [hl]; simpa using hj⟩, fun j m' S' H' v H'' e l' r c hj y => ?_⟩
  obtain ⟨T, k, w, q, e1, rfl, hT, hq, rfl⟩ := y
  obtain ⟨p, hp, hk, hw⟩ := (KvT.ext e kvs l b hkv).at_ e1
  have e0 : Ext K S'.length m' H' m' (upd H' T (.tup [.ref q, w])) := ext_new hT fun _ _ => rfl
  have bp : bnd S'.length p.2 = true := bnd_mono l' _ (bnds_all.mp b _ (List.mem_map_of_mem (List.mem_of_getElem? hp)))
  cases ep : p.1 with
  | tup xs =>
    rw [ep] at hk
    obtain ⟨r1, r2⟩ := keysOf_rps (K := K) (m := m') (H := upd H' T (.tup [.ref q, w])) (show keysOf xs = some k from hk)
    refine ⟨.tup [p.1, p.2], by rw [List.getElem?_map, hp]; rfl, e0, r.newT hT, ⟨?_, ?_⟩, fun D hD => upd_ne fun z => hD (by rw [z]; exact hT)⟩
    · show (bnd S'.length p.1 && (bnd S'.length p.2 && true)) = true
      rw [ep, bp]
      show (bnds S'.length xs && _) = true
      rw [r2]
      rfl
    · refine ⟨T, [.ref q, w], rfl, upd_same, ⟨_, _, rfl, ?_, _, _, rfl, hw.ext e0 _ _ bp, rfl⟩⟩
      rw [ep]
      exact ⟨q, _, rfl, by rw [upd_ne fun z => by rw [z, hT] at hq; cases hq]; exact hq, r1⟩
  | _ => rw [ep] at hk; cases hk
theorem di_items {elts : List Expr} {kk : Nat} {tpos apos cpos : Pos} {a : Expr} {ca : CE PV} (ha : DE X W a ca) (hbase : attributeBase a "items" X.env (eval a X.env) = eval a X.env := by rfl) (hline : (apos.endLine == cpos.line) = true := by rfl) :
    DI X W (.Tuple elts kk tpos) (.Call (.Attribute a "items" apos) [] [] cpos) (iItemsP ca) := by
  refine pi_imp (pi_items2 ha hbase hline) fun σ H R h => ?_
  obtain ⟨m, S, ρ, at_, fin⟩ := h
  refine ⟨m, S, ρ, at_, (Fin.bind at_ fin).mono fun v H1 h1 => ?_⟩
  obtain ⟨m1, S1, x, at1, r1, e1, l1, f1⟩ := h1
  unfold itemsD at f1
  split at f1
  · rename_i i
    split at f1
    · rename_i kvs es
      have ev : v = .ref (m1 i) := r1.2
      subst ev
      have hi := (List.getElem?_eq_some_iff.mp es).1
      rcases at1.rel.ob i _ es with ⟨o, l, h1, h2⟩ | ⟨o, l, h1, h2⟩
      · exact ⟨m1 i, o, rfl, .inl ⟨l, h1, f1.here at1.rel (itR_items hi h1 h2 (at1.rel.wf i _ es))⟩⟩
      · exact ⟨m1 i, o, rfl, .inr ⟨l, h1, f1.here at1.rel (itR_itemsT hi h1 h2 (at1.rel.wf i _ es))⟩⟩
    · exact f1.elim
  · exact f1.elim
def valuesD (x : PV) (S : Store) : Res (List PV × Chk) := match x with
  | .obj i => match S[i]? with
    | some (.dic true kvs) => if kvs ≠ [] ∧ (kvs.all fun p => (keyOf p.1).isSome) = true then .ok (kvs.map (·.2), [(i, .dic true kvs)]) S else .stuck
    | _ => .stuck
  | _ => .stuck
def iValuesP (c : CE PV) : CE (List PV × Chk) := fun ρ S => (c ρ S).bind valuesD
theorem itR_vals {K : PySem.W.Frag} {mg : Str → Option Value} {m : Mp} {S : Store} {H : Hp} {i : Nat} {kvs : List (PV × PV)} {l : List (Key × V)} {o : Obj} (h0 : H (m i) = some (.frz o (.dK l))) (hkv : KvK K m H kvs l) (b : bnds S.length (kvs.map (·.2)) = true) :
    ItR K mg (Itd (m i) o l) (kvs.map (·.2)) [(i, .dic true kvs)] S.length m H := by
  have hl := hkv.len2
  refine ⟨fun m' S' H' e l' r c => ⟨e.lk _ _ _ h0, by rw [List.length_map, hl]; exact Nat.le_refl _⟩, fun j m' S' H' e l' r c hj => ⟨e.lk _ _ _ h0, by rw [hl]; simpa using hj⟩, fun j m' S' H' v H'' e l' r c hj y => ?_⟩
  obtain ⟨rfl, k, e1⟩ := y
  obtain ⟨p, hp, hk, hw⟩ := (KvK.ext e kvs l b hkv).at_ e1
  have bp : bnd S'.length p.2 = true := bnd_mono l' _ (bnds_all.mp b _ (List.mem_map_of_mem (List.mem_of_getElem? hp)))
  exact ⟨p.2, by rw [List.getElem?_map, hp]; rfl, Ext.refl, r, ⟨bp, hw⟩, fun _ _ => rfl⟩
theorem di_values {tg : Expr} {apos cpos : Pos} {a : Expr} {ca : CE PV} (ha : DE X W a ca) (hbase : attributeBase a "values" X.env (eval a X.env) = eval a X.env := by rfl) (hline : (apos.endLine == cpos.line) = true := by rfl) :
    DI X W tg (.Call (.Attribute a "values" apos) [] [] cpos) (iValuesP ca) := by
  refine pi_imp (pi_values ha hbase hline) fun σ H R h => ?_
  obtain ⟨m, S, ρ, at_, fin⟩ := h
  refine ⟨m, S, ρ, at_, (Fin.bind at_ fin).mono fun v H1 h1 => ?_⟩
  obtain ⟨m1, S1, x, at1, r1, e1, l1, f1⟩ := h1
  unfold valuesD at f1
  split at f1
  · rename_i i
    split at f1
    · rename_i kvs es
      split at f1
      · rename_i hc
        have ev : v = .ref (m1 i) := r1.2
        subst ev
        rcases at1.rel.ob i _ es with ⟨o, l, h1, h2⟩ | ⟨o, l, h1, h2⟩
        · exact ⟨m1 i, o, l, rfl, h1, f1.here at1.rel (itR_vals h1 h2 (at1.rel.wf i _ es))⟩
        · exact absurd (KvT.nok h2 hc.2) hc.1
      · exact f1.elim
    · exact f1.elim
  · exact f1.elim
end
@[simp] theorem iItemsP_ap (c : CE PV) (ρ : Sl) (S : Store) : iItemsP c ρ S = (c ρ S).bind itemsD := rfl
@[simp] theorem iValuesP_ap (c : CE PV) (ρ : Sl) (S : Store) : iValuesP c ρ S = (c ρ S).bind valuesD := rfl
/-- the locked walk -/
theorem eLock_of {i k : Nat} {c : CE PV} {ρ : Sl} {S S' : Store} {kvs : List (PV × PV)} {x : PV} (h1 : ρ[i]? = some (some (.obj k))) (h2 : S[k]? = some (.dic false kvs)) (h3 : c ρ (S.set k (.dic true kvs)) = .ok x S') : eLock i c ρ S = .ok x (S'.set k (.dic false kvs)) := by
  unfold eLock
  simp only [h1, h2, h3]
theorem itemsD_of {i : Nat} {kvs : List (PV × PV)} {S : Store} (h : S[i]? = some (.dic true kvs)) : itemsD (.obj i) S = .ok (kvs.map fun p => .tup [p.1, p.2], [(i, .dic true kvs)]) S := by
  unfold itemsD
  simp only [h]
theorem valuesD_of {i : Nat} {kvs : List (PV × PV)} {S : Store} (h : S[i]? = some (.dic true kvs)) (h0 : kvs ≠ []) (hk : (kvs.all fun p => (keyOf p.1).isSome) = true) : valuesD (.obj i) S = .ok (kvs.map (·.2), [(i, .dic true kvs)]) S := by
  unfold valuesD
  simp only [h]
  rw [if_pos ⟨h0, hk⟩]
end TL

set_option Elab.async false
set_option linter.all false
set_option maxRecDepth 100000
set_option maxHeartbeats 1000000
/-! TN8: set(xs), xs a list or a tuple of keys of one kind. -/
namespace PySem
/-- what is met, each once -/
def tnMet {K : Type} [DecidableEq K] (val : Nat → K) : Nat → List K
  | 0 => []
  | i + 1 => if val i ∈ tnMet val i then tnMet val i else tnMet val i ++ [val i]
theorem tnMet_len {K : Type} [DecidableEq K] (val : Nat → K) : ∀ i, (tnMet val i).length ≤ i
  | 0 => Nat.le_refl _
  | i + 1 => by
    have ih := tnMet_len val i
    unfold tnMet
    split
    · omega
    · rw [List.length_append, List.length_singleton]; omega
theorem tnMet_mem {K : Type} [DecidableEq K] (val : Nat → K) (i : Nat) (k : K) : decide (k ∈ tnMet val (i + 1)) = (decide (k ∈ tnMet val i) || decide (k = val i)) := by
  show decide (k ∈ if val i ∈ tnMet val i then tnMet val i else tnMet val i ++ [val i]) = _
  by_cases h : val i ∈ tnMet val i
  · rw [if_pos h]
    by_cases e : k = val i
    · subst e; simp [h]
    · simp [e]
  · rw [if_neg h]
    simp [List.mem_append]
theorem tnMet_len2 {K : Type} [DecidableEq K] (val : Nat → K) (i : Nat) : (tnMet val (i + 1)).length = if decide (val i ∈ tnMet val i) = true then (tnMet val i).length else (tnMet val i).length + 1 := by
  show (if val i ∈ tnMet val i then tnMet val i else tnMet val i ++ [val i]).length = _
  by_cases h : val i ∈ tnMet val i
  · rw [if_pos h, if_pos (decide_eq_true h)]
  · rw [if_neg h, if_neg (by simpa using h)]
    simp
section
open PyProof.Rows
variable {prog : Program} {w : World} {A : Around} {R : Result → Shared → Prop} {I : Addr} {fp wr : List Addr} {G : Array GenState → Array GenState → Prop} {n : Nat} {P : Nat → Value → Prop} {St : Nat → Shared → Prop}
theorem tn_setOf_congr {K : Type} [DecidableEq K] {knd : KeyKind prog w K} {h : Heap} {a : Addr} {S S' : K → Bool} {n n' : Nat} (hS : h.SetOf knd a S n) (e : ∀ k, S k = S' k) (en : n = n') : h.SetOf knd a S' n' := by
  have : S = S' := funext e
  subst this; subst en; exact hS
theorem tn_set_loop {K : Type} [DecidableEq K] (knd : KeyKind prog w K) (W : WalksS prog w A.in1 I fp wr G n P St) (S : Addr) (hSf : S ∉ fp)
    (val : Nat → K) (hval : ∀ i v, P i v → knd.is (val i) v = true ∧ v.scannable = true) (hb : n + 1 < scanBound) :
    ∀ (k i : Nat) (s : Shared), n - i = k → i ≤ n → St i s →
      s.heap.SetOf knd S (fun k' => decide (k' ∈ tnMet val i)) (tnMet val i).length →
      (∀ s', Moved (S :: wr) G s s' → s'.heap.SetOf knd S (fun k' => decide (k' ∈ tnMet val n)) (tnMet val n).length → R (.ok (.ret .none)) s') →
      codeAny (model prog w) A (.builtin "set.update.loop" ⟨[.ref S, .ref I], []⟩) R s := by
  have hSw : S ∉ wr := fun h => hSf (W.sub _ h)
  have hsub : ∀ b ∈ wr, b ∈ S :: wr := fun b hb => List.mem_cons_of_mem _ hb
  intro k
  induction k with
  | zero =>
    intro i s hk hi hst hS hR
    have hin : i = n := by omega
    subst hin
    refine codeAny_builtin PyProof.Rows.F.entry_set_update_loop ?_
    rw [Around.under_plainId PyProof.Rows.F.plain_set_update_loop _]
    show wpAny _ A.in1 (pyNext (.ref I) >>= _) _ _ s
    refine wpAny_bind (W.done s _ _ hst fun s' hm => ?_)
    show wpAny _ A.in1 (ret Value.none) _ _ s'
    exact wpAny_pure (hR s' (hm.mono hsub) (by
      obtain ⟨o, es, ep, t, ho, rest⟩ := hS
      exact ⟨o, es, ep, t, hm.heap S _ hSw ho, rest⟩))
  | succ k ih =>
    intro i s hk hi hst hS hR
    have hlt : i < n := by omega
    refine codeAny_builtin PyProof.Rows.F.entry_set_update_loop ?_
    rw [Around.under_plainId PyProof.Rows.F.plain_set_update_loop _]
    show wpAny _ A.in1 (pyNext (.ref I) >>= _) _ _ s
    refine wpAny_bind (W.item i s _ _ hlt hst fun v s' hP hst' hm => ?_)
    obtain ⟨hk1, hsc⟩ := hval i v hP
    have hS' : s'.heap.SetOf knd S (fun k' => decide (k' ∈ tnMet val i)) (tnMet val i).length := by
      obtain ⟨o, es, ep, tb, ho, rest⟩ := hS
      exact ⟨o, es, ep, tb, hm.heap S _ hSw ho, rest⟩
    show wpAny _ A.in1 (holding [v] (setAdd S v) >>= _) _ _ s'
    refine wpAny_bind (wpAny_holding ?_)
    unfold setAdd
    refine wpAny_holding ?_
    refine wpAny_bind (knd.pyHash (k := val i) hk1 ?_)
    have hroom : (tnMet val i).length + 1 < scanBound := by have := tnMet_len val i; omega
    refine wpAny_setAddHashed_of (knd := knd) (s := { s' with toks := s'.toks + 1 }) hk1 hsc hS' hroom fun h' hsb hS2 => ?_
    have hSi : h'.SetOf knd S (fun k' => decide (k' ∈ tnMet val (i + 1))) (tnMet val (i + 1)).length :=
      tn_setOf_congr hS2 (fun k' => (tnMet_mem val i k').symm) (tnMet_len2 val i).symm
    refine wpAny_pure ⟨plainId_quiet PyProof.Rows.F.plain_set_update_loop _, ih (i + 1) _ (by omega) hlt (W.frame _ s' _ _ hst' (Nat.le_succ _) fun b hb o e => ?_) hSi fun s'' hm'' hS'' => ?_⟩
    · rw [hsb.2 b (fun h : b = S => hSf (by rw [← h]; exact hb))]; exact e
    · refine hR s'' (Moved.trans W.gtrans ((hm.mono hsub).then_heap (Nat.le_succ _) fun b o hb e => ?_) hm'') hS''
      rw [hsb.2 b (fun h : b = S => hb (by rw [h]; exact List.mem_cons_self))]; exact e
end
section
variable {prog : Program} {w : World} {A : Around} {E : Value → Shared → Prop} {s : Shared}
set_option maxHeartbeats 3200000 in
theorem tn_set_list {l : Addr} {items : Array Value} {K : Type} [DecidableEq K] (knd : KeyKind prog w K) (val : Nat → K) {Q : Value → Shared → Prop}
    (hh : A.handled = none) (hl : s.heap.IsList l items) (hval : ∀ (i : Nat) (v : Value), items[i]? = some v → knd.is (val i) v = true ∧ v.scannable = true) (hb : items.size + 1 < scanBound)
    (h : ∀ (h' : Heap) (tk : Nat), h'.SetOf knd s.heap.objs.size (fun k' => decide (k' ∈ tnMet val items.size)) (tnMet val items.size).length →
      (∀ b o, b < s.heap.objs.size → s.heap.get? b = some o → h'.get? b = some o) → Q (.ref s.heap.objs.size) { s with heap := h', toks := tk }) :
    wpAny (model prog w) A (call (.type "set") [.ref l]) Q E s := by
  obtain ⟨c, tl, hmro⟩ := F.called_set.mro
  have hmade := F.called_set.made
  have hsub := F.called_set.sub
  refine wpAny_call (codeAny_of_tree ?_)
  show wpAny _ _ (callAny (.type "set") _) _ _ _
  refine wpAny_pure ⟨Code.quiet_builtin _ (by decide +kernel), codeAny_builtin F.entry_type_call ?_⟩
  rw [Around.under_plain (weight_type_call_type "set" [.ref l] []) rfl]
  have h1 := F.called_set.notType
  have h2 := F.called_set.canCreate
  have hct := F.typeCall_set_1 (.ref l)
  repeat (any_goals (first | assumption | wp_step))
  refine codeAny_mono (code_set_new_1 (.ref l) (E := E) (Q₁ := fun obj s₁ => ∃ led : Bool, obj = .ref s.heap.objs.size ∧ s₁ = { s with heap := s.heap.push { cls := .type "set", dict := none, data := .set #[] 0 (.fresh 0 0 led) } }) fun led => ⟨led, rfl, rfl⟩) fun r s₁ hr => ?_
  cases r with
  | error e => exact hr
  | ok fl =>
    cases fl with
    | ret obj =>
      obtain ⟨led, rfl, rfl⟩ := hr
      have hS : (s.heap.push { cls := .type "set", dict := none, data := .set #[] 0 (.fresh 0 0 led) }).get? s.heap.objs.size = some { cls := .type "set", dict := none, data := .set #[] 0 (.fresh 0 0 led) } := Heap.get?_push_size _ rfl
      have hT : Shared.TypeIs { s with heap := s.heap.push { cls := .type "set", dict := none, data := .set #[] 0 (.fresh 0 0 led) } } (.ref s.heap.objs.size) "set" := ⟨_, hS, rfl⟩
      have hli := F.called_set.init.lookup
      have hbi := F.called_set.init.bind (.ref s.heap.objs.size)
      repeat (any_goals (first | assumption | wp_step))
      refine codeAny_mono (codeAny_call_builtin (R := wants (fun r s₂ => r = .none ∧ ∃ h' tk, s₂ = { s with heap := h', toks := tk } ∧
          h'.SetOf knd s.heap.objs.size (fun k' => decide (k' ∈ tnMet val items.size)) (tnMet val items.size).length ∧
          (∀ b o, b < s.heap.objs.size → s.heap.get? b = some o → h'.get? b = some o)) E) F.called_set.init.plain F.entry_set_init (check_set_init_1 hT ?_)) fun r₂ s₂ hr₂ => ?_
      · obtain ⟨ol, hol, hcl, nl, hdl⟩ := hl
        obtain ⟨ocls, odict, odata, oslots⟩ := ol
        simp only at hcl hdl
        subst hcl; subst hdl
        have hol' : (s.heap.push { cls := .type "set", dict := none, data := .set #[] 0 (.fresh 0 0 led) }).get? l = some { cls := .type "list", dict := odict, data := .seq items nl, slots := oslots } := Heap.get?_push_of_some _ hol
        have hsls := F.sub_list_set
        have hslf := F.sub_list_frozenset
        have hne : (Value.type "list" == Value.type "dict") = false := by decide
        have hl1 : (s.heap.push { cls := .type "set", dict := none, data := .set #[] 0 (.fresh 0 0 led) }).IsList l items := ⟨_, hol', rfl, nl, rfl⟩
        unfold Builtin.«set.__init__» noKeywords Builtin.Frozenset.updateFrom
        generalize hPI : pyIter = PI
        wp_walk
        subst hPI
        refine wpAny_pyIter_list hl1 ?_
        refine wpAny_bind (wpAny_runValue ?_)
        have hlS : l < s.heap.objs.size := Heap.lt_size hol
        have hh3 : A.in1.in1.in1.handled = none := by simp [hh]
        have hneI : l ≠ (s.heap.push { cls := .type "set", dict := none, data := .set #[] 0 (.fresh 0 0 led) }).objs.size := by
          rw [Heap.size_push]; exact Nat.ne_of_lt (Nat.lt_succ_of_lt hlS)
        have hSf : s.heap.objs.size ∉ [(s.heap.push { cls := .type "set", dict := none, data := .set #[] 0 (.fresh 0 0 led) }).objs.size, l] := by
          rw [Heap.size_push]; simp only [List.mem_cons, List.mem_singleton, List.not_mem_nil, or_false, not_or]
          exact ⟨Nat.ne_of_lt (Nat.lt_succ_self _), Nat.ne_of_gt hlS⟩
        refine tn_set_loop knd ((Walks.list hh3 _ l hneI items).toS) s.heap.objs.size
          hSf val hval hb (items.size - 0) 0 _ (by omega) (Nat.zero_le _)
          ⟨⟨_, Heap.get?_push_size _ rfl, rfl, rfl⟩, (hl1.push _)⟩ ?hS0 ?hR
        case hS0 =>
          have hget : ((s.heap.push { cls := .type "set", dict := none, data := .set #[] 0 (.fresh 0 0 led) }).push { cls := .type "list_iterator", data := .fields #[.ref l, .int 0 0] }).get? s.heap.objs.size
              = some { cls := .type "set", dict := none, data := .set #[] 0 (.fresh 0 0 led) } := Heap.get?_push_of_some _ hS
          exact tn_setOf_congr ((PyProof.Rows.setObjOf_fresh (knd := knd) led).setOf hget (by unfold scanBound; omega)) (fun _ => rfl) rfl
        case hR =>
          intro s' hm hS'
          obtain ⟨h', g', d', tk', os'⟩ := s'
          have eg : g' = s.gens := hm.gens
          have ed : d' = s.drawn := hm.drawn
          have eo : os' = s.os := hm.os
          subst eg; subst ed; subst eo
          show wpAny _ _ _ _ _ _
          refine wpAny_pure ?_
          show wpAny _ _ (ret Value.none) _ _ _
          refine wpAny_pure ⟨rfl, h', tk', rfl, hS', fun b o hb e => ?_⟩
          have hb1 : b ≠ s.heap.objs.size := Nat.ne_of_lt hb
          have hb2 : b ≠ (s.heap.push { cls := .type "set", dict := none, data := .set #[] 0 (.fresh 0 0 led) }).objs.size := by
            rw [Heap.size_push]; exact Nat.ne_of_lt (Nat.lt_succ_of_lt hb)
          exact hm.heap b o (by simp only [List.mem_cons, List.mem_singleton, List.not_mem_nil, or_false, not_or]; exact ⟨hb1, hb2⟩) (Heap.get?_push_of_some _ (Heap.get?_push_of_some _ e))
      · cases r₂ with
        | error e => exact hr₂
        | ok fl₂ =>
          cases fl₂ with
          | ret r =>
            obtain ⟨rfl, h', tk, rfl, hS', hk'⟩ := hr₂
            repeat (any_goals (first | assumption | wp_step))
            exact h _ _ hS' hk'
          | _ => exact hr₂.elim
    | _ => exact hr.elim
set_option maxHeartbeats 3200000 in
theorem tn_set_tuple {l : Addr} {items : Array Value} {K : Type} [DecidableEq K] (knd : KeyKind prog w K) (val : Nat → K) {Q : Value → Shared → Prop}
    (hh : A.handled = none) (hl : s.heap.IsTuple l items) (hval : ∀ (i : Nat) (v : Value), items[i]? = some v → knd.is (val i) v = true ∧ v.scannable = true) (hb : items.size + 1 < scanBound)
    (h : ∀ (h' : Heap) (tk : Nat), h'.SetOf knd s.heap.objs.size (fun k' => decide (k' ∈ tnMet val items.size)) (tnMet val items.size).length →
      (∀ b o, b < s.heap.objs.size → s.heap.get? b = some o → h'.get? b = some o) → Q (.ref s.heap.objs.size) { s with heap := h', toks := tk }) :
    wpAny (model prog w) A (call (.type "set") [.ref l]) Q E s := by
  obtain ⟨c, tl, hmro⟩ := F.called_set.mro
  have hmade := F.called_set.made
  have hsub := F.called_set.sub
  refine wpAny_call (codeAny_of_tree ?_)
  show wpAny _ _ (callAny (.type "set") _) _ _ _
  refine wpAny_pure ⟨Code.quiet_builtin _ (by decide +kernel), codeAny_builtin F.entry_type_call ?_⟩
  rw [Around.under_plain (weight_type_call_type "set" [.ref l] []) rfl]
  have h1 := F.called_set.notType
  have h2 := F.called_set.canCreate
  have hct := F.typeCall_set_1 (.ref l)
  repeat (any_goals (first | assumption | wp_step))
  refine codeAny_mono (code_set_new_1 (.ref l) (E := E) (Q₁ := fun obj s₁ => ∃ led : Bool, obj = .ref s.heap.objs.size ∧ s₁ = { s with heap := s.heap.push { cls := .type "set", dict := none, data := .set #[] 0 (.fresh 0 0 led) } }) fun led => ⟨led, rfl, rfl⟩) fun r s₁ hr => ?_
  cases r with
  | error e => exact hr
  | ok fl =>
    cases fl with
    | ret obj =>
      obtain ⟨led, rfl, rfl⟩ := hr
      have hS : (s.heap.push { cls := .type "set", dict := none, data := .set #[] 0 (.fresh 0 0 led) }).get? s.heap.objs.size = some { cls := .type "set", dict := none, data := .set #[] 0 (.fresh 0 0 led) } := Heap.get?_push_size _ rfl
      have hT : Shared.TypeIs { s with heap := s.heap.push { cls := .type "set", dict := none, data := .set #[] 0 (.fresh 0 0 led) } } (.ref s.heap.objs.size) "set" := ⟨_, hS, rfl⟩
      have hli := F.called_set.init.lookup
      have hbi := F.called_set.init.bind (.ref s.heap.objs.size)
      repeat (any_goals (first | assumption | wp_step))
      refine codeAny_mono (codeAny_call_builtin (R := wants (fun r s₂ => r = .none ∧ ∃ h' tk, s₂ = { s with heap := h', toks := tk } ∧
          h'.SetOf knd s.heap.objs.size (fun k' => decide (k' ∈ tnMet val items.size)) (tnMet val items.size).length ∧
          (∀ b o, b < s.heap.objs.size → s.heap.get? b = some o → h'.get? b = some o)) E) F.called_set.init.plain F.entry_set_init (check_set_init_1 hT ?_)) fun r₂ s₂ hr₂ => ?_
      · obtain ⟨ol, hol, hcl, nl, hdl⟩ := hl
        obtain ⟨ocls, odict, odata, oslots⟩ := ol
        simp only at hcl hdl
        subst hcl; subst hdl
        have hol' : (s.heap.push { cls := .type "set", dict := none, data := .set #[] 0 (.fresh 0 0 led) }).get? l = some { cls := .type "tuple", dict := odict, data := .seq items nl, slots := oslots } := Heap.get?_push_of_some _ hol
        have hsls := F.sub_tuple_set
        have hslf := F.sub_tuple_frozenset
        have hne : (Value.type "tuple" == Value.type "dict") = false := by decide
        have hl1 : (s.heap.push { cls := .type "set", dict := none, data := .set #[] 0 (.fresh 0 0 led) }).IsTuple l items := ⟨_, hol', rfl, nl, rfl⟩
        unfold Builtin.«set.__init__» noKeywords Builtin.Frozenset.updateFrom
        generalize hPI : pyIter = PI
        wp_walk
        subst hPI
        refine wpAny_pyIter_tuple hl1 ?_
        refine wpAny_bind (wpAny_runValue ?_)
        have hlS : l < s.heap.objs.size := Heap.lt_size hol
        have hh3 : A.in1.in1.in1.handled = none := by simp [hh]
        have hneI : l ≠ (s.heap.push { cls := .type "set", dict := none, data := .set #[] 0 (.fresh 0 0 led) }).objs.size := by
          rw [Heap.size_push]; exact Nat.ne_of_lt (Nat.lt_succ_of_lt hlS)
        have hSf : s.heap.objs.size ∉ [(s.heap.push { cls := .type "set", dict := none, data := .set #[] 0 (.fresh 0 0 led) }).objs.size, l] := by
          rw [Heap.size_push]; simp only [List.mem_cons, List.mem_singleton, List.not_mem_nil, or_false, not_or]
          exact ⟨Nat.ne_of_lt (Nat.lt_succ_self _), Nat.ne_of_gt hlS⟩
        refine tn_set_loop knd ((Walks.tuple hh3 _ l hneI items).toS) s.heap.objs.size
          hSf val hval hb (items.size - 0) 0 _ (by omega) (Nat.zero_le _)
          ⟨⟨_, Heap.get?_push_size _ rfl, rfl, rfl⟩, (hl1.push _)⟩ ?hS0 ?hR
        case hS0 =>
          have hget : ((s.heap.push { cls := .type "set", dict := none, data := .set #[] 0 (.fresh 0 0 led) }).push { cls := .type "tuple_iterator", data := .fields #[.ref l, .int 0 0] }).get? s.heap.objs.size
              = some { cls := .type "set", dict := none, data := .set #[] 0 (.fresh 0 0 led) } := Heap.get?_push_of_some _ hS
          exact tn_setOf_congr ((PyProof.Rows.setObjOf_fresh (knd := knd) led).setOf hget (by unfold scanBound; omega)) (fun _ => rfl) rfl
        case hR =>
          intro s' hm hS'
          obtain ⟨h', g', d', tk', os'⟩ := s'
          have eg : g' = s.gens := hm.gens
          have ed : d' = s.drawn := hm.drawn
          have eo : os' = s.os := hm.os
          subst eg; subst ed; subst eo
          show wpAny _ _ _ _ _ _
          refine wpAny_pure ?_
          show wpAny _ _ (ret Value.none) _ _ _
          refine wpAny_pure ⟨rfl, h', tk', rfl, hS', fun b o hb e => ?_⟩
          have hb1 : b ≠ s.heap.objs.size := Nat.ne_of_lt hb
          have hb2 : b ≠ (s.heap.push { cls := .type "set", dict := none, data := .set #[] 0 (.fresh 0 0 led) }).objs.size := by
            rw [Heap.size_push]; exact Nat.ne_of_lt (Nat.lt_succ_of_lt hb)
          exact hm.heap b o (by simp only [List.mem_cons, List.mem_singleton, List.not_mem_nil, or_false, not_or]; exact ⟨hb1, hb2⟩) (Heap.get?_push_of_some _ (Heap.get?_push_of_some _ e))
      · cases r₂ with
        | error e => exact hr₂
        | ok fl₂ =>
          cases fl₂ with
          | ret r =>
            obtain ⟨rfl, h', tk, rfl, hS', hk'⟩ := hr₂
            repeat (any_goals (first | assumption | wp_step))
            exact h _ _ hS' hk'
          | _ => exact hr₂.elim
    | _ => exact hr.elim
end
end PySem

set_option Elab.async false
set_option linter.all false
set_option maxRecDepth 100000
set_option maxHeartbeats 1000000
/-! TN9: len(set(xs)) of whole numbers and texts. -/
namespace TL
open PySem PySem.Spec PyProof.Rows L2
/-! ### len(set(xs)) -/
def keyAt (ks : List Key) (i : Nat) : Key := ks.getD i (.inl 0)
theorem vals_keys : ∀ {ks : List Key} {us : List Value}, Vals (ks.map kV) us → ∀ (i : Nat) (v : Value), us[i]? = some v → keyIs (keyAt ks i) v = true ∧ v.scannable = true
  | [], _, .nil, i, v, h => by simp at h
  | k :: ks, _, .cons hk ht, 0, v, h => by
    simp at h
    subst h
    cases k with
    | inl i =>
      obtain ⟨t, rfl⟩ := hk
      exact ⟨keyIs_int i t, rfl⟩
    | inr x =>
      obtain ⟨t, rfl⟩ := hk
      exact ⟨keyIs_str x t, rfl⟩
  | k :: ks, _, .cons hk ht, i + 1, v, h => by
    simp only [List.getElem?_cons_succ] at h
    exact vals_keys ht i v h
def dedupL (ks : List Key) : Nat := (tnMet (keyAt ks) ks.length).length
def rLenSet (K : PySem.W.Frag) (ta : TE) : TE := fun σ H Q => ta σ H fun x H1 => ∃ (l : Addr) (ks : List Key), x = V.ref l ∧ (SqL K H1 l (ks.map kV) ∨ SqT K H1 l (ks.map kV)) ∧ ks.length < 4000 ∧ Q (.int (dedupL ks : Nat)) H1
theorem pe_lenSetK {X : Cx} {a : Expr} {ta : TE} {p p2 q pos : Pos} (hc : X.calm = true) (hg : Gl X "len") (hm : X.mg "len" = none) (hg2 : Gl X "set") (hm2 : X.mg "set" = none) (ha : PE X a ta)
    (na : starEach [a] X.env = (false, eval a X.env) :: starEach [] X.env := by rfl) : PE X (.Call (.Name "len" p) [.Call (.Name "set" p2) [a] [] q] [] pos) (rLenSet X.K ta) := by
  refine ⟨fun pins s σ H Q I h => ?_⟩
  refine Call_ (ld_blt I hg hm PySem.boot_len ?_)
  refine PyProof.Rows.callWith_builtin1 (PyProof.Rows.args_cons ?_ rfl) rfl rfl
  refine Call_ (ld_blt I hg2 hm2 PyProof.Rows.boot_set ?_)
  refine PyProof.Rows.callWith_type1 (PyProof.Rows.args_cons (thn (ha.run pins s σ H _ I h) fun v s1 ⟨x, H1, I1, r1, q1⟩ => PyProof.Rows.args_nil ?_) na) na rfl
  obtain ⟨l, ks, rfl, hq, h1, q1⟩ := q1
  cases r1
  have sb : ks.length + 1 < scanBound := by unfold scanBound; omega
  have d1 := tnMet_len (keyAt ks) ks.length
  rcases hq with hq | hq
  · obtain ⟨its, r, pl, hz⟩ := I1.list hq
    have hl : its.toArray.size = ks.length := by rw [List.size_toArray, ← r.length, List.length_map]
    refine tn_set_list (mixKind X.prog X.w) (keyAt ks) (I1.ok.hd hc) pl.isList (fun i v e => vals_keys r i v (by simpa using e)) (by rw [hl]; exact sb) fun h' tk hS hk => ?_
    rw [hl] at hS
    refine PyProof.Rows.args_nil ?_
    obtain ⟨o, es, ep, t, ho, hex, hd, _, _, _, hf, hn⟩ := hS
    have I2 : Inv X pins σ H1 { s1 with heap := h', toks := tk } := I1.kept fun b o e => hk b o (Heap.lt_size e) e
    refine call_len_set ho hex hd hf (by rw [hn]; omega) ⟨.int (dedupL ks : Nat), H1, I2.tok _, ⟨_, by rw [hn]; rfl⟩, q1⟩
  · obtain ⟨its, r, pl, hz⟩ := I1.tuple hq
    have hl : its.toArray.size = ks.length := by rw [List.size_toArray, ← r.length, List.length_map]
    refine tn_set_tuple (mixKind X.prog X.w) (keyAt ks) (I1.ok.hd hc) (show s1.heap.IsTuple l its.toArray from pl) (fun i v e => vals_keys r i v (by simpa using e)) (by rw [hl]; exact sb) fun h' tk hS hk => ?_
    rw [hl] at hS
    refine PyProof.Rows.args_nil ?_
    obtain ⟨o, es, ep, t, ho, hex, hd, _, _, _, hf, hn⟩ := hS
    have I2 : Inv X pins σ H1 { s1 with heap := h', toks := tk } := I1.kept fun b o e => hk b o (Heap.lt_size e) e
    refine call_len_set ho hex hd hf (by rw [hn]; omega) ⟨.int (dedupL ks : Nat), H1, I2.tok _, ⟨_, by rw [hn]; rfl⟩, q1⟩
/-- len(set(c)) -/
def lenSetV (x : PV) (S : Store) : Res PV := match seqC x S with
  | some (_, xs, _) => match keysOf xs with
    | some ks => if ks.length < 4000 then .ok (.int (dedupL ks : Nat)) S else .stuck
    | none => .stuck
  | none => .stuck
def eLenSet (c : CE PV) : CE PV := fun ρ S => (c ρ S).bind lenSetV
@[simp] theorem eLenSet_ap (c : CE PV) (ρ : Sl) (S : Store) : eLenSet c ρ S = (c ρ S).bind lenSetV := rfl
theorem keysOf_vs {K : PySem.W.Frag} {m : Mp} {H : Hp} : ∀ {xs : List PV} {ks : List Key} {vs : List V}, keysOf xs = some ks → Rps K m H xs vs → vs = ks.map kV
  | [], ks, vs, h, r => by
    cases h
    exact r
  | x :: xs, ks, vs, h, r => by
    unfold keysOf at h
    cases e1 : keyOf x with
    | none => rw [e1] at h; cases h
    | some q =>
      cases e2 : keysOf xs with
      | none => rw [e1, e2] at h; cases h
      | some qs =>
        rw [e1, e2] at h
        cases h
        obtain ⟨v, us, rfl, rv, ru⟩ := r
        rw [keysOf_vs e2 ru, List.map_cons, key_val rv e1]
theorem de_lenSet {X : Cx} {W : WX} {p p2 q pos : Pos} {a : Expr} {ca : CE PV} (hc : X.calm = true) (hm : X.mg "len" = none) (hm2 : X.mg "set" = none) (ha : DE X W a ca) (hg : Gl X "len" := by rfl) (hg2 : Gl X "set" := by rfl)
    (na : starEach [a] X.env = (false, eval a X.env) :: starEach [] X.env := by rfl) : DE X W (.Call (.Name "len" p) [.Call (.Name "set" p2) [a] [] q] [] pos) (eLenSet ca) := by
  refine pe_imp (pe_lenSetK hc hg hm hg2 hm2 ha na) fun σ H Q h => ?_
  obtain ⟨m, S, ρ, at_, fin⟩ := h
  refine ⟨m, S, ρ, at_, (Fin.bind at_ fin).mono fun v H1 h1 => ?_⟩
  obtain ⟨m1, S1, x, at1, r1, e1, l1, f1⟩ := h1
  unfold lenSetV at f1
  cases hx : seqC x S1 with
  | none => rw [hx] at f1; exact f1.elim
  | some t1 =>
    obtain ⟨d, xs, ck⟩ := t1
    rw [hx] at f1
    simp only at f1
    cases hk : keysOf xs with
    | none => rw [hk] at f1; exact f1.elim
    | some ks =>
      rw [hk] at f1
      simp only at f1
      by_cases hz : ks.length < 4000
      · rw [if_pos hz] at f1
        obtain ⟨q, rfl, hq⟩ := seqC_ok at1.rel r1 hx
        have c0 : chk ck S1 := by
          unfold seqC at hx
          cases x with
          | rol z => cases hx; exact chk_nil _
          | tup z => cases hx; exact chk_nil _
          | kup z => cases hx; exact chk_nil _
          | obj i =>
            simp only at hx
            split at hx
            · rename_i e
              cases hx
              exact chk_one e
            · cases hx
          | _ => cases hx
        obtain ⟨vs, v1, rr, _⟩ := hq m1 S1 H1 Ext.refl (Nat.le_refl _) at1.rel c0
        have ev := keysOf_vs hk rr
        subst ev
        refine ⟨q, ks, rfl, ?_, hz, f1.here at1.rel ⟨rfl, rfl⟩⟩
        cases d with
        | t => exact .inr v1
        | l => exact .inl v1
      · rw [if_neg hz] at f1
        exact f1.elim
/-- how many unlike things -/
theorem tnMet_nodup {K : Type} [DecidableEq K] {val : Nat → K} : ∀ n, (∀ i j, i < j → j < n → val i ≠ val j) → tnMet val n = (List.range n).map val
  | 0, _ => rfl
  | n + 1, h => by
    have ih := tnMet_nodup n fun i j hi hj => h i j hi (by omega)
    show (if val n ∈ tnMet val n then tnMet val n else tnMet val n ++ [val n]) = _
    rw [if_neg, ih, List.range_succ, List.map_append]
    · rfl
    · rw [ih]
      intro z
      obtain ⟨i, hi, e⟩ := List.mem_map.mp z
      exact h i n (List.mem_range.mp hi) (Nat.lt_succ_self _) e
theorem dedupL_nodup {ks : List Key} (h : ks.Nodup) : dedupL ks = ks.length := by
  unfold dedupL
  rw [tnMet_nodup, List.length_map, List.length_range]
  intro i j hi hj e
  unfold keyAt at e
  rw [List.getD_eq_getElem?_getD, List.getD_eq_getElem?_getD, List.getElem?_eq_getElem (by omega), List.getElem?_eq_getElem hj] at e
  exact absurd e (List.pairwise_iff_getElem.mp h i j (by omega) hj hi)
theorem tnMet_keep {K : Type} [DecidableEq K] {val : Nat → K} {n : Nat} : ∀ m, n ≤ m → (tnMet val n).length + (m - n) ≥ (tnMet val m).length
  | 0, h => by
    have : n = 0 := by omega
    subst this
    exact Nat.le_refl _
  | m + 1, h => by
    by_cases e : n = m + 1
    · subst e; omega
    · have ih := tnMet_keep m (n := n) (val := val) (by omega)
      have : (tnMet val (m + 1)).length ≤ (tnMet val m).length + 1 := by
        show (if val m ∈ tnMet val m then tnMet val m else tnMet val m ++ [val m]).length ≤ _
        split
        · omega
        · rw [List.length_append, List.length_singleton]; exact Nat.le_refl _
      omega
theorem tnMet_has {K : Type} [DecidableEq K] {val : Nat → K} : ∀ {n i : Nat}, i < n → val i ∈ tnMet val n
  | n + 1, i, h => by
    show val i ∈ (if val n ∈ tnMet val n then tnMet val n else tnMet val n ++ [val n])
    by_cases e : i = n
    · subst e
      split
      · assumption
      · simp
    · have ih := tnMet_has (val := val) (n := n) (i := i) (by omega)
      split
      · exact ih
      · exact List.mem_append_left _ ih
theorem dedupL_eq {ks : List Key} : dedupL ks = ks.length ↔ ks.Nodup := by
  refine ⟨fun h => ?_, dedupL_nodup⟩
  rw [List.Nodup, List.pairwise_iff_getElem]
  intro i j hi hj hij e
  have h1 : (tnMet (keyAt ks) (j + 1)).length ≤ j := by
    have hm : keyAt ks j ∈ tnMet (keyAt ks) j := by
      have : keyAt ks j = keyAt ks i := by
        unfold keyAt
        rw [List.getD_eq_getElem?_getD, List.getD_eq_getElem?_getD, List.getElem?_eq_getElem hi, List.getElem?_eq_getElem hj, e]
      rw [this]
      exact tnMet_has hij
    unfold tnMet
    rw [if_pos hm]
    exact tnMet_len _ j
  have h2 := tnMet_keep (val := keyAt ks) (n := j + 1) ks.length (by omega)
  unfold dedupL at h
  omega
end TL

set_option Elab.async false
set_option linter.all false
set_option maxRecDepth 100000
set_option maxHeartbeats 1000000
/-! TN10: list(reversed(xs)), xs a list; a written dict of one text and one number. -/
namespace RT
open PySem PySem.Spec PyProof.Rows L2
section
variable {prog : Program} {w : World} {A : Around} {E : Value → Shared → Prop} {s : Shared}
theorem tn_list_init_rev {R : Result → Shared → Prop} {it l S : Addr} {items : Array Value} (hh : A.in1.handled = none) (hit : s.heap.IsRevIter it l ((items.size : Int) - 1)) (hl : s.heap.IsList l items) (hne : l ≠ it) (hn : items.size ≤ sizeLine) (hSi : S ≠ it) (hSl : S ≠ l)
    (hS : s.heap.get? S = some { cls := .type "list", data := .seq #[] })
    (hR : ∀ s' acc' c', Moved [S, it] (fun a b => b = a) s s' → s'.heap.get? S = some { cls := .type "list", dict := none, data := .seq acc' c', slots := #[] } → ItemsOf (fun i v => items[items.size - 1 - i]? = some v) acc' items.size → R (.ok (.ret .none)) s') :
    wpAny (model prog w) A.in1 (Builtin.«list.__init__» ⟨[.ref S, .ref it], []⟩)
      (fun fin s' => match fin with | .done f => R (.ok f) s' | .again c' => c'.quiet = true ∧ codeAny (model prog w) A c' R s') (fun e s' => R (.error e) s') s := by
  have W := (Walks.listRev (prog := prog) (w := w) (A := A.in1) hh it l hne items).toS
  have hSf : S ∉ [it, l] := by simp only [List.mem_cons, List.not_mem_nil, or_false, not_or]; exact ⟨hSi, hSl⟩
  show wpAny _ A.in1 (do let old ← Builtin.List.listItems (.ref S); Builtin.List.listUpdate (.ref S) (fun _ => #[]); letGo old.toList.reverse; Builtin.List.listExtendWith (.ref S) (.ref it) .none) _ _ s
  refine wpAny_bind ?_
  unfold Builtin.List.listItems
  refine wpAny_bind (wpAny_seqItems hS rfl (wpAny_pure ?_))
  show wpAny _ A.in1 (updateSeq S (fun _ => #[]) >>= fun _ => letGo (#[] : Array Value).toList.reverse >>= fun _ => Builtin.List.listExtendWith (.ref S) (.ref it) .none) _ _ s
  refine wpAny_bind (wpAny_updateSeq hS rfl ?_)
  have hS₂ := Heap.get?_update_self (Obj.mapSeq (fun _ => (#[] : Array Value))) hS rfl
  have oth : ∀ b o, b ≠ S → s.heap.get? b = some o → (s.heap.update S (Obj.mapSeq (fun _ => (#[] : Array Value)))).get? b = some o :=
    fun b o hb e => (Heap.get?_update_other _ _ (Ne.symm hb)).trans e
  refine wpAny_bind (wpAny_letGo ?_)
  have hit1 : (s.heap.update S (Obj.mapSeq (fun _ => (#[] : Array Value)))).IsRevIter it l ((items.size : Int) - 1) := hit.at fun o e => oth it o (Ne.symm hSi) e
  have hl1 : (s.heap.update S (Obj.mapSeq (fun _ => (#[] : Array Value)))).IsList l items := by
    obtain ⟨o, ho, r⟩ := hl
    exact ⟨o, oth l o (Ne.symm hSl) ho, r⟩
  have hT : ({ s with heap := s.heap.update S (Obj.mapSeq (fun _ => (#[] : Array Value))) } : Shared).TypeIs (.ref it) "list_reverseiterator" := Heap.IsRevIter.typeIs (s := { s with heap := s.heap.update S (Obj.mapSeq (fun _ => (#[] : Array Value))) }) hit1
  have h1 : Builtin.List.listSameRef (.ref S) (.ref it) = false := by simp [Builtin.List.listSameRef, hSi]
  unfold Builtin.List.listExtendWith
  refine wpAny_bind (wpAny_typeOf hT ?_)
  rw [if_neg (by rw [h1]; decide)]
  refine wpAny_bind (wpAny_pyIter_revIter (s := { s with heap := s.heap.update S (Obj.mapSeq (fun _ => (#[] : Array Value))) }) hit1 ?_)
  refine wpAny_bind (wpAny_holding ?_)
  unfold Builtin.List.listLengthHint
  refine wpAny_bind (wpAny_specialOf hT nolen_lri ?_)
  show wpAny _ A.in1 (specialOf (Value.ref it) (Str.ofString "__length_hint__") >>= _) _ _ _
  refine wpAny_bind (wpAny_specialOf hT hint_lri ?_)
  generalize hid : ("list_reverseiterator.__length_hint__" : String) = id0
  wp_delta
  rw [show splitId id0 = some ("list_reverseiterator", "__length_hint__") from by subst hid; decide +kernel]
  subst hid
  refine wpAny_bind (wpAny_isInstance (b := true) hT (by rw [isSubtype_type]; kernel_rfl) ?_)
  refine wpAny_pure ?_
  rw [if_neg (by decide)]
  have e0 : ((items.size : Nat) : Int) - 1 - ((0 : Nat) : Int) = (items.size : Int) - 1 := by omega
  refine wpAny_pure ⟨plainId_quiet F.plain_extend_loop _, codeAny_extend_loopS W hn _ hSf _ items.size 0 _ _ _ rfl (Nat.zero_le _) ⟨Nat.zero_le _, by rw [e0]; exact hit1, hl1⟩ hS₂ (ItemsOf.nil _) fun s' acc' c' hm hS' hacc => ?_⟩
  have m0 : Moved [S, it] (fun a b => b = a) s { s with heap := s.heap.update S (Obj.mapSeq (fun _ => (#[] : Array Value))) } :=
    ⟨fun b o hb e => oth b o (fun h => hb (by rw [h]; exact List.mem_cons_self)) e, rfl, rfl, rfl, Nat.le_refl _⟩
  exact hR s' acc' c' (Moved.trans W.gtrans m0 hm) hS' hacc
theorem tn_call_list_rev {it l : Addr} {items : Array Value} {Q : Value → Shared → Prop} (hh : A.handled = none) (hit : s.heap.IsRevIter it l ((items.size : Int) - 1)) (hl : s.heap.IsList l items) (hne : l ≠ it) (hn : items.size ≤ sizeLine)
    (hQ : ∀ (h' : Heap) (tk : Nat) (acc : Array Value) (c : Nat), (∀ b o, b ≠ it → s.heap.get? b = some o → h'.get? b = some o) → h'.get? s.heap.objs.size = some { cls := .type "list", dict := none, data := .seq acc c, slots := #[] } →
      ItemsOf (fun i v => items[items.size - 1 - i]? = some v) acc items.size → Q (.ref s.heap.objs.size) { s with heap := h', toks := tk }) :
    wpAny (model prog w) A (call (.type "list") [.ref it]) Q E s := by
  obtain ⟨oi, hoi, _⟩ := id hit
  obtain ⟨ol, hol, _⟩ := id hl
  have hSi : s.heap.objs.size ≠ it := Nat.ne_of_gt (Heap.lt_size hoi)
  have hSl : s.heap.objs.size ≠ l := Nat.ne_of_gt (Heap.lt_size hol)
  refine callType_codes (Q₁ := fun obj s₁ => obj = .ref s.heap.objs.size ∧ s₁ = { s with heap := s.heap.push { cls := .type "list", data := .seq #[] } }) F.called_list (F.typeCall_list_1 _) F.entry_list_init
    (code_list_new _ ⟨rfl, rfl⟩) fun obj s₁ h₁ => ?_
  obtain ⟨rfl, rfl⟩ := h₁
  have hS : (s.heap.push { cls := .type "list", data := .seq #[] }).get? s.heap.objs.size = some { cls := .type "list", data := .seq #[] } := Heap.get?_push_size _ rfl
  refine ⟨⟨_, hS, rfl⟩, F.args_list_init_2 _ _, tn_list_init_rev (hh := by first | exact hh | simp [hh]) (hit.at fun o e => Heap.get?_push_of_some _ e) (hl.push _) hne hn hSi hSl hS fun s' acc' c' hm hS' hacc => ⟨rfl, ?_⟩⟩
  rw [Moved.eq_with hm]
  refine hQ s'.heap s'.toks acc' c' (fun b o hb e => hm.heap b o (fun hmem => ?_) (Heap.get?_push_of_some _ e)) hS' hacc
  rcases List.mem_cons.mp hmem with e' | hmem
  · exact absurd (Heap.lt_size e) (by rw [e']; exact Nat.lt_irrefl _)
  · exact hb (List.mem_singleton.mp hmem)
end
section
variable {X : Cx}
/-- list(reversed(x)), x a list: a new list -/
def tListRev (K : PySem.W.Frag) (te : TE) : TE := fun σ H Q => te σ H fun v H1 => ∃ (a : Addr) (xs : List V), v = .ref a ∧ SqL K H1 a xs ∧ ∀ q, H1 q = none → Q (.ref q) (upd H1 q (.lst xs.reverse))
theorem pe_listRev {e : Expr} {te : TE} {p p2 pos pos2 : Pos} (hc : X.calm = true) (hg : Gl X "list") (hm : X.mg "list" = none) (hg2 : Gl X "reversed") (hm2 : X.mg "reversed" = none) (he : PE X e te)
    (hs : starEach [e] X.env = (false, eval e X.env) :: starEach [] X.env := by rfl)
    (hs2 : starEach [.Call (.Name "reversed" p2) [e] [] pos2] X.env = (false, eval (.Call (.Name "reversed" p2) [e] [] pos2) X.env) :: starEach [] X.env := by rfl) :
    PE X (.Call (.Name "list" p) [.Call (.Name "reversed" p2) [e] [] pos2] [] pos) (tListRev X.K te) := by
  refine ⟨fun pins s σ H Q I h => ?_⟩
  refine Call_ (ld_blt I hg hm boot_list (PyProof.Rows.callWith_type1 (args_cons (Call_ (ld_blt I hg2 hm2 PyProof.Rows.boot_reversed (PyProof.Rows.callWith_type1 (args_cons (thn (he.run pins s σ H _ I h) fun u s1 ⟨v, H1, I1, r1, q1⟩ => args_nil ?_) hs) hs rfl))) hs2) hs2 rfl))
  obtain ⟨a, xs, ev, hq, q⟩ := q1
  subst ev
  obtain rfl : u = Value.ref a := r1
  obtain ⟨its, rv, p', hz⟩ := I1.list hq
  refine call_reversed_list p'.isList (args_nil ?_)
  have k0 : ∀ b o, s1.heap.get? b = some o → (s1.heap.push (revObj a ((its.toArray.size : Int) - 1))).get? b = some o := fun b o e => Heap.get?_push_of_some _ e
  have I2 : Inv X pins σ H1 { s1 with heap := s1.heap.push (revObj a ((its.toArray.size : Int) - 1)) } := I1.kept (t' := s1.toks) k0
  obtain ⟨f0, f1, f2, f3, f4, f5⟩ := I1.fpOk (H' := H1) (b := s1.heap.objs.size) (Nat.le_refl _) (I1.hok.fresh (Nat.le_refl _))
  have hl := p'.isList
  obtain ⟨ol, hol, _⟩ := id hl
  have hne : a ≠ s1.heap.objs.size := Nat.ne_of_lt (Heap.lt_size hol)
  have hn : its.toArray.size ≤ sizeLine := by rw [List.size_toArray, ← rv.length]; exact hz
  refine tn_call_list_rev (s := { s1 with heap := s1.heap.push (revObj a ((its.toArray.size : Int) - 1)) }) (I1.ok.hd hc) ⟨_, Heap.get?_push_size _ rfl, rfl, rfl⟩ (hl.push _) hne hn fun h' tk acc c hk hS hi => ?_
  have hnew := I2.hok.fresh (a := (s1.heap.push (revObj a ((its.toArray.size : Int) - 1))).objs.size) (Nat.le_refl _)
  have I3 : Inv X pins σ (upd H1 (s1.heap.push (revObj a ((its.toArray.size : Int) - 1))).objs.size (.lst xs.reverse)) { s1 with heap := h', toks := tk } :=
    I2.turnedNew (t' := tk) (ch := [s1.heap.objs.size]) (fun b o hb e => hk b o (by simpa using hb) e) (fun b hb => by
      have e : b = s1.heap.objs.size := by simpa using hb
      subst e
      exact I1.fpOk (Nat.le_refl _) (I1.hok.fresh (Nat.le_refl _))) (Nat.le_refl _)
      (show ObjOk X.prog X.w _ _ _ (.lst xs.reverse) from ⟨by rw [List.length_reverse]; exact hz, acc.toList, c, vals_rev rv hi, by rw [Array.toArray_toList]; exact hS⟩)
  exact ⟨.ref _, _, I3, rfl, q _ hnew⟩
end
end RT
namespace TL
open PySem PySem.Spec PyProof.Rows L2
def revV (x : PV) (S : Store) : Res PV := match seqC x S with
  | some (.l, xs, _) => .ok (.obj S.length) (S ++ [.lst xs.reverse])
  | _ => .stuck
/-- list(reversed(c)) -/
def eListRev (c : CE PV) : CE PV := fun ρ S => (c ρ S).bind revV
@[simp] theorem eListRev_ap (c : CE PV) (ρ : Sl) (S : Store) : eListRev c ρ S = (c ρ S).bind revV := rfl
theorem de_listRev {X : Cx} {W : WX} {p p2 pos pos2 : Pos} {a : Expr} {ca : CE PV} (hc : X.calm = true) (hm : X.mg "list" = none) (hm2 : X.mg "reversed" = none) (ha : DE X W a ca) (hg : Gl X "list" := by rfl) (hg2 : Gl X "reversed" := by rfl)
    (hs : starEach [a] X.env = (false, eval a X.env) :: starEach [] X.env := by rfl)
    (hs2 : starEach [.Call (.Name "reversed" p2) [a] [] pos2] X.env = (false, eval (.Call (.Name "reversed" p2) [a] [] pos2) X.env) :: starEach [] X.env := by rfl) : DE X W (.Call (.Name "list" p) [.Call (.Name "reversed" p2) [a] [] pos2] [] pos) (eListRev ca) := by
  refine pe_imp (RT.pe_listRev hc hg hm hg2 hm2 ha hs hs2) fun σ H Q h => ?_
  obtain ⟨m, S, ρ, at_, fin⟩ := h
  refine ⟨m, S, ρ, at_, (Fin.bind at_ fin).mono fun v H1 h1 => ?_⟩
  obtain ⟨m1, S1, x, at1, r1, e1, l1, f1⟩ := h1
  unfold revV at f1
  split at f1
  · rename_i xs ck hx
    obtain ⟨q, rfl, hq⟩ := seqC_ok at1.rel r1 hx
    have c0 : chk ck S1 := by
      unfold seqC at hx
      cases x with
      | rol z => cases hx; exact chk_nil _
      | obj i =>
        simp only at hx
        split at hx
        · rename_i e
          cases hx
          exact chk_one e
        · cases hx
      | _ => cases hx
    obtain ⟨vs, v1, rr, b1⟩ := hq m1 S1 H1 Ext.refl (Nat.le_refl _) at1.rel c0
    refine ⟨q, vs, rfl, v1, fun d hd => ?_⟩
    exact f1.lst at1.rel (bnds_all.mpr fun y hy => bnds_all.mp b1 y (List.mem_reverse.mp hy)) rr.reverse hd
  · exact f1.elim
/-- {"..": n} -/
def eDic1 (z : Str) (i : Int) : CE PV := fun _ S => .ok (.obj S.length) (S ++ [.dic false [(.str z, .int i)]])
@[simp] theorem eDic1_ap (z : Str) (i : Int) (ρ : Sl) (S : Store) : eDic1 z i ρ S = .ok (.obj S.length) (S ++ [.dic false [(.str z, .int i)]]) := rfl
theorem upd_twice {H : Hp} {p : Addr} {u v : HO} : upd (upd H p u) p v = upd H p v := by
  funext b
  by_cases h : b = p
  · subst h; rw [upd_same, upd_same]
  · rw [upd_ne h, upd_ne h, upd_ne h]
theorem de_disp1 {X : Cx} {W : WX} {z : Str} {i : Int} {j1 j2 : Nat} {p1 p2 pos : Pos} : DE X W (.Dict [some (.Constant (.str z) j1 p1)] [.Constant (.int i) j2 p2] pos) (eDic1 z i) := by
  refine pe_imp (pe_disp (pps_cons pe_str pe_int pps_nil) rfl rfl (by simp) (show 1 ≤ 15 by decide)) fun σ H Q h => ?_
  obtain ⟨m, S, ρ, at_, fin⟩ := h
  intro p hp
  show (upd H p (.dK [])) p = _ ∧ _
  refine ⟨upd_same, [(.inr z, .int i)], rfl, (show 1 ≤ 15 by decide), ?_⟩
  rw [upd_twice]
  exact fin.dicK at_.rel rfl (show KvK X.K m H [(.str z, .int i)] [(.inr z, .int i)] from ⟨_, _, rfl, rfl, rfl, rfl⟩) hp
end TL

set_option Elab.async false
set_option linter.all false
set_option maxRecDepth 100000
set_option maxHeartbeats 1000000
/-! TN11: == and != of dicts. -/
namespace PySem.W
open Lean Elab Tactic Meta PySem PySem.Calls PyProof.Rows PyProof.V PySem.Spec
theorem tn_rcP_ne_dicts {prog : Program} {w : World} {K : Type} [DecidableEq K] {knd : KeyKind prog w K} {A : Around} {s : Shared} {a b : Addr} {ka kb : List (K × Value)} {r : Bool} (ha : (a == sysModules) = false) (hb : (b == sysModules) = false)
    (da : s.heap.DictOf knd a ka) (db : s.heap.DictOf knd b kb) (hu : A.units < cLine) (hits : ka.length = kb.length → KeqHitsP prog w A.in1 s kb ka r) (E Q : Value → Shared → Prop) (h : Q (.bool (!(ka.length == kb.length && r))) s) : wpAny (model prog w) A (richCompare .NotEq (.ref a) (.ref b)) Q E s := by
  refine wpAny_richCompare_same_room (op := .NotEq) da.typeIs db.typeIs PySem.F.slot_dict_ne (wpAny_call_entry PySem.F.slot_dict_ne da.typeIs PySem.F.entry_dict_ne ?_ (PySem.F.args_dict_ne_2 _ _)) hu
  show wpAny _ _ (Builtin.Dict.dictSlotArgs "__ne__" ⟨[.ref a, .ref b], []⟩ >>= _) _ _ s
  refine wpAny_bind ?_
  unfold Builtin.Dict.dictSlotArgs
  refine wpAny_bind (wpAny_notOrdered_dict da.typeIs ?_)
  show wpAny _ _ (pure (Value.ref a, Value.ref b)) _ _ s
  refine wpAny_pure ?_
  refine wpAny_bind (wpAny_isInstance (T := "dict") db.typeIs PySem.F.sub_dict_dict ?_)
  simp only [Bool.not_true, Bool.false_eq_true, if_false]
  refine wpAny_bind (wpAny_pure (wpAny_bind (wpAny_pure ?_)))
  refine wpAny_bind (samePairsP ha hb da db hits ?_)
  refine wpAny_pure ⟨_, rfl, ?_, ?_⟩
  · exact fun x => nomatch x
  · simpa using h
end PySem.W
namespace TL
open PySem PySem.Spec PyProof.Rows L2
section
variable {X : Cx} {pins : List (Addr × Obj)} {σ : L2.St} {H : Hp} {s : Shared}
theorem neR_run (I : Inv X pins σ H s) {A : Around} {F : V → V → Prop} (hu : A.units < cLine) (ih : ∀ x y v u, F x y → RelV x v → RelV y u → SeqAt.EqP X.prog X.w A.in1 s v u true) {x y : V} {v u : Value} (h : EqR X.K H F x y) (rx : RelV x v) (ry : RelV y u)
    (E Q : Value → Shared → Prop) (q : Q (.bool false) s) : wpAny (model X.prog X.w) A (richCompare .NotEq v u) Q E s := by
  rcases h with h | ⟨a, b, ks, ls, rfl, rfl, ha, hb, hl, hp⟩
  · exact neL_run I hu ih h rx ry E Q q
  · cases (show v = Value.ref a from rx)
    cases (show u = Value.ref b from ry)
    obtain ⟨_, ya, va, ra, da⟩ := (show ObjOk X.prog X.w H s.heap a (.dK ks) from I.hok a _ ha)
    obtain ⟨_, yb, vb, rb, db⟩ := (show ObjOk X.prog X.w H s.heap b (.dK ls) from I.hok b _ hb)
    refine PySem.W.tn_rcP_ne_dicts (knd := mixKind X.prog X.w) (r := true) ya yb da db hu (fun _ => hits_run ih rb ra hp) E Q ?_
    have e : va.length = vb.length := by rw [← ra.length, ← rb.length]; exact hl
    rw [show (va.length == vb.length && true) = true from by rw [e]; simp]
    exact q
theorem op_eqX2 (hu : X.A.units + 80 < cLine) : OpR X (compareOp .Eq) (fun x y H Q => EqR X.K H (EqW X.K H 4) x y ∧ Q (.bl true) H) := by
  intro pins s σ H x y v u Q I rx ry h
  obtain ⟨h, q⟩ := h
  exact eqR_run I (A := X.A) (by omega) (eqW_run I 4 X.A.in1 (by show X.A.units + 1 + 4 + 66 < cLine; omega)) h rx ry _ _ ⟨.bl true, H, I, rfl, q⟩
theorem op_neX2 (hu : X.A.units + 80 < cLine) : OpR X (compareOp .NotEq) (fun x y H Q => EqR X.K H (EqW X.K H 4) x y ∧ Q (.bl false) H) := by
  intro pins s σ H x y v u Q I rx ry h
  obtain ⟨h, q⟩ := h
  exact neR_run I (A := X.A) (by omega) (eqW_run I 4 X.A.in1 (by show X.A.units + 1 + 4 + 66 < cLine; omega)) h rx ry _ _ ⟨.bl false, H, I, rfl, q⟩
end
section
variable {K : PySem.W.Frag} {mg : Str → Option Value} {m : Mp} {S : Store} {H : Hp}
theorem deep_dic (r : Rel K mg m S H) (n : Nat) {i j : Nat} {ks ls : List (PV × PV)} (ei : S[i]? = some (.dic false ks)) (ej : S[j]? = some (.dic false ls)) (h : dicB (deepB S n) ks ls = true) : EqR K H (EqW K H n) (.ref (m i)) (.ref (m j)) := by
  unfold dicB at h
  rw [Bool.and_eq_true, Bool.and_eq_true, List.all_eq_true] at h
  obtain ⟨d1, d2, d3⟩ := h
  have d2' := of_decide_eq_true d2
  obtain ⟨p0, hp0⟩ : ∃ p0, p0 ∈ ks := by
    cases ks with
    | nil => cases d1
    | cons a l => exact ⟨a, List.mem_cons_self ..⟩
  obtain ⟨k0, _⟩ := Bool.and_eq_true_iff.mp (d3 p0 hp0)
  obtain ⟨l, a1, a2⟩ := r.dicK ei hp0 k0
  obtain ⟨q0, hq0, kq⟩ : ∃ q0 ∈ ls, (keyOf q0.1).isSome = true := by
    have h3 := (Bool.and_eq_true_iff.mp (d3 p0 hp0)).2
    cases e : dget ls p0.1 with
    | none => rw [e] at h3; cases h3
    | some w =>
      unfold dget at e
      cases e2 : ls.find? (fun kv => decide (kv.1 = p0.1)) with
      | none => rw [e2] at e; cases e
      | some q =>
        have e3 : q.1 = p0.1 := of_decide_eq_true (List.find?_some (p := fun kv : PV × PV => decide (kv.1 = p0.1)) e2)
        exact ⟨q, List.mem_of_find?_eq_some e2, by rw [e3]; exact k0⟩
  obtain ⟨l2, b1, b2⟩ := r.dicK ej hq0 kq
  refine .inr ⟨_, _, l, l2, rfl, rfl, a1, b1, by rw [a2.len, b2.len]; exact d2', fun p hp => ?_⟩
  obtain ⟨q, hq, e1, e2⟩ := a2.mem hp
  have h3 := (Bool.and_eq_true_iff.mp (d3 q hq)).2
  cases e : dget ls q.1 with
  | none => rw [e] at h3; cases h3
  | some w =>
    rw [e] at h3
    obtain ⟨z, hz, rz⟩ := (b2.get e1).1 w e
    exact ⟨z, hz, deep_ok r n _ _ _ _ h3 e2 rz⟩
end
def eqW2 (g : Bool → Bool) : F2 := fun x y S => match x, y with
  | .obj i, .obj j => match S[i]?, S[j]? with
    | some (.lst xs), some (.lst ys) => if all2 (deepB S 4) xs ys = true then .ok (.bl (g true)) S else .stuck
    | some (.dic false ks), some (.dic false ls) => if dicB (deepB S 4) ks ls = true then .ok (.bl (g true)) S else .stuck
    | _, _ => .stuck
  | _, _ => .stuck
abbrev eqV2 : F2 := eqW2 fun b => b
abbrev neV2 : F2 := eqW2 fun b => !b
theorem op2_eqW2 {K : PySem.W.Frag} {mg : Str → Option Value} (g : Bool → Bool) : Op2 K mg (eqW2 g) (fun x y H Q => EqR K H (EqW K H 4) x y ∧ Q (.bl (g true)) H) := by
  intro W σ m S H x y v u Q rel rx ry f
  unfold eqW2 at f
  split at f
  · rename_i i j
    have ev : v = .ref (m i) := rx.2
    have eu : u = .ref (m j) := ry.2
    subst ev eu
    split at f
    · rename_i xs ys ei ej
      split at f
      · rename_i h
        obtain ⟨_, vs, a1, a2⟩ := rel.lst ei
        obtain ⟨_, us, b1, b2⟩ := rel.lst ej
        exact ⟨.inl ⟨_, _, vs, us, rfl, rfl, SqL.of a1, SqL.of b1, all2_pair (fun x y v u h1 h2 h3 => deep_ok rel 4 x y v u h1 h2 h3) h a2 b2⟩, f.here rel ⟨rfl, rfl⟩⟩
      · exact f.elim
    · rename_i ks ls ei ej
      split at f
      · rename_i h
        exact ⟨deep_dic rel 4 ei ej h, f.here rel ⟨rfl, rfl⟩⟩
      · exact f.elim
    · exact f.elim
  · exact f.elim
theorem eqW2_dic {S : Store} {i j : Nat} {ks ls : List (PV × PV)} (g : Bool → Bool) (ei : S[i]? = some (.dic false ks)) (ej : S[j]? = some (.dic false ls)) (h : dicB (deepB S 4) ks ls = true) : eqW2 g (.obj i) (.obj j) S = .ok (.bl (g true)) S := by
  unfold eqW2
  simp only [ei, ej, h, if_true]
end TL

set_option Elab.async false
set_option linter.all false
set_option maxRecDepth 100000
set_option maxHeartbeats 1000000
/-! TN12: a list unpacked into names. -/
namespace PyProof.Rows
open PySem PySem.Spec
section
variable {prog : Program} {w : World} {A : Around} {E : Value → Shared → Prop} {s : Shared}
theorem tn_draw_list {it t : Addr} {items : Array Value} (hne : t ≠ it) : ∀ (n i : Nat) (s : Shared) (Q : List Value → Shared → Prop), s.heap.IsListIter it t i → s.heap.IsList t items → i + n ≤ items.size →
    (∀ h', Heap.IsListIter h' it t (i + n) → Heap.SameBut it s.heap h' → Q ((items.toList.drop i).take n) { s with heap := h' }) → wpAny (model prog w) A (draw (.ref it) n) Q E s
  | 0, i, s, Q, hit, _, _, hQ => by
    show wpAny _ _ (pure []) Q E s
    exact wpAny_pure (by simpa using hQ s.heap hit (Heap.SameBut.refl ..))
  | n + 1, i, s, Q, hit, ht, hle, hQ => by
    have hlt : i < items.size := by omega
    show wpAny _ _ (pyNext (.ref it) >>= _) Q E s
    refine wpAny_bind (wpAny_pyNext_list_item hit ht (x := items[i]) (by simp [hlt]) fun h₁ hit₁ hs₁ => ?_)
    refine wpAny_bind (wpAny_holding (tn_draw_list hne n (i + 1) _ _ hit₁ (ht.extBut hs₁.extBut hne) (by omega) fun h₂ hit₂ hs₂ => wpAny_pure ?_))
    have hd : items.toList.drop i = items[i] :: items.toList.drop (i + 1) := by simp [List.drop_eq_getElem_cons, hlt]
    have := hQ h₂ (by rw [show i + (n + 1) = i + 1 + n by omega]; exact hit₂) (hs₁.trans hs₂)
    rw [hd, List.take_succ_cons] at this
    exact this
theorem tn_unpackItems_list {t : Addr} {items : Array Value} {Q : List Value → Shared → Prop} (hh : A.handled = none) (ht : s.heap.IsList t items)
    (hQ : ∀ h', Heap.ExtBut s.heap.objs.size s.heap h' → Q items.toList { s with heap := h' }) : wpAny (model prog w) A (unpackItems (.ref t) items.size none) Q E s := by
  have hlt : t ≠ s.heap.objs.size := by obtain ⟨o, ho, _⟩ := ht; exact Nat.ne_of_lt (Heap.lt_size ho)
  unfold unpackItems
  refine wpAny_bind ?_
  · unfold notIterableAtAll
    refine wpAny_bind (wpAny_specialOf ht.typeIs PySem.F.slot_list_iter.lookup ?_)
    refine wpAny_pure ?_
    simp only [Bool.false_eq_true, if_false]
    refine wpAny_bind (wpAny_holding (wpAny_pyIter_list ht ?_))
    refine wpAny_bind (wpAny_holding (tn_draw_list hlt items.size 0 _ _ ⟨_, Heap.get?_push_size _ rfl, rfl, rfl⟩ (ht.push _) (by omega) fun h₁ hit₁ hs₁ => ?_))
    have hall : List.take items.size (List.drop 0 items.toList) = items.toList := by
      rw [List.drop_zero]; exact List.take_of_length_le (by simp)
    rw [hall]
    rw [if_neg (by simp)]
    have ht₁ : Heap.IsList h₁ t items := (ht.push _).extBut hs₁.extBut hlt
    refine wpAny_bind (wpAny_holding (wpAny_pyNext_list_end hh hit₁ ht₁ (by simp) fun h₂ he₂ => ?_))
    simp only [Option.isSome_none, Bool.false_eq_true, if_false]
    refine wpAny_pure (hQ h₂ fun b o hb e => he₂ b o hb (hs₁.extBut b o hb (Heap.get?_push_of_some _ e)))
theorem tn_assign_Tuple_list {env : Env} {elts : List Expr} {x1} {pos : Pos} {t : Addr} {items : Array Value} {Q : Unit → Shared → Prop} (hh : A.handled = none) (ht : s.heap.IsList t items)
    (hn : (assignEach elts env).length = items.size) (hstar : (assignEach elts env).findIdx? (·.1) = none)
    (h : ∀ h', Heap.ExtBut s.heap.objs.size s.heap h' → wpAny (model prog w) A (assignInOrder ((assignEach elts env).map (·.2)) items.toList) Q E { s with heap := h' }) :
    wpAny (model prog w) A (assign (.Tuple elts x1 pos) env (.ref t)) Q E s := by
  rw [assign_Tuple]
  refine wpAny_bind (wpAny_standAt ?_)
  unfold unpack
  rw [hn, hstar]
  exact wpAny_bind (wpAny_holding (tn_unpackItems_list hh ht h))
end
end PyProof.Rows
namespace TL
open PySem PySem.Spec PyProof.Rows L2
/-- (a, b, ..) = a list of that length -/
def gTupL (K : PySem.W.Frag) (n : Nat) (t : TGs) : TG := fun v σ H Q => ∃ a xs, v = .ref a ∧ SqL K H a xs ∧ xs.length = n ∧ t xs σ H Q
theorem pg_tupL {X : Cx} {pos : Pos} {es : List Expr} {k : Nat} {t : TGs} {n : Nat} (hc : X.calm = true) (h : PGs X es t)
    (hn : (assignEach es X.env).length = n := by rfl) (hst : (assignEach es X.env).findIdx? (·.1) = none := by rfl) : PG X (.Tuple es k pos) (gTupL X.K n t) := by
  refine ⟨fun pins s σ H v u Q I r hw => ?_⟩
  obtain ⟨a, xs, e1, hq, hl, hw⟩ := hw
  subst e1
  cases r
  obtain ⟨its, rv, ht, hz⟩ := I.list hq
  refine tn_assign_Tuple_list (I.ok.hd hc) ht.isList (by simp [hn, ← hl, rv.length]) hst fun h' hx => ?_
  have I1 : Inv X pins σ H { s with heap := h' } := I.kept (t' := s.toks) fun b o e => hx b o (Nat.ne_of_lt (Heap.lt_size e)) e
  exact h.run pins _ σ H xs _ Q I1 (by simpa using rv) hw
/-- a, b, .. = a list -/
def sSetL (is : List Nat) (c : CE PV) : CS := fun ρ S => sb (c ρ S) ρ fun x S1 => match lstOf x S1 with
  | some xs => if xs.length = is.length then .next (setAll ρ is xs) S1 else .stuck
  | none => .stuck
@[simp] theorem sSetL_ap (is : List Nat) (c : CE PV) (ρ : Sl) (S : Store) : sSetL is c ρ S = sb (c ρ S) ρ fun x S1 => match lstOf x S1 with
  | some xs => if xs.length = is.length then .next (setAll ρ is xs) S1 else .stuck
  | none => .stuck := rfl
theorem ds_asgL {X : Cx} {W : WX} {pos p2 : Pos} {e : Expr} {es : List Expr} {k : Nat} {c : CE PV} {is : List Nat} (hc : X.calm = true) (he : DE X W e c) (hg : DGs X es is) (hn : (assignEach es X.env).length = is.length := by rfl) (hst : (assignEach es X.env).findIdx? (·.1) = none := by rfl)
    (hs : swapsWithSole [.Tuple es k p2] e pos.line X.env = pure false := by rfl) (hw : swappedStores [.Tuple es k p2] e X.env = pure none := by rfl)
    (h1 : (assignEach [.Tuple es k p2] X.env).map (·.2) = [assign (.Tuple es k p2) X.env] := by rfl) : DS X W (.Assign [.Tuple es k p2] e pos) (sSetL is c) := ps_imp (ps_asg he (pg_tupL hc hg hn hst) hs hw h1) fun D σ H h => by
  obtain ⟨m, S, ρ, at_, fin⟩ := h
  refine ⟨m, S, ρ, at_, (FinS.bind at_ fin).mono fun v H1 h1 => ?_⟩
  obtain ⟨m1, S1, y, at1, r1, e1, l1, f1⟩ := h1
  dsimp only at f1
  cases q : lstOf y S1 with
  | none => rw [q] at f1; exact f1.elim
  | some xs =>
    rw [q] at f1
    simp only at f1
    by_cases hl : xs.length = is.length
    · rw [if_pos hl] at f1
      obtain ⟨b, p, us, rfl, h1, h3⟩ := lst_ok at1.rel r1 q
      have hv : us.length = is.length := h3.length.trans hl
      exact ⟨p, us, rfl, h1, hv, gNames_ok hv (f1.nx_here ⟨at1.rel, EnvR.all at1.env b h3⟩)⟩
    · rw [if_neg hl] at f1
      exact f1.elim
end TL

set_option Elab.async false
set_option linter.all false
set_option maxRecDepth 100000
set_option maxHeartbeats 1000000
/-! TN13: tuple(xs) kept strong (known to have no dict of its own); dict(pairs) of a strong tuple. -/
namespace TL
open PySem PySem.Spec PyProof.Rows L2
section
variable {X : Cx}
theorem call_tupleS : CallR X (.type "tuple") (fun xs H Q => ∃ p ys, xs = [.ref p] ∧ SqL X.K H p ys ∧ ∀ (l : Addr) (o : Obj), H l = none → o.dict = none → Q (.ref l) (upd H l (.frz o (.tup ys)))) := by
  intro pins s σ H xs us Q I r h
  obtain ⟨p, ys, rfl, hq, q⟩ := h
  obtain ⟨u, rfl, rx⟩ := vals1 r
  cases rx
  obtain ⟨its, r', pl, hz⟩ := I.list hq
  have hlen := r'.length
  refine call_tuple_list pl.isList (fun h' kp => ?_) (by simp only [List.size_toArray] <;> omega)
  have I1 : Inv X pins σ H { s with heap := h' } := I.kept (t' := s.toks) kp
  have I2 : Inv X pins σ (upd H h'.objs.size (.frz { cls := .type "tuple", data := .seq its.toArray } (.tup ys))) { s with heap := h'.push { cls := .type "tuple", data := .seq its.toArray } } :=
    I1.laid (t' := s.toks) (fun b o e => Heap.get?_push_of_some _ e) (Nat.le_refl _) (show ObjOk X.prog X.w _ _ _ (.frz _ (.tup ys)) from ⟨Heap.get?_push_size _ rfl, hz, its, r', IsTup.new _ _⟩)
  exact ⟨.ref h'.objs.size, _, I2, rfl, q _ _ (I1.hok.fresh (Nat.le_refl _)) rfl⟩
theorem Inv.strong {pins : List (Addr × Obj)} {σ : L2.St} {H : Hp} {s : Shared} {a : Addr} {xs : List V} (I : Inv X pins σ H s) (h : SqK X.K H a xs) : ∃ its : List Value, Vals xs its ∧ PlainSeq "tuple" s.heap a its.toArray ∧ xs.length ≤ sizeLine := by
  rcases h with ⟨o, h, hd⟩ | ⟨o, its, n, hk, hc, hd, hs, hz, r⟩
  · obtain ⟨ho, z, its, r, o', ho', hc, n, hs⟩ := I.hok a _ h
    rw [ho] at ho'
    cases ho'
    exact ⟨its, r, ⟨o, n, ho, hc, hd, hs⟩, z⟩
  · refine ⟨its.toList, r, ⟨o, n, I.kIn a o hk, hc, hd, by simpa using hs⟩, ?_⟩
    have e := r.length
    simp only [Array.length_toList] at e
    omega
theorem pairs_of' {pins : List (Addr × Obj)} {σ : L2.St} {H : Hp} {s : Shared} (I : Inv X pins σ H s) : ∀ {ps : List Addr} {kvs : List (Key × V)}, Paired (fun p kv => SqT X.K H p [kV kv.1, kv.2]) ps kvs →
    ∃ (prs : List (Key × Value)) (qs : List (Value × Value)), KV kvs prs ∧ prs.length = ps.length ∧ qs.length = ps.length ∧
      ∀ (j : Nat) (k v : Value), qs[j]? = some (k, v) → ∃ (b : Addr) (c : Key), ps[j]? = some b ∧ prs[j]? = some (c, v) ∧ IsTup s.heap b #[k, v] ∧ keyIs c k = true
  | _, _, .nil => ⟨[], [], .nil, rfl, rfl, fun j k v e => by simp at e⟩
  | _, _, .cons (a := p) (b := kv) h t => by
    obtain ⟨prs, qs, r, hl, hl2, hp⟩ := pairs_of' I t
    obtain ⟨its, rv, ht, _⟩ := I.tuple h
    obtain ⟨u, y, ei, ru, ry⟩ := vals2 rv
    subst ei
    refine ⟨(kv.1, y) :: prs, (u, y) :: qs, .cons ⟨rfl, ry⟩ r, by rw [List.length_cons, List.length_cons, hl], by rw [List.length_cons, List.length_cons, hl2], fun j k v e => ?_⟩
    cases j with
    | zero =>
      have e' : (u, y) = (k, v) := Option.some.inj e
      cases e'
      exact ⟨p, kv.1, rfl, rfl, ht, kV_is (P := X.prog) (w := X.w) ru⟩
    | succ j =>
      obtain ⟨b, c, e1, e2, e3⟩ := hp j k v (by simpa using e)
      exact ⟨b, c, by simpa using e1, by simpa using e2, e3⟩
theorem call_dictS (hcalm : X.calm = true) : CallR X (.type "dict") (fun xs H Q => ∃ (a : Addr) (ps : List Addr) (kvs : List (Key × V)), xs = [.ref a] ∧ SqK X.K H a (ps.map V.ref) ∧ Paired (fun p kv => SqT X.K H p [kV kv.1, kv.2]) ps kvs ∧
    ∀ p, H p = none → Q (.ref p) (upd H p (.dK (mergeK [] kvs)))) := by
  intro pins s σ H xs us Q I r q
  obtain ⟨a, ps, kvs, ex, hq, hp, q⟩ := q
  subst ex
  obtain ⟨u, eu, rx⟩ := vals1 r
  subst eu
  cases rx
  obtain ⟨its, rv, pl, hz⟩ := Inv.strong I hq
  have ei := refs_at rv
  subst ei
  rw [List.length_map] at hz
  obtain ⟨prs, qs, rel, hl, hl2, hpr⟩ := pairs_of' I hp
  have at_ : ∀ j, (ps.map Value.ref)[j]? = (ps[j]?).map Value.ref := fun j => List.getElem?_map ..
  refine PySem.call_dict_pairs (knd := mixKind X.prog X.w) (kvs := prs) (PairArg.tuple a (ps.map Value.ref).toArray (fun j => ps.getD j 0) qs) (I.ok.hd hcalm) ⟨pl, ?_, fun j k v e => ?_⟩ ⟨hl.trans hl2.symm, fun j k v e => ?_⟩ (by rw [hl2]; exact hz) fun h' tk hd' hk => ?_
  · simp [hl2]
  · obtain ⟨b, c, e1, e2, e3, e4⟩ := hpr j k v e
    have eb : ps.getD j 0 = b := by rw [List.getD_eq_getElem?_getD, e1]; rfl
    show _ ∧ PairAt s.heap (ps.getD j 0) k v
    refine ⟨?_, by rw [eb]; exact .inl e3⟩
    show (List.map Value.ref ps).toArray[j]? = some (Value.ref (ps.getD j 0))
    rw [eb]
    simp [e1]
  · obtain ⟨b, c, e1, e2, e3, e4⟩ := hpr j k v e
    exact ⟨c, e2, e4⟩
  · have hm : (s.heap.objs.size == sysModules) = false := beq_eq_false_iff_ne.mpr (Nat.ne_of_gt I.big)
    have hlen : (mergeK [] kvs).length ≤ sizeLine := by
      refine Nat.le_trans (length_mergeK kvs []) ?_
      rw [List.length_nil, Nat.zero_add, rel.length, hl]
      exact hz
    exact ⟨.ref s.heap.objs.size, upd H s.heap.objs.size (.dK (mergeK [] kvs)), I.laid (t' := tk) (fun b o e => hk b o (fun z => nomatch z) e) (Nat.le_refl _) (show ObjOk X.prog X.w _ _ _ (.dK (mergeK [] kvs)) from ⟨hlen, hm, merged [] prs, KV.merge rel .nil, hd'⟩), rfl, q _ (I.hok.fresh (Nat.le_refl _))⟩
end
section
variable {K : PySem.W.Frag} {mg : Str → Option Value} {W : WX} {σ : L2.St} {m : Mp} {S : Store} {H : Hp} {Q : VK}
/-- a new strong tuple -/
theorem Fin.kup {zs : List PV} {vs : List V} (f : Fin K mg W σ m S H (RV K) Q (.ok (.kup zs) S)) (r : Rel K mg m S H) (b : bnds S.length zs = true) (h : Rps K m H zs vs) {p : Addr} {o : Obj} (hp : H p = none) (ho : o.dict = none) : Q (.ref p) (upd H p (.frz o (.tup vs))) := by
  have e : Ext K S.length m H m (upd H p (.frz o (.tup vs))) := ext_new hp fun _ _ => rfl
  exact f m _ _ e (Nat.le_refl _) (r.newT hp) ⟨b, p, vs, rfl, .inl ⟨o, upd_same, ho⟩, h.ext e zs vs b⟩
end
section
variable {K : PySem.W.Frag} {mg : Str → Option Value}
/-- tuple(xs) of a list, kept strong -/
def tupleVS : FB := fun xs S => match xs with
  | [x] => match lstOf x S with
    | some ys => .ok (.kup ys) S
    | none => .stuck
  | _ => .stuck
theorem opC_tupleS : OpC K mg tupleVS (fun xs H Q => ∃ p ys, xs = [.ref p] ∧ SqL K H p ys ∧ ∀ (l : Addr) (o : Obj), H l = none → o.dict = none → Q (.ref l) (upd H l (.frz o (.tup ys)))) := by
  intro W σ m S H xs vs Q rel ra f
  unfold tupleVS at f
  split at f
  · rename_i x
    obtain ⟨v, rfl, rv⟩ := one_of ra
    cases e : lstOf x S with
    | none => rw [e] at f; exact f.elim
    | some ys =>
      rw [e] at f
      obtain ⟨b, p, us, rfl, h1, h2⟩ := lst_ok rel rv e
      exact ⟨p, us, rfl, h1, fun l o hl ho => f.kup rel b h2 hl ho⟩
  · exact f.elim
/-! ### dict(pairs) -/
def pairsK : List PV → Option (List (PV × PV))
  | [] => some []
  | .tup [a, b] :: xs => if (keyOf a).isSome = true then (pairsK xs).map ((a, b) :: ·) else none
  | _ => none
def dictVS : FB := fun xs S => match xs with
  | [.kup ys] => match pairsK ys with
    | some kvs => if (kvs.map fun p => keyOf p.1).Nodup then .ok (.obj S.length) (S ++ [.dic false kvs]) else .stuck
    | none => .stuck
  | xs => dictV' xs S
def rDictS (K : PySem.W.Frag) : List V → Hp → VK → Prop := fun xs H Q => (∃ (a : Addr) (kvs : List (Key × V)), xs = [.ref a] ∧ Rd H a (.dK kvs) ∧ ∀ p, H p = none → Q (.ref p) (upd H p (.dK kvs))) ∨
  (∃ (a : Addr) (ps : List Addr) (kvs : List (Key × V)), xs = [.ref a] ∧ SqK K H a (ps.map V.ref) ∧ Paired (fun p kv => SqT K H p [kV kv.1, kv.2]) ps kvs ∧
    ∀ p, H p = none → Q (.ref p) (upd H p (.dK (mergeK [] kvs))))
theorem call_dictDS {X : Cx} (hc : X.calm = true) : CallR X (.type "dict") (rDictS X.K) := call_dictD.or (call_dictS hc)
theorem mergeK_new : ∀ (more kvs : List (Key × V)), ((kvs ++ more).map (·.1)).Nodup → mergeK kvs more = kvs ++ more
  | [], kvs, _ => by rw [List.append_nil]; rfl
  | p :: more, kvs, h => by
    have e : putK kvs p.1 p.2 = kvs ++ [p] := by
      unfold putK
      rw [if_neg]
      intro z
      obtain ⟨q, hq, e⟩ := List.any_eq_true.mp z
      have e' : q.1 = p.1 := of_decide_eq_true e
      rw [List.map_append, List.nodup_append] at h
      exact h.2.2 _ (List.mem_map_of_mem hq) _ (by rw [List.map_cons]; exact List.mem_cons_self ..) e'
    show mergeK (putK kvs p.1 p.2) more = _
    rw [e, mergeK_new more (kvs ++ [p]) (by rw [List.append_assoc]; exact h), List.append_assoc]
    rfl
theorem pairsK_ok {m : Mp} {H : Hp} : ∀ {ys : List PV} {us : List V} {kvs : List (PV × PV)} {n : Nat}, Rps K m H ys us → pairsK ys = some kvs → bnds n ys = true →
    ∃ (ps : List Addr) (l : List (Key × V)), us = ps.map V.ref ∧ Paired (fun p kv => SqT K H p [kV kv.1, kv.2]) ps l ∧ KvK K m H kvs l ∧ bnds n (kvs.map (·.2)) = true ∧ l.map (fun q => some q.1) = kvs.map fun p => keyOf p.1
  | [], us, kvs, n, h, e, _ => by
    have eu : us = [] := h
    subst eu
    cases e
    exact ⟨[], [], rfl, .nil, rfl, rfl, rfl⟩
  | y :: ys, us, kvs, n, h, e, b => by
    unfold pairsK at e
    split at e
    · rename_i e0; cases e0
    · rename_i a c xs e0
      cases e0
      obtain ⟨v, r, rfl, ⟨p, vs, rfl, hp, w1, r1, rfl, ha, w2, r2, rfl, hb, rfl⟩, h2⟩ := h
      split at e
      · rename_i hk
        cases q : pairsK ys with
        | none => rw [q] at e; cases e
        | some kvs' =>
          rw [q] at e
          cases e
          obtain ⟨b1, b2⟩ := Bool.and_eq_true_iff.mp b
          obtain ⟨ps, l, rfl, i1, i2, i3, i4⟩ := pairsK_ok h2 q b2
          obtain ⟨k, ek⟩ := Option.isSome_iff_exists.mp hk
          have ew : w1 = kV k := by
            cases a with
            | int i => cases ek; exact ha
            | str x => cases ek; exact ha
            | _ => cases ek
          subst ew
          have b1' : bnds n [a, c] = true := b1
          refine ⟨p :: ps, (k, w2) :: l, rfl, .cons (SqT.of hp) i1, ⟨_, _, rfl, ek, hb, i2⟩, ?_, ?_⟩
          · show bnds n (c :: kvs'.map (·.2)) = true
            exact Bool.and_eq_true_iff.mpr ⟨bnds_get b1' (i := 1) rfl, i3⟩
          · show some k :: _ = keyOf a :: _
            rw [ek, i4]
      · cases e
    · cases e
theorem opC_dictS : OpC K mg dictVS (rDictS K) := by
  intro W σ m S H xs vs Q rel ra f
  unfold dictVS at f
  split at f
  · rename_i ys
    obtain ⟨v, rfl, b, a, us, rfl, hk, hv⟩ := one_of ra
    cases e : pairsK ys with
    | none => rw [e] at f; exact f.elim
    | some kvs =>
      rw [e] at f
      simp only at f
      split at f
      · rename_i hn
        obtain ⟨ps, l, rfl, i1, i2, i3, i4⟩ := pairsK_ok hv e b
        refine .inr ⟨a, ps, l, rfl, hk, i1, fun p hp => ?_⟩
        have en : ((([] : List (Key × V)) ++ l).map (·.1)).Nodup := by
          rw [List.nil_append]
          rw [← i4] at hn
          have : (l.map (fun q => some q.1)) = (l.map (·.1)).map some := by rw [List.map_map]; rfl
          rw [this] at hn
          unfold List.Nodup at hn ⊢
          rw [List.pairwise_map] at hn
          exact hn.imp fun a e => a (by rw [e])
        rw [mergeK_new l [] en]
        exact f.dicK rel i3 i2 hp
      · exact f.elim
  · exact .inl (opC_dict W σ m S H xs vs Q rel ra f)
end
end TL

set_option Elab.async false
set_option linter.all false
set_option maxRecDepth 100000
set_option maxHeartbeats 1000000
/-! TN14: for a, b, .. in xs: where each item is a list. -/
namespace TL
open PySem PySem.Spec PyProof.Rows L2
open Classical in
noncomputable def forL (is : List Nat) (b : CS) (ck : Chk) : List PV → CS
  | [] => fun ρ S => if chk ck S then .next ρ S else .stuck
  | x :: xs => fun ρ S => if chk ck S then match lstOf x S with
    | none => .stuck
    | some ys => if ys.length = is.length then match b (setAll ρ is ys) S with
      | .next ρ' S' => forL is b ck xs ρ' S'
      | .cont ρ' S' => forL is b ck xs ρ' S'
      | .brk ρ' S' => .next ρ' S'
      | r => r
      else .stuck
    else .stuck
noncomputable def sForL (is : List Nat) (i : CE (List PV × Chk)) (b : CS) : CS := fun ρ S => sb (i ρ S) ρ fun p S1 => forL is b p.2 p.1 ρ S1
@[simp] theorem sForL_ap (is : List Nat) (i : CE (List PV × Chk)) (b : CS) (ρ : Sl) (S : Store) : sForL is i b ρ S = sb (i ρ S) ρ fun p S1 => forL is b p.2 p.1 ρ S1 := rfl
section
variable {X : Cx} {W : WX} {pos p2 : Pos} {es : List Expr} {k0 : Nat} {iter : Expr} {body : List Stmt} {is : List Nat} {i : CE (List PV × Chk)} {b : CS}
theorem ds_forL (hp : PassesOwn (model X.prog X.w) X.A X.env X.xe) (hc : X.calm = true) (hi : DI X W (.Tuple es k0 p2) iter i) (hg : DGs X es is) (hb : DSs X W body b) (hn : (assignEach es X.env).length = is.length := by rfl) (hst : (assignEach es X.env).findIdx? (·.1) = none := by rfl)
    (hs : ∀ x, foldedSetIterable iter X.env x = pure x := by intro _; rfl) : DS X W (.For (.Tuple es k0 p2) iter body [] pos) (sForL is i b) :=
  ps_imp (ps_for hp hc hi (pg_tupL hc hg hn hst) hb hs) fun D σ H h => by
  obtain ⟨m, S, ρ, at_, fin⟩ := h
  refine ⟨m, S, ρ, at_, (FinS.bind at_ fin).mono fun J H1 h1 => ?_⟩
  obtain ⟨m1, S1, ⟨all, ck⟩, at1, r1, e1, l1, f1⟩ := h1
  have r1' : ItR X.K X.mg J all ck S1.length m1 H1 := r1
  refine ⟨fun j k σ H => ∃ m S ρ, At X.K X.mg m S H ρ σ ∧ Ext X.K S1.length m1 H1 m H ∧ S1.length ≤ S.length ∧ j + k = all.length ∧ FinS X.K X.mg W m S H D (forL is b ck (all.drop j) ρ S), ⟨all.length, m1, S1, ρ, at1, Ext.refl, Nat.le_refl _, by omega, f1⟩, ?_⟩
  rintro j k σ H ⟨m, S, ρ, at_, ex, le, hk, fin⟩
  by_cases hj : j < all.length
  · have ed : all.drop j = all[j] :: all.drop (j + 1) := List.drop_eq_getElem_cons hj
    rw [ed] at fin
    unfold forL at fin
    by_cases hck : chk ck S
    · rw [if_pos hck] at fin
      refine .inr ⟨r1'.go j m S H ex le at_.rel hck hj, fun σ' H' => ∃ m S ρ, At X.K X.mg m S H' ρ σ' ∧ Ext X.K S1.length m1 H1 m H' ∧ S1.length ≤ S.length ∧ FinS X.K X.mg W m S H' D (forL is b ck (all.drop (j + 1)) ρ S), fun σ' H' n => ?_, fun v H' y => ?_⟩
      · obtain ⟨m', S', ρ', a', ex', le', f'⟩ := n
        exact ⟨k - 1, by omega, m', S', ρ', a', ex', le', by omega, f'⟩
      · obtain ⟨x, ex1, e2, r2, rx, _⟩ := r1'.yld j m S H v H' ex le at_.rel hck hj y
        have exj : all[j] = x := by
          rw [List.getElem?_eq_getElem hj] at ex1
          exact Option.some.inj ex1
        rw [exj] at fin
        cases q : lstOf x S with
        | none => rw [q] at fin; exact fin.elim
        | some ys =>
          rw [q] at fin
          simp only at fin
          by_cases hl : ys.length = is.length
          · rw [if_pos hl] at fin
            have envH : EnvR X.K S.length m H' ρ σ := at_.env.ext e2 (Nat.le_refl _)
            obtain ⟨bd, p, us, rfl, h1, h3⟩ := lst_ok r2 rx q
            have hv : us.length = is.length := h3.length.trans hl
            refine ⟨p, us, rfl, h1, hv, gNames_ok hv ⟨m, S, setAll ρ is ys, ⟨r2, EnvR.all envH bd h3⟩, ?_⟩⟩
            have base : ∀ {m' H''}, Ext X.K S.length m H' m' H'' → Ext X.K S1.length m1 H1 m' H'' := fun e3 => (ex.trans e2 le).trans e3 le
            cases eb : b (setAll ρ is ys) S with
            | next ρ' S' =>
              rw [eb] at fin
              exact fun m' H'' σ' e3 l3 a3 => ⟨m', S', ρ', a3, base e3, Nat.le_trans le l3, FinS.from fin (e2.trans e3 (Nat.le_refl _)) l3⟩
            | cont ρ' S' =>
              rw [eb] at fin
              exact fun m' H'' σ' e3 l3 a3 => ⟨m', S', ρ', a3, base e3, Nat.le_trans le l3, FinS.from fin (e2.trans e3 (Nat.le_refl _)) l3⟩
            | brk ρ' S' =>
              rw [eb] at fin
              exact FinS.from (S1 := S) (r := .next ρ' S') fin e2 (Nat.le_refl _)
            | ret x S' =>
              rw [eb] at fin
              exact FinS.from (S1 := S) (r := .ret x S') fin e2 (Nat.le_refl _)
            | exc c p ρ' S' =>
              rw [eb] at fin
              exact FinS.from (S1 := S) (r := .exc c p ρ' S') fin e2 (Nat.le_refl _)
            | stuck =>
              rw [eb] at fin
              exact fin
          · rw [if_neg hl] at fin
            exact fin.elim
    · rw [if_neg hck] at fin
      exact fin.elim
  · have ej : j = all.length := by omega
    subst ej
    rw [List.drop_length] at fin
    unfold forL at fin
    by_cases hck : chk ck S
    · rw [if_pos hck] at fin
      exact .inl ⟨r1'.stop m S H ex le at_.rel hck, fin.nx_here at_⟩
    · rw [if_neg hck] at fin
      exact fin.elim
end
end TL

set_option Elab.async false
set_option linter.all false
set_option maxRecDepth 100000
set_option maxHeartbeats 1000000
/-! TN15: sum of a tuple of ints. -/
namespace TL
open PySem PySem.Spec PyProof.Rows L2
def rSumT (K : PySem.W.Frag) : List V → Hp → VK → Prop := fun vs H Q => ∃ (a : Addr) (ns : List Int), vs = [V.ref a] ∧ SqT K H a (ns.map V.int) ∧ Q (.int ns.sum) H
theorem cr_sumT {X : Cx} (hc : X.calm = true) : CallR X (.builtin "sum") (rSumT X.K) := by
  intro pins s σ H vs us Q I r h
  obtain ⟨a, ns, rfl, hs, q⟩ := h
  obtain ⟨its, rv, hl, _⟩ := I.tuple hs
  rw [Vals.ref1 r]
  obtain ⟨xs, e⟩ := rv.ints.allInts.items
  have hn : numsOf (intItems xs).toList = ns := by rw [← e]; exact rv.ints.numsOf
  rw [nums_intItems] at hn
  have hl' : s.heap.IsTuple a its.toArray := hl
  rw [e] at hl'
  refine PySem.W.ktm_sumG (I.ok.hd hc) hl' fun h' tk t' hk => ?_
  rw [preSum_eq, List.take_of_length_le (by simp), hn]
  exact ⟨.int _, H, I.kept hk, ⟨_, rfl⟩, q⟩
def rSumA (K : PySem.W.Frag) : List V → Hp → VK → Prop := fun vs H Q => rSum K vs H Q ∨ rSumT K vs H Q
theorem call_sumA {X : Cx} (hc : X.calm = true) : CallR X (.builtin "sum") (rSumA X.K) := (cr_sum hc).or (cr_sumT hc)
def sumA : FB := fun xs S => match xs with
  | [.tup ys] => match intsOf ys with
    | some ns => .ok (.int ns.sum) S
    | none => .stuck
  | [.kup ys] => match intsOf ys with
    | some ns => .ok (.int ns.sum) S
    | none => .stuck
  | xs => sumV xs S
theorem opC_sumA {K : PySem.W.Frag} {mg : Str → Option Value} : OpC K mg sumA (rSumA K) := by
  intro W σ m S H xs vs Q rel ra f
  unfold sumA at f
  split at f
  · rename_i ys
    obtain ⟨v, rfl, b, a, us, rfl, h1, h2⟩ := one_of ra
    cases e2 : intsOf ys with
    | none => rw [e2] at f; exact f.elim
    | some ns =>
      rw [e2] at f
      have e3 := intsOf_eq e2
      subst e3
      have e4 := ints_rps h2
      subst e4
      exact .inr ⟨a, ns, rfl, SqT.of h1, f.here rel ⟨rfl, rfl⟩⟩
  · rename_i ys
    obtain ⟨v, rfl, b, a, us, rfl, h1, h2⟩ := one_of ra
    cases e2 : intsOf ys with
    | none => rw [e2] at f; exact f.elim
    | some ns =>
      rw [e2] at f
      have e3 := intsOf_eq e2
      subst e3
      have e4 := ints_rps h2
      subst e4
      exact .inr ⟨a, ns, rfl, h1.t, f.here rel ⟨rfl, rfl⟩⟩
  · exact .inl (opC_sum W σ m S H _ vs Q rel ra f)
theorem sumA_tup (L : List Int) (S : Store) : sumA [.tup (L.map .int)] S = .ok (.int L.sum) S := by
  show (match intsOf (L.map .int) with | some ns => Res.ok (PV.int ns.sum) S | none => .stuck) = _
  rw [intsOf_map]
theorem sumA_obj {i : Nat} {xs : List Int} {S : Store} (h : S[i]? = some (.lst (xs.map .int))) : sumA [.obj i] S = .ok (.int xs.sum) S := by
  show sumV [.obj i] S = _
  unfold sumV lstOf
  simp only [h, Option.bind_some, intsOf_map]
end TL

set_option Elab.async false
set_option linter.all false
set_option maxRecDepth 100000
set_option maxHeartbeats 1000000
/-! TN16: a tuple of ints below another. -/
namespace TL
open PySem PySem.Spec PyProof.Rows L2
def ltA : F2 := fun x y S => match x, y with
  | .tup xs, .tup ys => match intsOf xs, intsOf ys with
    | some a, some b => .ok (.bl (HT.lexLt a b)) S
    | _, _ => .stuck
  | x, y => ltV x y S
def rLtA (K : PySem.W.Frag) : R2 := fun x y H Q => rI0 (fun i j => .bl (decide (i < j))) x y H Q ∨ rLtT K x y H Q
theorem op_ltA {X : Cx} (hu : X.A.units + 1 < cLine) : OpR X (compareOp .Lt) (rLtA X.K) := op_lt.or (op_ltT (by omega))
theorem op2_ltA {K : PySem.W.Frag} {mg : Str → Option Value} : Op2 K mg ltA (rLtA K) := by
  intro W σ m S H x y v u Q rel rx ry f
  unfold ltA at f
  split at f
  · rename_i xs ys
    obtain ⟨b1, a, us, rfl, h1, h2⟩ := rx
    obtain ⟨b2, b, ws, rfl, h3, h4⟩ := ry
    cases e1 : intsOf xs with
    | none => rw [e1] at f; exact f.elim
    | some ns =>
      cases e2 : intsOf ys with
      | none => rw [e1, e2] at f; exact f.elim
      | some ms =>
        rw [e1, e2] at f
        have q1 := intsOf_eq e1
        have q2 := intsOf_eq e2
        subst q1 q2
        have q3 := ints_rps h2
        have q4 := ints_rps h4
        subst q3 q4
        exact .inr ⟨a, b, ns, ms, rfl, rfl, SqT.of h1, SqT.of h3, f.here rel ⟨rfl, rfl⟩⟩
  · exact .inl (op2_lt W σ m S H _ _ v u Q rel rx ry f)
theorem ltA_tup (a b : List Int) (S : Store) : ltA (.tup (a.map .int)) (.tup (b.map .int)) S = .ok (.bl (HT.lexLt a b)) S := by
  show (match intsOf (a.map .int), intsOf (b.map .int) with | some a, some b => Res.ok (PV.bl (HT.lexLt a b)) S | _, _ => .stuck) = _
  rw [intsOf_map, intsOf_map]
end TL

set_option Elab.async false
set_option linter.all false
set_option maxRecDepth 100000
set_option maxHeartbeats 1000000
/-! TN17: a text's join of a list of texts. -/
namespace TL
open PySem PySem.Spec PyProof.Rows L2
def strsOf : List PV → Option (List Str)
  | [] => some []
  | .str s :: xs => (strsOf xs).map (s :: ·)
  | _ :: _ => none
theorem strsOf_eq : ∀ {xs : List PV} {ns : List Str}, strsOf xs = some ns → xs = ns.map .str
  | [], ns, h => by cases h; rfl
  | x :: xs, ns, h => by
    cases x with
    | str i =>
      have h' : (strsOf xs).map (i :: ·) = some ns := h
      cases e : strsOf xs with
      | none => rw [e] at h'; cases h'
      | some ms =>
        rw [e] at h'
        cases h'
        rw [strsOf_eq e]
        rfl
    | _ => cases h
theorem strsOf_map : ∀ ws : List Str, strsOf (ws.map .str) = some ws
  | [] => rfl
  | w :: ws => by
    show (strsOf (ws.map .str)).map (w :: ·) = _
    rw [strsOf_map ws]
    rfl
theorem strs_rps {K : PySem.W.Frag} {m : Mp} {H : Hp} : ∀ {ws : List Str} {vs : List V}, Rps K m H (ws.map .str) vs → vs = ws.map V.str
  | [], vs, h => h
  | w :: ws, vs, ⟨a, r, e, h1, h2⟩ => by
    have h1' : a = .str w := h1
    rw [e, h1', strs_rps h2]
    rfl
def joinV (a : Str) (y : PV) (S : Store) : Res PV := match lstOf y S with
  | some ys => match strsOf ys with
    | some ws => if (ws.map (·.length)).sum + ws.length * a.length ≤ 16777216 then .ok (.str (Txt.join a ws)) S else .stuck
    | none => .stuck
  | none => .stuck
def eJoin (co ce : CE PV) : CE PV := fun ρ S => (co ρ S).bind fun o S1 => match o with
  | .str a => (ce ρ S1).bind fun y S2 => joinV a y S2
  | _ => .stuck
section
variable {X : Cx} {W : WX} {o e : Expr} {co ce : CE PV} {apos pos : Pos}
theorem de_join (ho : DE X W o co) (he : DE X W e ce) (hs : starEach [e] X.env = [(false, eval e X.env)] := by rfl) (hbase : attributeBase o "join" X.env (eval o X.env) = eval o X.env := by rfl) (hline : (apos.endLine == pos.line) = true := by rfl) :
    DE X W (.Call (.Attribute o "join" apos) [e] [] pos) (eJoin co ce) :=
  pe_imp (pe_join ho he hs hbase hline) fun σ H Q h => by
    obtain ⟨m, S, ρ, at_, fin⟩ := h
    refine ⟨m, S, ρ, at_, (Fin.bind at_ fin).mono fun v H1 h1 => ?_⟩
    obtain ⟨m1, S1, x, at1, r1, e1, l1, f1⟩ := h1
    dsimp only at f1
    cases x with
    | str a =>
      have hv : v = .str a := r1.2
      subst hv
      refine ⟨⟨a, rfl⟩, m1, S1, ρ, at1, (Fin.bind at1 f1).mono fun u H2 h2 => ?_⟩
      obtain ⟨m2, S2, y, at2, r2, e2, l2, f2⟩ := h2
      dsimp only at f2
      unfold joinV at f2
      cases el : lstOf y S2 with
      | none => rw [el] at f2; exact f2.elim
      | some ys =>
        rw [el] at f2
        dsimp only at f2
        obtain ⟨_, p, vs, rfl, sq, rp⟩ := lst_ok at2.rel r2 el
        cases es : strsOf ys with
        | none => rw [es] at f2; exact f2.elim
        | some ws =>
          rw [es] at f2
          dsimp only at f2
          by_cases hl : (ws.map (·.length)).sum + ws.length * a.length ≤ 16777216
          · rw [if_pos hl] at f2
            have q := strsOf_eq es
            subst q
            have q2 := strs_rps rp
            subst q2
            exact ⟨a, p, ws, rfl, rfl, .inl sq, hl, f2.here at2.rel ⟨rfl, rfl⟩⟩
          · rw [if_neg hl] at f2
            exact f2.elim
    | _ => exact f1.elim
end
theorem joinV_strs {a : Str} {ws : List Str} {i : Nat} {S : Store} (h : S[i]? = some (.lst (ws.map .str))) (hl : (ws.map (·.length)).sum + ws.length * a.length ≤ 16777216) : joinV a (.obj i) S = .ok (.str (Txt.join a ws)) S := by
  have e : lstOf (.obj i) S = some (ws.map .str) := by
    unfold lstOf
    simp only [h]
  unfold joinV
  rw [e]
  dsimp only
  rw [strsOf_map]
  dsimp only
  rw [if_pos hl]
theorem eJoin_ap (co ce : CE PV) (ρ : Sl) (S : Store) : eJoin co ce ρ S = (co ρ S).bind fun o S1 => match o with
  | .str a => (ce ρ S1).bind fun y S2 => joinV a y S2
  | _ => .stuck := rfl
end TL

set_option Elab.async false
set_option linter.all false
set_option maxRecDepth 100000
set_option maxHeartbeats 1000000
/-! TN18: instances of own classes: fields read and stored, methods called, instances made. -/
namespace TL
open PySem PySem.Spec PyProof.Rows L2
/-! ### fields -/
def getF (f : Str) : List (Str × PV) → Option PV
  | [] => none
  | p :: r => if p.1 = f then some p.2 else getF f r
def putP (f : Str) (x : PV) : List (Str × PV) → List (Str × PV)
  | [] => [(f, x)]
  | p :: r => if p.1 = f then (p.1, x) :: r else p :: putP f x r
section
variable {K : PySem.W.Frag} {m : Mp} {H : Hp} {n : Nat}
theorem lookup_cons_eq {f : Str} {v : V} {r : List (Str × V)} : List.lookup f ((f, v) :: r) = some v := by
  simp [List.lookup]
theorem lookup_cons_ne {f g : Str} {v : V} {r : List (Str × V)} (h : g ≠ f) : List.lookup f ((g, v) :: r) = List.lookup f r := by
  have hb : (f == g) = false := beq_eq_false_iff_ne.mpr fun z => h z.symm
  simp only [List.lookup, hb]
theorem FsR.get : ∀ {fs : List (Str × PV)} {l : List (Str × V)} {f : Str} {x : PV}, FsR K m H fs l → getF f fs = some x → ∃ v, l.lookup f = some v ∧ Rp K m H x v
  | [], _, _, _, _, e => by cases e
  | p :: r, l, f, x, h, e => by
    obtain ⟨⟨qn, qv⟩, s, rfl, h1, h2, h3⟩ := h
    have h1' : p.1 = qn := h1
    subst h1'
    unfold getF at e
    by_cases q : p.1 = f
    · rw [if_pos q] at e
      cases e
      rw [← q]
      exact ⟨qv, lookup_cons_eq, h2⟩
    · rw [if_neg q] at e
      obtain ⟨v, e1, e2⟩ := FsR.get h3 e
      exact ⟨v, by rw [lookup_cons_ne q]; exact e1, e2⟩
theorem FsR.no : ∀ {fs : List (Str × PV)} {l : List (Str × V)} {f : Str}, FsR K m H fs l → getF f fs = none → l.lookup f = none
  | [], l, f, h, _ => by
    have e : l = [] := h
    rw [e]
    rfl
  | p :: r, l, f, h, e => by
    obtain ⟨⟨qn, qv⟩, s, rfl, h1, h2, h3⟩ := h
    have h1' : p.1 = qn := h1
    subst h1'
    unfold getF at e
    by_cases q : p.1 = f
    · rw [if_pos q] at e
      cases e
    · rw [if_neg q] at e
      rw [lookup_cons_ne q]
      exact FsR.no h3 e
theorem FsR.put : ∀ {fs : List (Str × PV)} {l : List (Str × V)} {f : Str} {x : PV} {v : V}, FsR K m H fs l → Rp K m H x v → FsR K m H (putP f x fs) (putF f v l)
  | [], l, f, x, v, h, r => by
    have e : l = [] := h
    rw [e]
    exact ⟨(f, v), [], rfl, rfl, r, rfl⟩
  | p :: ps, l, f, x, v, h, r => by
    obtain ⟨⟨qn, qv⟩, s, rfl, h1, h2, h3⟩ := h
    have h1' : p.1 = qn := h1
    subst h1'
    unfold putP putF
    by_cases q : p.1 = f
    · rw [if_pos q, if_pos q]
      exact ⟨(p.1, v), s, rfl, rfl, r, h3⟩
    · rw [if_neg q, if_neg q]
      exact ⟨(p.1, qv), _, rfl, rfl, h2, FsR.put h3 r⟩
theorem FsR.len : ∀ {fs : List (Str × PV)} {l : List (Str × V)}, FsR K m H fs l → l.length = fs.length
  | [], l, h => by
    have e : l = [] := h
    rw [e]
    rfl
  | p :: r, l, h => by
    obtain ⟨q, s, rfl, _, _, h3⟩ := h
    rw [List.length_cons, List.length_cons, FsR.len h3]
theorem bnd_getF : ∀ {fs : List (Str × PV)} {f : Str} {x : PV}, bnds n (fs.map (·.2)) = true → getF f fs = some x → bnd n x = true
  | [], _, _, _, e => by cases e
  | p :: r, f, x, h, e => by
    have h' := Bool.and_eq_true_iff.mp h
    unfold getF at e
    by_cases q : p.1 = f
    · rw [if_pos q] at e
      cases e
      exact h'.1
    · rw [if_neg q] at e
      exact bnd_getF h'.2 e
theorem bnd_putP : ∀ {fs : List (Str × PV)} {f : Str} {x : PV}, bnds n (fs.map (·.2)) = true → bnd n x = true → bnds n ((putP f x fs).map (·.2)) = true
  | [], f, x, _, e => by
    show (bnd n x && true) = true
    rw [e]
    rfl
  | p :: r, f, x, h, e => by
    have h' := Bool.and_eq_true_iff.mp h
    unfold putP
    by_cases q : p.1 = f
    · rw [if_pos q]
      exact Bool.and_eq_true_iff.mpr ⟨e, h'.2⟩
    · rw [if_neg q]
      exact Bool.and_eq_true_iff.mpr ⟨h'.1, bnd_putP h'.2 e⟩
end
/-- e.f, of an instance of C -/
def eFld (C f : Str) (co : CE PV) : CE PV := fun ρ S => (co ρ S).bind fun o S1 => match o with
  | .obj i => match S1[i]? with
    | some (.ins D fs) => if D = C then (match getF f fs with
      | some x => .ok x S1
      | none => .stuck) else .stuck
    | _ => .stuck
  | _ => .stuck
/-- e.f = c -/
def sSetFld (C f : Str) (co c : CE PV) : CS := fun ρ S => sb (c ρ S) ρ fun x S1 => sb (co ρ S1) ρ fun o S2 => match o with
  | .obj i => match S2[i]? with
    | some (.ins D fs) => if D = C ∧ fs.length < 1000 then .next ρ (S2.set i (.ins D (putP f x fs))) else .stuck
    | _ => .stuck
  | _ => .stuck
/-- what is asked of a class -/
structure ClsF (K : PySem.W.Frag) (mg : Str → Option Value) (C : Str) : Prop where
  g : mg C = some (.ref (He.ga K C))
  cl : Cls K (He.ga K C)
theorem ClsF.ca {K : PySem.W.Frag} {mg : Str → Option Value} {C : Str} (c : ClsF K mg C) : ca mg C = He.ga K C := by
  unfold TL.ca
  rw [c.g]
section
variable {X : Cx} {W : WX} {C f : Str} {pos pos' : Pos} {e o : Expr} {c co : CE PV}
theorem de_fld (cl : ClsF X.K X.mg C) (na : NoAttr X.K (He.ga X.K C) f) (he : DE X W e co) (hb : attributeBase e f X.env (eval e X.env) = eval e X.env := by rfl) : DE X W (.Attribute e f pos) (eFld C f co) := by
  refine pe_imp (pe_fld he hb) fun σ H Q h => ?_
  obtain ⟨m, S, ρ, at_, fin⟩ := h
  refine ⟨m, S, ρ, at_, (Fin.bind at_ fin).mono fun v H1 h1 => ?_⟩
  obtain ⟨m1, S1, x, at1, r1, e1, l1, f1⟩ := h1
  dsimp only at f1
  cases x with
  | obj i =>
    dsimp only at f1
    cases q : S1[i]? with
    | none => rw [q] at f1; exact f1.elim
    | some p =>
      rw [q] at f1
      cases p with
      | ins D fs =>
        dsimp only at f1
        by_cases hD : D = C
        · subst hD
          rw [if_pos rfl] at f1
          cases g : getF f fs with
          | none => rw [g] at f1; exact f1.elim
          | some y =>
            rw [g] at f1
            have ev : v = .ref (m1 i) := r1.2
            obtain ⟨dx, l, h1, h2⟩ := at1.rel.ob i _ q
            obtain ⟨u, e2, e3⟩ := h2.get g
            refine ⟨m1 i, He.ga X.K D, dx, l, u, ev, by rw [← cl.ca]; exact h1, cl.cl, na, e2, f1.here at1.rel ⟨bnd_getF (at1.rel.wf i _ q) g, e3⟩⟩
        · rw [if_neg hD] at f1
          exact f1.elim
      | _ => exact f1.elim
  | _ => exact f1.elim
theorem ds_fld (cl : ClsF X.K X.mg C) (na : NoAttr X.K (He.ga X.K C) f) (he : DE X W e c) (ho : DE X W o co) (hs : swapsWith e (some (.Attribute o f pos')) pos.line X.env = pure false := by rfl) : DS X W (.Assign [.Attribute o f pos'] e pos) (sSetFld C f co c) := ps_imp (ps_fld ho he hs) fun D σ H h => by
  obtain ⟨m, S, ρ, at_, fin⟩ := h
  refine ⟨m, S, ρ, at_, (FinS.bind at_ fin).mono fun v H1 h1 => ?_⟩
  obtain ⟨m1, S1, x, at1, r1, e1, l1, f1⟩ := h1
  refine ⟨m1, S1, ρ, at1, (FinS.bind at1 f1).mono fun ov H2 h2 => ?_⟩
  obtain ⟨m2, S2, y, at2, r2, e2, l2, f2⟩ := h2
  dsimp only at f2
  cases y with
  | obj i =>
    dsimp only at f2
    cases q : S2[i]? with
    | none => rw [q] at f2; exact f2.elim
    | some p =>
      rw [q] at f2
      cases p with
      | ins E fs =>
        dsimp only at f2
        by_cases hD : E = C ∧ fs.length < 1000
        · rw [if_pos hD] at f2
          obtain ⟨hD, hz⟩ := hD
          subst hD
          have ev : ov = .ref (m2 i) := r2.2
          obtain ⟨dx, l, h1, h2⟩ := at2.rel.ob i _ q
          have r1' := stbV e2 l2 r1
          have hl : ∀ kvs, PO.ins E fs ≠ .dic true kvs := fun _ z => by cases z
          refine ⟨m2 i, He.ga X.K E, dx, l, ev, by rw [← cl.ca]; exact h1, cl.cl, na, by rw [h2.len]; exact hz, ?_⟩
          have hb := bnd_putP (f := f) (at2.rel.wf i _ q) r1'.1
          have ex : Ext X.K S2.length m2 H2 m2 (upd H2 (m2 i) (.ins (ca X.mg E) dx (putF f v l))) := at2.rel.ext_write q hl
          have rel' : Rel X.K X.mg m2 (S2.set i (.ins E (putP f x fs))) (upd H2 (m2 i) (.ins (ca X.mg E) dx (putF f v l))) := at2.rel.write q hl hb ⟨dx, _, upd_same, FsR.ext ex _ _ hb (h2.put r1'.2)⟩
          rw [← cl.ca]
          exact f2 m2 _ σ ex (by rw [List.length_set]; exact Nat.le_refl _) ⟨rel', at2.env.ext ex (by rw [List.length_set]; exact Nat.le_refl _)⟩
        · rw [if_neg hD] at f2
          exact f2.elim
      | _ => exact f2.elim
  | _ => exact f2.elim
end
/-! ### methods -/
section
variable {X : Cx} {CX : CXT} {k : Nat} {f C : Addr} {fd : FuncData} {ps : List Str} {sp : Sp} {E : L2.St → XK} {x m : Str} {p pos apos : Pos} {e o : Expr} {es : List Expr} {ta : TE} {t : TA}
def tMethS (C : Addr) (m : Str) (sp : Sp) (E : L2.St → XK) (ta : TE) (t : TA) : TE := fun σ H Q => ta σ H fun x H1 => ∃ a dx fs, x = .ref a ∧ H1 a = some (.ins C dx fs) ∧ fs.lookup m = none ∧
  t σ H1 fun vs H2 => sp (x :: vs) H2 Q (E σ)
theorem pe_methW {pl : Sem Bool} (he : PE X o ta) (c : Cls X.K C) (hm : Meth X.K C m f) (F : FnOk X.prog X.w X.K X.mg X.base CX k f fd ps sp) (hr : Room k X.A) (hb : Binds X.K fd ps []) (hx : ∀ σ, PassesAt CX X σ (E σ)) (ha : PA X (e :: es) t)
    (hst : starEach (e :: es) X.env = (false, eval e X.env) :: starEach es X.env := by rfl) (hpl : (backTo pos (starEach es X.env)).any (·.1) = false := by rfl)
    (ht : eval (.Call (.Attribute o m apos) (e :: es) [] pos) X.env = (do
      let ov ← eval o X.env
      standAt apos.atName
      let (f, first) ← holding [ov] (getMethod ov m pl)
      callWith pos f first (backTo pos (starEach (e :: es) X.env)) (backToKw pos (keywordEach [] X.env))) := by rfl) :
    PE X (.Call (.Attribute o m apos) (e :: es) [] pos) (tMethS C m sp E ta t) := by
  refine ⟨fun pins s σ H Q I h => ?_⟩
  refine PySem.W.methodCall_KW (pl := pl) (thn (he.run pins s σ H _ I h) fun u s1 ⟨x, H1, I1, rx, a, dx, fs, ex, ea, l, q⟩ => ?_) ht
  subst ex
  obtain rfl : u = Value.ref a := rx
  refine getmeth_ok I1 ea c hm l ?_
  refine PySem.W.callWith_K (first := [.ref a]) (h₀ := X.base) I.ok.mod.kin hm.kp (thn (ha.run pos pins s1 σ H1 _ I1 q) fun us s2 ⟨vs, H2, I2, r, q2⟩ => ⟨I2.kIn, ?_⟩) hst hpl
  exact run_fnS (us := .ref a :: us) (vs := .ref a :: vs) F hr hb (hx σ) I2 (.cons rfl r) q2
theorem pe_methW0 {pl : Sem Bool} (he : PE X o ta) (c : Cls X.K C) (hm : Meth X.K C m f) (F : FnOk X.prog X.w X.K X.mg X.base CX k f fd ps sp) (hr : Room k X.A) (hb : Binds X.K fd ps []) (hx : ∀ σ, PassesAt CX X σ (E σ))
    (ht : eval (.Call (.Attribute o m apos) [] [] pos) X.env = (do
      let ov ← eval o X.env
      standAt apos.atName
      let (f, first) ← holding [ov] (getMethod ov m pl)
      callWith pos f first (backTo pos (starEach [] X.env)) (backToKw pos (keywordEach [] X.env))) := by rfl) :
    PE X (.Call (.Attribute o m apos) [] [] pos) (tMethS C m sp E ta tNil) := by
  refine ⟨fun pins s σ H Q I h => ?_⟩
  refine PySem.W.methodCall_KW (pl := pl) (thn (he.run pins s σ H _ I h) fun u s1 ⟨x, H1, I1, rx, a, dx, fs, ex, ea, l, q⟩ => ?_) ht
  subst ex
  obtain rfl : u = Value.ref a := rx
  refine getmeth_ok I1 ea c hm l ?_
  exact PySem.W.callWith_K0 (first := [.ref a]) I1.kIn hm.kp (run_fnS (us := [.ref a]) (vs := [.ref a]) F hr hb (hx σ) I1 (.cons rfl .nil) q)
theorem run_makeS {pins : List (Addr × Obj)} {σ : L2.St} {H : Hp} {s : Shared} {Q : VK} {us : List Value} {vs : List V} (M : Mk X.K C f) (F : FnOk X.prog X.w X.K X.mg X.base CX k f fd ps sp) (hr : Room (k + 1) X.A) (hb : Binds X.K fd ps [])
    (hx : PassesAt CX X σ (E σ)) (I : Inv X pins σ H s) (r : Vals vs us)
    (h : ∀ x dx, H x = none → H dx = none → dx ≠ x → sp (.ref x :: vs) (upd (upd H dx (.own x)) x (.ins C dx [])) (fun v H2 => v = .non ∧ Q (.ref x) H2) (E σ)) :
    wpAny (model X.prog X.w) X.A (call (.ref C) us) (EP X pins σ Q) X.xe s := by
  have hq := h (s.heap.objs.size + 1) s.heap.objs.size (I.hok.fresh (Nat.le_succ _)) (I.hok.fresh (Nat.le_refl _)) (Nat.ne_of_lt (Nat.lt_succ_self _))
  have I2 := Inv.made (C := C) I
  have r2 : Vals (V.ref (s.heap.objs.size + 1) :: vs) (Value.ref (s.heap.objs.size + 1) :: us) := .cons rfl r
  have hl : (Value.ref (s.heap.objs.size + 1) :: us).length = ps.length := by
    have e := r2.length
    rw [F.len _ _ _ _ hq] at e
    exact e.symm
  have hb2 := hb _ (Value.ref (s.heap.objs.size + 1) :: us) I2.kIn (by rw [List.append_nil]; exact hl)
  rw [List.append_nil] at hb2
  refine wpAny_call (make_map (f := f) I.kIn M.makes M.init (beq_iff_eq.mp M.fn) (codeAny_mono (F.run _ X.stack _ _ ⟨Value.ref (s.heap.objs.size + 1) :: us, []⟩ (Value.ref (s.heap.objs.size + 1) :: us) _ _ (E σ) (hr.make C us [])
    (I2.env0.make C us []) hb2 r2 hq) fun r s' hq' => ?_))
  cases r with
  | error e => exact hx pins _ _ e s' I2 hq'
  | ok fl =>
    cases fl with
    | ret u =>
      obtain ⟨v, H', I3, rv, ev, q3⟩ := I2.after hq'
      subst ev
      exact ⟨rv, ⟨V.ref (s.heap.objs.size + 1), H', I3, rfl, q3⟩⟩
    | next => exact False.elim hq'
    | brk => exact False.elim hq'
    | cont => exact False.elim hq'
def tMakeS (C : Addr) (sp : Sp) (E : L2.St → XK) (t : TA) : TE := fun σ H Q => t σ H fun vs H1 => ∀ x dx, H1 x = none → H1 dx = none → dx ≠ x →
  sp (.ref x :: vs) (upd (upd H1 dx (.own x)) x (.ins C dx [])) (fun v H2 => v = .non ∧ Q (.ref x) H2) (E σ)
theorem pe_makeS (M : Mk X.K C f) (F : FnOk X.prog X.w X.K X.mg X.base CX k f fd ps sp) (hr : Room (k + 1) X.A) (hg : Gl X x) (hm : X.mg x = some (.ref C)) (hb : Binds X.K fd ps []) (hx : ∀ σ, PassesAt CX X σ (E σ))
    (ha : PA X (e :: es) t) (hdb : (x == ("__debug__" : Str)) = false := by decide) (he : starEach (e :: es) X.env = (false, eval e X.env) :: starEach es X.env := by rfl) (hpl : (backTo pos (starEach es X.env)).any (·.1) = false := by rfl) :
    PE X (.Call (.Name x p) (e :: es) [] pos) (tMakeS C sp E t) := by
  refine ⟨fun pins s σ H Q I h => ?_⟩
  refine wpAny_Call_Name_kw (ld_glob I hg hm ?_ hdb)
  refine PySem.W.callWith_K (h₀ := X.base) I.ok.mod.kin M.kp (thn (ha.run pos pins s σ H _ I h) fun us s1 ⟨vs, H1, I1, r, q⟩ => ⟨I1.kIn, ?_⟩) he hpl
  exact run_makeS M F hr hb (hx σ) I1 r q
theorem pe_makeS0 (M : Mk X.K C f) (F : FnOk X.prog X.w X.K X.mg X.base CX k f fd ps sp) (hr : Room (k + 1) X.A) (hg : Gl X x) (hm : X.mg x = some (.ref C)) (hb : Binds X.K fd ps []) (hx : ∀ σ, PassesAt CX X σ (E σ))
    (hdb : (x == ("__debug__" : Str)) = false := by decide) : PE X (.Call (.Name x p) [] [] pos) (tMakeS C sp E tNil) := by
  refine ⟨fun pins s σ H Q I h => ?_⟩
  refine wpAny_Call_Name_kw (ld_glob I hg hm ?_ hdb)
  exact PySem.W.callWith_K0 I.kIn M.kp (run_makeS (us := []) M F hr hb (hx σ) I .nil h)
end
/-- a method of a class -/
def MethOk (P : Program) (w : World) (K : PySem.W.Frag) (mg : Str → Option Value) (base : Heap) (k : Nat) (C m : Str) (ps : List Str) (F : DF) : Prop :=
  ∃ fd, Meth K (He.ga K C) m (He.ma K (He.ga K C) m) ∧ FnOk P w K mg base (L2.CX P w) k (He.ma K (He.ga K C) m) fd ps (spF K mg ps.length F) ∧ Binds K fd ps []
/-- a class that may be made -/
def MakeOk (P : Program) (w : World) (K : PySem.W.Frag) (mg : Str → Option Value) (base : Heap) (k : Nat) (C : Str) (ps : List Str) (F : DF) : Prop :=
  ∃ fd, Mk K (He.ga K C) (He.ma K (He.ga K C) "__init__") ∧ FnOk P w K mg base (L2.CX P w) k (He.ma K (He.ga K C) "__init__") fd ps (spF K mg ps.length F) ∧ Binds K fd ps []
noncomputable def eMeth (C m : Str) (n : Nat) (F : DF) (co : CE PV) (cs : CE (List PV)) : CE PV := fun ρ S => (co ρ S).bind fun o S1 => match o with
  | .obj i => match S1[i]? with
    | some (.ins D fs) => if D = C ∧ getF m fs = none then (cs ρ S1).bind fun xs S2 => if xs.length + 1 = n then gc S2 (F (PV.obj i :: xs) S2) else .stuck else .stuck
    | _ => .stuck
  | _ => .stuck
def eMake (C : Str) (n : Nat) (F : DF) (cs : CE (List PV)) : CE PV := fun ρ S => (cs ρ S).bind fun xs S1 => if xs.length + 1 = n then (match F (.obj S1.length :: xs) (S1 ++ [.ins C []]) with
  | .ok .non S2 => .ok (.obj S1.length) S2
  | .exc c p S2 => .exc c p S2
  | _ => .stuck) else .stuck
section
variable {X : Cx} {W : WX} {C m : Str} {p pos apos : Pos} {e o : Expr} {es : List Expr} {co : CE PV} {cs : CE (List PV)} {k : Nat} {ps : List Str} {F : DF}
theorem rd_meth (cl : ClsF X.K X.mg C) (he : ∀ {σ H Q}, rdE X.K X.mg W co σ H Q → rdE X.K X.mg W co σ H Q) (σ : L2.St) (H : Hp) (Q : VK) (h : rdE X.K X.mg W (eMeth C m ps.length F co cs) σ H Q) : tMethS (He.ga X.K C) m (spF X.K X.mg ps.length F) (WE W) (rdE X.K X.mg W co) (rdA X.K X.mg W cs) σ H Q := by
  obtain ⟨m0, S, ρ, at_, fin⟩ := h
  refine ⟨m0, S, ρ, at_, (Fin.bind at_ fin).mono fun v H1 h1 => ?_⟩
  obtain ⟨m1, S1, x, at1, r1, e1, l1, f1⟩ := h1
  dsimp only at f1
  cases x with
  | obj i =>
    dsimp only at f1
    cases q : S1[i]? with
    | none => rw [q] at f1; exact f1.elim
    | some y =>
      rw [q] at f1
      cases y with
      | ins D fs =>
        dsimp only at f1
        by_cases hD : D = C ∧ getF m fs = none
        · rw [if_pos hD] at f1
          obtain ⟨hD, hn⟩ := hD
          subst hD
          have ev : v = .ref (m1 i) := r1.2
          obtain ⟨dx, l, g1, g2⟩ := at1.rel.ob i _ q
          refine ⟨m1 i, dx, l, ev, by rw [← cl.ca]; exact g1, g2.no hn, m1, S1, ρ, at1, (Fin.bind at1 f1).mono fun vs H2 h2 => ?_⟩
          obtain ⟨m2, S2, xs, at2, r2, e2, l2, f2⟩ := h2
          dsimp only at f2
          by_cases hl : xs.length + 1 = ps.length
          · rw [if_pos hl] at f2
            have r1' := stbV e2 l2 r1
            refine ⟨m2, S2, .obj i :: xs, at2.rel, ⟨Bool.and_eq_true_iff.mpr ⟨r1'.1, r2.1⟩, v, vs, rfl, r1'.2, r2.2⟩, by rw [List.length_cons, r2.2.length]; exact hl, (f2.gc at2.rel).chg fun _ _ _ h => h⟩
          · rw [if_neg hl] at f2
            exact f2.elim
        · rw [if_neg hD] at f1
          exact f1.elim
      | _ => exact f1.elim
  | _ => exact f1.elim
theorem de_meth (tk : Takes X W) (cl : ClsF X.K X.mg C) (G : MethOk X.prog X.w X.K X.mg X.base k C m ps F) (hr : Room k X.A) (ho : DE X W o co) (ha : DA X W (e :: es) cs)
    (hst : starEach (e :: es) X.env = (false, eval e X.env) :: starEach es X.env := by rfl) (hpl : (backTo pos (starEach es X.env)).any (·.1) = false := by rfl) {pl : Sem Bool}
    (ht : eval (.Call (.Attribute o m apos) (e :: es) [] pos) X.env = (do
      let ov ← eval o X.env
      standAt apos.atName
      let (f, first) ← holding [ov] (getMethod ov m pl)
      callWith pos f first (backTo pos (starEach (e :: es) X.env)) (backToKw pos (keywordEach [] X.env))) := by rfl) :
    DE X W (.Call (.Attribute o m apos) (e :: es) [] pos) (eMeth C m ps.length F co cs) := by
  obtain ⟨fd, hm, h1, h2⟩ := G
  exact pe_imp (pe_methW (pl := pl) ho cl.cl hm h1 hr h2 (fun σ => passAt tk σ) ha hst hpl ht) (rd_meth cl id)
theorem de_meth0 (tk : Takes X W) (cl : ClsF X.K X.mg C) (G : MethOk X.prog X.w X.K X.mg X.base k C m ps F) (hr : Room k X.A) (ho : DE X W o co) {pl : Sem Bool}
    (ht : eval (.Call (.Attribute o m apos) [] [] pos) X.env = (do
      let ov ← eval o X.env
      standAt apos.atName
      let (f, first) ← holding [ov] (getMethod ov m pl)
      callWith pos f first (backTo pos (starEach [] X.env)) (backToKw pos (keywordEach [] X.env))) := by rfl) :
    DE X W (.Call (.Attribute o m apos) [] [] pos) (eMeth C m ps.length F co aNil) := by
  obtain ⟨fd, hm, h1, h2⟩ := G
  refine pe_imp (pe_methW0 (pl := pl) ho cl.cl hm h1 hr h2 (fun σ => passAt tk σ) ht) fun σ H Q h => ?_
  have h' := rd_meth cl id σ H Q h
  refine ?_
  obtain ⟨m0, S, ρ, at_, fin⟩ := h'
  refine ⟨m0, S, ρ, at_, fin.mono fun v H1 h1 => ?_⟩
  obtain ⟨a, dx, fs, e1, e2, e3, m1, S1, ρ1, at1, f1⟩ := h1
  exact ⟨a, dx, fs, e1, e2, e3, f1.here at1.rel ⟨rfl, rfl⟩⟩
theorem rd_make (cl : ClsF X.K X.mg C) (σ : L2.St) (H : Hp) (Q : VK) (h : rdE X.K X.mg W (eMake C ps.length F cs) σ H Q) : tMakeS (He.ga X.K C) (spF X.K X.mg ps.length F) (WE W) (rdA X.K X.mg W cs) σ H Q := by
  obtain ⟨m0, S, ρ, at_, fin⟩ := h
  refine ⟨m0, S, ρ, at_, (Fin.bind at_ fin).mono fun vs H1 h1 => ?_⟩
  obtain ⟨m1, S1, xs, at1, r1, e1, l1, f1⟩ := h1
  intro x dx nx ndx nex
  dsimp only at f1
  by_cases hl : xs.length + 1 = ps.length
  · rw [if_pos hl] at f1
    have nx' : upd H1 dx (.own x) x = none := by rw [upd_ne nex.symm]; exact nx
    have rel1 : Rel X.K X.mg m1 S1 (upd H1 dx (.own x)) := at1.rel.newT ndx
    have ex1 : Ext X.K S1.length m1 H1 m1 (upd H1 dx (.own x)) := ext_new ndx fun _ _ => rfl
    have ex2 : Ext X.K S1.length m1 (upd H1 dx (.own x)) (mNew m1 S1.length x) (upd (upd H1 dx (.own x)) x (.ins (He.ga X.K C) dx [])) := ext_new nx' fun i hi => mNew_lt hi
    have ex := ex1.trans ex2 (Nat.le_refl _)
    have rel2 : Rel X.K X.mg (mNew m1 S1.length x) (S1 ++ [.ins C []]) (upd (upd H1 dx (.own x)) x (.ins (He.ga X.K C) dx [])) := rel1.newO nx' rfl ⟨dx, [], by rw [upd_same, cl.ca], rfl⟩
    have l2 : S1.length ≤ (S1 ++ [PO.ins C []]).length := by rw [List.length_append]; omega
    refine ⟨mNew m1 S1.length x, S1 ++ [.ins C []], .obj S1.length :: xs, rel2, ⟨Bool.and_eq_true_iff.mpr ⟨decide_eq_true (by rw [List.length_append]; show _ < _ + 1; omega), bnds_mono l2 _ r1.1⟩, .ref x, vs, rfl, by show V.ref x = V.ref (mNew m1 S1.length x S1.length); rw [mNew_at], r1.2.ext ex xs vs r1.1⟩, by rw [List.length_cons, r1.2.length]; exact hl, ?_⟩
    cases q : F (.obj S1.length :: xs) (S1 ++ [.ins C []]) with
    | ok y S2 =>
      rw [q] at f1
      cases y with
      | non =>
        intro m' H' v e l r rr
        have hlt : S1.length < (S1 ++ [PO.ins C []]).length := by rw [List.length_append]; show _ < _ + 1; omega
        have em : m' S1.length = x := by rw [e.mi _ hlt, mNew_at]
        refine ⟨rr.2, f1 m' H' (.ref x) (ex.trans e l2) (Nat.le_trans l2 l) r ⟨decide_eq_true (Nat.lt_of_lt_of_le hlt l), ?_⟩⟩
        show V.ref x = V.ref (m' S1.length)
        rw [em]
      | _ => exact f1.elim
    | exc c p S2 =>
      rw [q] at f1
      intro m' H' d e l r xr
      exact f1 m' H' d (ex.trans e l2) (Nat.le_trans l2 l) r xr
    | stuck => rw [q] at f1; exact f1.elim
  · rw [if_neg hl] at f1
    exact f1.elim
theorem de_make (tk : Takes X W) (cl : ClsF X.K X.mg C) (G : MakeOk X.prog X.w X.K X.mg X.base k C ps F) (hr : Room (k + 1) X.A) (ha : DA X W (e :: es) cs) (hg : Gl X C := by rfl) (hdb : (C == ("__debug__" : Str)) = false := by decide)
    (he : starEach (e :: es) X.env = (false, eval e X.env) :: starEach es X.env := by rfl) (hpl : (backTo pos (starEach es X.env)).any (·.1) = false := by rfl) : DE X W (.Call (.Name C p) (e :: es) [] pos) (eMake C ps.length F cs) := by
  obtain ⟨fd, hm, h1, h2⟩ := G
  exact pe_imp (pe_makeS hm h1 hr hg cl.g h2 (fun σ => passAt tk σ) ha hdb he hpl) (rd_make cl)
theorem de_make0 (tk : Takes X W) (cl : ClsF X.K X.mg C) (G : MakeOk X.prog X.w X.K X.mg X.base k C ps F) (hr : Room (k + 1) X.A) (hg : Gl X C := by rfl) (hdb : (C == ("__debug__" : Str)) = false := by decide) : DE X W (.Call (.Name C p) [] [] pos) (eMake C ps.length F aNil) := by
  obtain ⟨fd, hm, h1, h2⟩ := G
  refine pe_imp (pe_makeS0 hm h1 hr hg cl.g h2 (fun σ => passAt tk σ) hdb) fun σ H Q h => ?_
  obtain ⟨m0, S, ρ, at_, fin⟩ := rd_make cl σ H Q h
  exact fin.here at_.rel ⟨rfl, rfl⟩
end
/-- the promise of a def at any place -/
theorem fnOk_mkA {P : Program} {w : World} {K : PySem.W.Frag} {mg : Str → Option Value} {base : Heap} {k : Nat} {f : Addr} {x qual : Str} {params : Arguments} {body : List Stmt} {scope : Scope} {fd : FuncData} {N ps : List Str} {b : CS}
    (F : FunD K x qual params body scope [] [] f fd) (S : FnScope N ps scope)
    (h : ∀ (cdv : Value) (A : Around) (outer : List Env) (s : Shared) (H : Hp) (E : XK), Room k (A.deeper (envOfC qual scope s.heap.objs.size f cdv)) → DSs (cxD P w K mg base N qual scope f cdv A outer s H E) (wD E) body b) :
    FnOk P w K mg base (L2.CX P w) (k + 1) f fd ps (spF K mg ps.length (runD N.length b)) := by
  refine F.ok S (fun vs H Q E h => ?_) (fun cdv A outer s H vs Q E hr hsp => ⟨_, h cdv A outer s H E hr, ?_⟩)
  · obtain ⟨m, S, xs, _, _, l, _⟩ := h
    exact l
  · obtain ⟨m, S, xs, rel, rx, l, fin⟩ := hsp
    refine ⟨m, S, startP N.length xs, ⟨rel, start_ok rx.1 rx.2⟩, ?_⟩
    unfold runD at fin
    cases q : b (startP N.length xs) S with
    | ret y S' => rw [q] at fin; exact fun m' H' v e l r x => fin m' H' v e l r x
    | next ρ' S' => rw [q] at fin; exact fun m' H' σ' e l a => fin m' H' .non e l a.rel ⟨rfl, rfl⟩
    | exc c p ρ' S' => rw [q] at fin; exact fun m' H' σ' d e l a x => fin m' H' d e l a.rel x
    | brk ρ' S' => rw [q] at fin; exact fin.elim
    | cont ρ' S' => rw [q] at fin; exact fin.elim
    | stuck => rw [q] at fin; exact fin.elim
theorem methOk_mk {P : Program} {w : World} {K : PySem.W.Frag} {mg : Str → Option Value} {base : Heap} {k : Nat} {C m qual : Str} {params : Arguments} {body : List Stmt} {scope : Scope} {fd : FuncData} {N ps : List Str} {b : CS}
    (F : FunD K m qual params body scope [] [] (He.ma K (He.ga K C) m) fd) (S : FnScope N ps scope)
    (hb : ∀ us : List Value, us.length = ps.length → ∀ (kV doc pm : Value) (an : Option Addr) (cdv ct : Value), bindArgs (PySem.W.fnOf m qual params body scope .none kV doc pm an cdv ct) ⟨us, []⟩ = pure (ps.zip us))
    (hm : Meth K (He.ga K C) m (He.ma K (He.ga K C) m))
    (h : ∀ (cdv : Value) (A : Around) (outer : List Env) (s : Shared) (H : Hp) (E : XK), Room k (A.deeper (envOfC qual scope s.heap.objs.size (He.ma K (He.ga K C) m) cdv)) → DSs (cxD P w K mg base N qual scope (He.ma K (He.ga K C) m) cdv A outer s H E) (wD E) body b) :
    MethOk P w K mg base (k + 1) C m ps (runD N.length b) := ⟨fd, hm, fnOk_mkA F S h, F.bindsN fun kV doc pm an cdv ct us hl => hb us hl kV doc pm an cdv ct⟩
theorem makeOk_mk {P : Program} {w : World} {K : PySem.W.Frag} {mg : Str → Option Value} {base : Heap} {k : Nat} {C qual : Str} {params : Arguments} {body : List Stmt} {scope : Scope} {fd : FuncData} {N ps : List Str} {b : CS}
    (F : FunD K "__init__" qual params body scope [] [] (He.ma K (He.ga K C) "__init__") fd) (S : FnScope N ps scope)
    (hb : ∀ us : List Value, us.length = ps.length → ∀ (kV doc pm : Value) (an : Option Addr) (cdv ct : Value), bindArgs (PySem.W.fnOf "__init__" qual params body scope .none kV doc pm an cdv ct) ⟨us, []⟩ = pure (ps.zip us))
    (hm : Mk K (He.ga K C) (He.ma K (He.ga K C) "__init__"))
    (h : ∀ (cdv : Value) (A : Around) (outer : List Env) (s : Shared) (H : Hp) (E : XK), Room k (A.deeper (envOfC qual scope s.heap.objs.size (He.ma K (He.ga K C) "__init__") cdv)) → DSs (cxD P w K mg base N qual scope (He.ma K (He.ga K C) "__init__") cdv A outer s H E) (wD E) body b) :
    MakeOk P w K mg base (k + 1) C ps (runD N.length b) := ⟨fd, hm, fnOk_mkA F S h, F.bindsN fun kV doc pm an cdv ct us hl => hb us hl kV doc pm an cdv ct⟩
@[simp] theorem eFld_ap (C f : Str) (co : CE PV) (ρ : Sl) (S : Store) : eFld C f co ρ S = (co ρ S).bind fun o S1 => match o with
  | .obj i => match S1[i]? with
    | some (.ins D fs) => if D = C then (match getF f fs with
      | some x => .ok x S1
      | none => .stuck) else .stuck
    | _ => .stuck
  | _ => .stuck := rfl
theorem eFld_of {C f : Str} {co : CE PV} {ρ : Sl} {S S1 : Store} {i : Nat} {fs : List (Str × PV)} {x : PV} (h : co ρ S = .ok (.obj i) S1) (e : S1[i]? = some (.ins C fs)) (g : getF f fs = some x) : eFld C f co ρ S = .ok x S1 := by
  unfold eFld
  rw [h]
  show (match S1[i]? with
    | some (.ins D fs) => if D = C then (match getF f fs with
      | some x => Res.ok x S1
      | none => .stuck) else .stuck
    | _ => .stuck) = _
  rw [e]
  show (if C = C then (match getF f fs with
      | some x => Res.ok x S1
      | none => .stuck) else .stuck) = _
  rw [if_pos rfl, g]
theorem sSetFld_of {C f : Str} {co c : CE PV} {ρ : Sl} {S S1 S2 : Store} {i : Nat} {fs : List (Str × PV)} {x : PV} (h : c ρ S = .ok x S1) (h2 : co ρ S1 = .ok (.obj i) S2) (e : S2[i]? = some (.ins C fs)) (hl : fs.length < 1000) : sSetFld C f co c ρ S = .next ρ (S2.set i (.ins C (putP f x fs))) := by
  unfold sSetFld
  rw [h]
  show sb (co ρ S1) ρ _ = _
  rw [h2]
  show (match S2[i]? with
    | some (.ins D fs) => if D = C ∧ fs.length < 1000 then SR.next ρ (S2.set i (.ins D (putP f x fs))) else .stuck
    | _ => .stuck) = _
  rw [e]
  exact if_pos ⟨rfl, hl⟩
theorem eMeth_of {C m : Str} {n : Nat} {F : DF} {co : CE PV} {cs : CE (List PV)} {ρ : Sl} {S S1 S2 : Store} {i : Nat} {fs : List (Str × PV)} {xs : List PV} {r : Res PV} (h : co ρ S = .ok (.obj i) S1) (e : S1[i]? = some (.ins C fs)) (g : getF m fs = none) (ha : cs ρ S1 = .ok xs S2) (hn : xs.length + 1 = n) (hr : gc S2 (F (PV.obj i :: xs) S2) = r) : eMeth C m n F co cs ρ S = r := by
  unfold eMeth
  rw [h]
  show (match S1[i]? with
    | some (.ins D fs) => if D = C ∧ getF m fs = none then (cs ρ S1).bind fun xs S2 => if xs.length + 1 = n then gc S2 (F (PV.obj i :: xs) S2) else .stuck else .stuck
    | _ => .stuck) = _
  rw [e]
  show (if C = C ∧ getF m fs = none then (cs ρ S1).bind fun xs S2 => if xs.length + 1 = n then gc S2 (F (.obj i :: xs) S2) else .stuck else .stuck) = _
  rw [if_pos ⟨rfl, g⟩, ha]
  exact (if_pos hn).trans hr
theorem eMake_of {C : Str} {n : Nat} {F : DF} {cs : CE (List PV)} {ρ : Sl} {S S1 S2 : Store} {xs : List PV} (ha : cs ρ S = .ok xs S1) (hn : xs.length + 1 = n) (hr : F (PV.obj S1.length :: xs) (S1 ++ [.ins C []]) = .ok .non S2) : eMake C n F cs ρ S = .ok (.obj S1.length) S2 := by
  unfold eMake
  rw [ha]
  show (if xs.length + 1 = n then (match F (PV.obj S1.length :: xs) (S1 ++ [.ins C []]) with
  | .ok .non S2 => Res.ok (PV.obj S1.length) S2
  | .exc c p S2 => .exc c p S2
  | _ => .stuck) else .stuck) = _
  rw [if_pos hn, hr]
end TL

set_option Elab.async false
set_option linter.all false
set_option maxRecDepth 100000
set_option maxHeartbeats 1000000
/-! TN19: an own exception under Exception, raised and caught (try .. except X .. else); defs with defaults. -/
namespace TL
open PySem PySem.Spec PyProof.Rows L2
def xBase : List Value := [.type "Exception", .type "BaseException", .type "object"]
structure CutF (K : PySem.W.Frag) (mg : Str → Option Value) (n : Str) : Prop where
  g : mg n = some (.ref (He.ga K n))
  h1 : PySem.W.excIn K (He.ga K n) xBase "Exception.__new__" = true
  h2 : PySem.W.keepIn K (.ref (He.ga K n)) = true
  h3 : PySem.W.subIn K (.ref (He.ga K n)) (.type "BaseException") = some true
  h4 : PySem.W.typeIn K (.ref (He.ga K n)) = some (.type "type")
  ex : PySem.W.exmOne K (.ref (He.ga K n)) (.ref (He.ga K n)) = some true
def cutB (n : Str) (K : PySem.W.Frag) : Bool := decide (PySem.W.nsIn K mainGlobals n = some (some (.ref (He.ga K n)))) && (PySem.W.excIn K (He.ga K n) xBase "Exception.__new__" && (PySem.W.keepIn K (.ref (He.ga K n)) &&
  (decide (PySem.W.subIn K (.ref (He.ga K n)) (.type "BaseException") = some true) && (decide (PySem.W.typeIn K (.ref (He.ga K n)) = some (.type "type")) && decide (PySem.W.exmOne K (.ref (He.ga K n)) (.ref (He.ga K n)) = some true)))))
theorem cutB_ok {K : PySem.W.Frag} {h : Heap} {mg : Str → Option Value} (X : K.In h) (G : h.Ns mainGlobals mg) {n : Str} (e : cutB n K = true) : CutF K mg n := by
  unfold cutB at e
  simp only [Bool.and_eq_true, decide_eq_true_eq] at e
  obtain ⟨h1, h2, h3, h4, h5, h6⟩ := e
  exact ⟨PySem.W.mg_of X G h1, h2, h3, h4, h5, h6⟩
theorem ds_raiseC {X : Cx} {W : WX} {x z : Str} {j : Nat} {p p2 ps pos : Pos} (R : CutF X.K X.mg x) (hc : X.calm = true) (tk : Takes X W) (hg : Gl X x := by rfl) (hdb : (x == ("__debug__" : Str)) = false := by decide) :
    DS X W (.Raise (some (.Call (.Name x p) [.Constant (.str z) j p2] [] ps)) none pos) (sRaise x) :=
  ds_raise hc tk PySem.F.excBase_Exception R.h1 R.g R.h2 (raises_own R.h3 R.h4) hg hdb
def suiteN (r : SR) : SR := match r with
  | .next ρ2 S2 => .next ρ2 S2
  | .ret y S2 => .ret y S2
  | _ => .stuck
/-- try: body except x: suite else: orelse; the body raises x alone -/
def sTryE (x : Str) (body suite orelse : CS) : CS := fun ρ S => match body ρ S with
  | .exc c none ρ' S' => if c = x then suiteN (suite ρ' S') else .stuck
  | .exc _ (some _) _ _ => .stuck
  | .next ρ' S' => orelse ρ' S'
  | r => r
section
variable {X : Cx} {W : WX} {x : Str} {body suite orelse : List Stmt} {b₀ : Stmt} {np pos pos' : Pos} {cb cs co : CS}
theorem ds_tryE (C : CutF X.K X.mg x) (hs : X.stack = X.env :: X.outer) (hf : X.env.frame = some X.env.locals) (tk : Takes X W) (ho : DSs X W orelse co)
    (hb : ∀ (W : WX) (pn : List (Addr × Obj)) (xe : Value → Shared → Prop), Takes (X.tr pn xe) W → PassesOwn (model X.prog X.w) X.A X.env xe → DSs (X.tr pn xe) W body cb)
    (hsu : ∀ (a : Addr) (oe : Obj) (pn : List (Addr × Obj)), DSs (X.suite a ((a, oe) :: pn)) W0 (b₀ :: suite) cs)
    (hg : Gl X x := by rfl) (hd : (x == ("__debug__" : Str)) = false := by decide) :
    DS X W (.Try body [.ExceptHandler (some (.Name x np)) none (b₀ :: suite) pos'] orelse [] pos) (sTryE x cb cs co) := by
  refine ps_imp (ps_try_onlyE (c := .ref (He.ga X.K x)) (Wout := W) (tb := fun W => rdS X.K X.mg W cb) (ts := fun a cls d => fun D σ H => rdS X.K X.mg W0 cs D σ H) ho hs hf ⟨hg, hd, .inl C.g⟩ tk hb (fun a oe cls d pn hz hfl => hsu a oe pn)) fun D σ H h => ?_
  obtain ⟨m, S, ρ, at_, fin⟩ := h
  refine ⟨m, S, ρ, at_, ?_⟩
  unfold sTryE at fin
  cases q : cb ρ S with
  | next ρ' S' =>
    rw [q] at fin
    intro m' H' σ' e l a'
    exact ⟨m', S', ρ', a', FinS.from fin e l⟩
  | ret y S' => rw [q] at fin; exact fin
  | brk ρ' S' => rw [q] at fin; exact fin
  | cont ρ' S' => rw [q] at fin; exact fin
  | stuck => rw [q] at fin; exact fin
  | exc c p ρ' S' =>
    rw [q] at fin
    cases p with
    | some p => exact fin.elim
    | none =>
      simp only at fin
      by_cases hc : c = x
      · rw [if_pos hc] at fin
        subst hc
        intro m' H' σ' d e l a' xr
        have xr' : d = none := xr
        subst xr'
        rw [ca_of C.g]
        refine ⟨true, C.ex, fun _ a na => ⟨m', S', ρ', a', ?_⟩, fun z => nomatch z⟩
        cases qs : cs ρ' S' with
        | next ρ2 S2 =>
          rw [qs] at fin
          intro m2 H2 σ2 e2 l2 a2
          exact fin m2 H2 σ2 (e.trans e2 l) (Nat.le_trans l l2) a2
        | ret y S2 =>
          rw [qs] at fin
          intro m2 H2 v e2 l2 r2 x2
          exact fin m2 H2 v (e.trans e2 l) (Nat.le_trans l l2) r2 x2
        | _ => rw [qs] at fin; exact fin.elim
      · rw [if_neg hc] at fin
        exact fin.elim
end
/-! ### defs with defaults -/
/-- a def whose last parameters, dfl, aren't written -/
def DefOkX (P : Program) (w : World) (K : PySem.W.Frag) (mg : Str → Option Value) (base : Heap) (k : Nat) (x : Str) (ps : List Str) (F : DF) (dfl : List PV) (dvs : List V) : Prop :=
  ∃ fd ds, FnOk P w K mg base (L2.CX P w) k (He.ga K x) fd ps (spF K mg ps.length F) ∧ (Vals dvs ds ∧ Binds K fd ps ds) ∧ mg x = some (.ref (He.ga K x)) ∧ PySem.W.keepIn K (.ref (He.ga K x)) = true ∧ ∀ (n : Nat) (m : Mp) (H : Hp), bnds n dfl = true ∧ Rps K m H dfl dvs
noncomputable def eCallX (n : Nat) (f : DF) (dfl : List PV) (cs : CE (List PV)) : CE PV := fun ρ S => (cs ρ S).bind fun xs S1 => if (xs ++ dfl).length = n then gc S1 (f (xs ++ dfl) S1) else .stuck
section
variable {X : Cx} {W : WX} {x : Str} {p pos : Pos} {e : Expr} {es : List Expr} {cs : CE (List PV)} {k : Nat} {ps : List Str} {F : DF} {dfl : List PV} {dvs : List V}
theorem de_callX (tk : Takes X W) (G : DefOkX X.prog X.w X.K X.mg X.base k x ps F dfl dvs) (hr : Room k X.A) (ha : DA X W (e :: es) cs) (hg : Gl X x := by rfl) (hdb : (x == ("__debug__" : Str)) = false := by decide)
    (he : starEach (e :: es) X.env = (false, eval e X.env) :: starEach es X.env := by rfl) (hpl : (backTo pos (starEach es X.env)).any (·.1) = false := by rfl) : DE X W (.Call (.Name x p) (e :: es) [] pos) (eCallX ps.length F dfl cs) := by
  obtain ⟨fd, ds, h1, ⟨hv, hb⟩, hm, hk, hd⟩ := G
  refine pe_imp (pe_callSD h1 hr hg hm hk hb hv (fun σ => passAt tk σ) ha hdb he hpl) fun σ H Q h => ?_
  obtain ⟨m, S, ρ, at_, fin⟩ := h
  refine ⟨m, S, ρ, at_, (Fin.bind at_ fin).mono fun vs H1 h1 => ?_⟩
  obtain ⟨m1, S1, xs, at1, r1, e1, l1, f1⟩ := h1
  dsimp only at f1
  by_cases hn : (xs ++ dfl).length = ps.length
  · rw [if_pos hn] at f1
    obtain ⟨d1, d2⟩ := hd S1.length m1 H1
    have rr : RL X.K S1.length m1 H1 (xs ++ dfl) (vs ++ dvs) := ⟨bnds_append.mpr ⟨r1.1, d1⟩, Rps.append r1.2 d2⟩
    exact ⟨m1, S1, xs ++ dfl, at1.rel, rr, by rw [rr.2.length]; exact hn, (f1.gc at1.rel).chg fun _ _ _ h => h⟩
  · rw [if_neg hn] at f1
    exact f1.elim
end
theorem fnOk_mkV {P : Program} {w : World} {K : PySem.W.Frag} {mg : Str → Option Value} {base : Heap} {k : Nat} {x qual : Str} {params : Arguments} {body : List Stmt} {scope : Scope} {fd : FuncData} {N ps : List Str} {b : CS} {dvs : List V} {kws : List (Str × V)}
    (F : FunD K x qual params body scope dvs kws (He.ga K x) fd) (S : FnScope N ps scope)
    (h : ∀ (cdv : Value) (A : Around) (outer : List Env) (s : Shared) (H : Hp) (E : XK), Room k (A.deeper (envOfC qual scope s.heap.objs.size (He.ga K x) cdv)) → DSs (cxD P w K mg base N qual scope (He.ga K x) cdv A outer s H E) (wD E) body b) :
    FnOk P w K mg base (L2.CX P w) (k + 1) (He.ga K x) fd ps (spF K mg ps.length (runD N.length b)) := by
  refine F.ok S (fun vs H Q E h => ?_) (fun cdv A outer s H vs Q E hr hsp => ⟨_, h cdv A outer s H E hr, ?_⟩)
  · obtain ⟨m, S, xs, _, _, l, _⟩ := h
    exact l
  · obtain ⟨m, S, xs, rel, rx, l, fin⟩ := hsp
    refine ⟨m, S, startP N.length xs, ⟨rel, start_ok rx.1 rx.2⟩, ?_⟩
    unfold runD at fin
    cases q : b (startP N.length xs) S with
    | ret y S' => rw [q] at fin; exact fun m' H' v e l r x => fin m' H' v e l r x
    | next ρ' S' => rw [q] at fin; exact fun m' H' σ' e l a => fin m' H' .non e l a.rel ⟨rfl, rfl⟩
    | exc c p ρ' S' => rw [q] at fin; exact fun m' H' σ' d e l a x => fin m' H' d e l a.rel x
    | brk ρ' S' => rw [q] at fin; exact fin.elim
    | cont ρ' S' => rw [q] at fin; exact fin.elim
    | stuck => rw [q] at fin; exact fin.elim
/-- one default, an int -/
theorem Vals.nil_of {K : List Value} (h : Vals [] K) : K = [] := by
  have := h.length
  exact List.length_eq_zero_iff.mp this.symm
theorem defOk_mkV {P : Program} {w : World} {K : PySem.W.Frag} {mg : Str → Option Value} {base : Heap} {k : Nat} {x qual : Str} {params : Arguments} {body : List Stmt} {scope : Scope} {fd : FuncData} {N ps : List Str} {b : CS} {dvs : List V} {kws : List (Str × V)} {dfl : List PV}
    (F : FunD K x qual params body scope dvs kws (He.ga K x) fd) (S : FnScope N ps scope) (hd : dvs ≠ []) (hn : dvs.length ≤ ps.length)
    (hb : ∀ (j : Nat), (j = 0 ∨ j = dvs.length) → ∀ (T : Addr) (kV doc pm : Value) (an : Option Addr) (cdv ct : Value) (us its : List Value), us.length = ps.length - (dvs.length - j) → its.length = dvs.length →
      ∃ k, bindArgs (PySem.W.fnOf x qual params body scope (.ref T) kV doc pm an cdv ct) ⟨us, []⟩ = seqItems? (.ref T) >>= k ∧ k (some its.toArray) = pure (ps.zip (us ++ its.drop j)))
    (hr : ∀ (n : Nat) (m : Mp) (H : Hp), bnds n dfl = true ∧ Rps K m H dfl dvs)
    (hm : mg x = some (.ref (He.ga K x)))
    (h : ∀ (cdv : Value) (A : Around) (outer : List Env) (s : Shared) (H : Hp) (E : XK), Room k (A.deeper (envOfC qual scope s.heap.objs.size (He.ga K x) cdv)) → DSs (cxD P w K mg base N qual scope (He.ga K x) cdv A outer s H E) (wD E) body b) :
    DefOk P w K mg base (k + 1) x ps (runD N.length b) ∧ DefOkX P w K mg base (k + 1) x ps (runD N.length b) dfl dvs := by
  have G := fnOk_mkV F S h
  obtain ⟨d1, v1, b1⟩ := F.binds1 (ps.length - (dvs.length - dvs.length)) dvs.length hd (by omega) (hb dvs.length (.inr rfl))
  obtain ⟨d0, v0, b0⟩ := F.binds1 (ps.length - (dvs.length - 0)) 0 hd (by omega) (hb 0 (.inl rfl))
  rw [List.drop_length] at v1
  have e1 := Vals.nil_of v1
  subst e1
  rw [List.drop_zero] at v0
  exact ⟨⟨fd, G, b1, hm, F.kp⟩, ⟨fd, d0, G, ⟨v0, b0⟩, hm, F.kp, hr⟩⟩
@[simp] theorem eCallX_ap (n : Nat) (f : DF) (dfl : List PV) (cs : CE (List PV)) (ρ : Sl) (S : Store) : eCallX n f dfl cs ρ S = (cs ρ S).bind fun xs S1 => if (xs ++ dfl).length = n then gc S1 (f (xs ++ dfl) S1) else .stuck := rfl
end TL

set_option Elab.async false
set_option linter.all false
set_option maxRecDepth 100000
set_option maxHeartbeats 2000000
/-! TN20: comprehensions whose elements may raise. -/
namespace TL
open PySem PySem.Spec PyProof.Rows L2
section
variable {M : Model} {A : Around} {E : Value → Shared → Prop} {s : Shared} {env : Env}
/-- behind a comprehension's block, its names at cenv.locals -/
def compPostE (M : Model) (A : Around) (E : Value → Shared → Prop) (use : Option (Value → Sem Unit)) (Q : Value → Shared → Prop) (acc : Value) (cenv : Env) (r : Result) (s' : Shared) : Prop :=
  match r with
  | .ok _ => (match use with
    | none => ∃ m, s'.heap.Ns cenv.locals m ∧ ∀ h', Heap.SameBut cenv.locals s'.heap h' → Q acc { s' with heap := h' }
    | some u => wpAny M A (u acc) (fun _ s'' => ∃ m, s''.heap.Ns cenv.locals m ∧ ∀ h', Heap.SameBut cenv.locals s''.heap h' → Q .none { s'' with heap := h' }) E s')
  | .error x => ∃ m, s'.heap.Ns cenv.locals m ∧ ∀ h', Heap.SameBut cenv.locals s'.heap h' → wpAny M A (passOn "comprehension.variables-let-go" x cenv : Sem Value) (fun _ _ => False) E { s' with heap := h' }
theorem wpAny_comprehension_freeE {e : Expr} {scope : Scope} {pos : Pos} {newAcc first : Sem Value} {g : Comprehension} {gs : List Comprehension} {cl : List (Str × Addr)} {use : Option (Value → Sem Unit)}
    {Q : Value → Shared → Prop}
    (hcl : clausesOf e = g :: gs) (hs : ∀ x, foldedSetIterable g.iter env x = pure x) (hclos : closureFor scope env = pure cl)
    (hkind : scope.kind = .function) (hnames : ∀ x ∈ scope.names, x.2 = .local → scope.names.lookup x.1 = some .local)
    (h : wpAny M A first (fun x s₁ => wpAny M A (pyIter x) (fun it s₂ => wpAny M A newAcc (fun acc s₃ =>
      wpAny M A (newFunctionEnv scope env.globals cl [] env.qual none .none (some env)) (fun cenv s₄ =>
        codeAny M A (.compStart e 0 it acc { cenv with scope := relabel scope env }) (compPostE M A E use Q acc { cenv with scope := relabel scope env }) s₄) E s₃) E s₂) E s₁) E s) :
    wpAny M A (comprehension e scope env pos newAcc false first use) Q E s := by
  unfold comprehension
  rw [hclos, hcl]
  refine wpAny_bind (wpAny_mono h (fun x s₁ h₁ => wpAny_bind (wpAny_standAt (wpAny_bind (wpAny_of_eq (hs x) (wpAny_bind (wpAny_holding (wpAny_mono h₁ (fun it s₂ h₂ =>
    wpAny_standIf (wpAny_bind (wpAny_mono h₂ (fun acc s₃ h₃ => wpAny_bind (wpAny_pure (wpAny_bind (wpAny_mono h₃ (fun cenv s₄ h₄ => ?_) fun _ _ h' => h')))) fun _ _ h' => h')))
      fun _ _ h' => h'))))))) fun _ _ h' => h')
  dsimp only
  have hv : ∀ x ∈ (scope.names.filter fun x => (x.2 == .local || x.2 == .cell) && x.1 != (".0" : Str)).reverse, x.2 = .local →
      Env.kindOf { cenv with scope := relabel scope env } x.1 = some .local := fun x hx hl => lookup_relabel_local (hnames x (List.mem_filter.mp (List.mem_reverse.mp hx)).1 hl)
  have hv' : ∀ x ∈ (scope.names.filter fun x => (x.2 == .local || x.2 == .cell) && x.1 != (".0" : Str)).reverse.drop 1 ++ (scope.names.filter fun x => (x.2 == .local || x.2 == .cell) && x.1 != (".0" : Str)).reverse.take 1,
      x.2 = .local → Env.kindOf { cenv with scope := relabel scope env } x.1 = some .local := fun x hx hl => by
    rcases List.mem_append.mp hx with h1 | h1
    · exact hv x (List.mem_of_mem_drop h1) hl
    · exact hv x (List.mem_of_mem_take h1) hl
  refine wpAny_holding (wpAny_bind (wpAny_attempt (wpAny_holding (wpAny_run (codeAny_mono h₄ fun r s' hr => ?_)))))
  cases r with
  | ok f =>
    cases use with
    | none =>
      obtain ⟨m, hn, hr⟩ := hr
      exact wpAny_bind (wpAny_holding (wpAny_comp_letGo (cenv := { cenv with scope := relabel scope env }) hkind _ s' m hv hn fun h' m' _ hs' => wpAny_pure (hr h' hs')))
    | some u =>
      refine wpAny_bind (wpAny_rule (wpAny_bind (wpAny_holding (wpAny_mono hr (fun _ s'' hr' => ?_) fun _ _ h' => h'))))
      obtain ⟨m, hn, hr'⟩ := hr'
      exact wpAny_bind (wpAny_comp_letGo (cenv := { cenv with scope := relabel scope env }) hkind _ s'' m hv' hn fun h' m' _ hs' => wpAny_pure (hr' h' hs'))
  | error x =>
    obtain ⟨m, hn, hr⟩ := hr
    exact wpAny_bind (wpAny_holding (wpAny_comp_letGo (cenv := { cenv with scope := relabel scope env }) hkind _ s' m hv hn fun h' m' _ hs' => wpAny_mono (hr h' hs') (fun _ _ f => f.elim) fun _ _ y => y))
end
theorem noteFrame_congr {env env' : Env} (h : env.frame = env'.frame) (e : Value) : noteFrame e env = noteFrame e env' := by
  unfold noteFrame PySem.frameOf
  rw [h]
section
variable {M : Model} {A : Around} {E : Value → Shared → Prop} {s : Shared} {Z : Obj → Prop} {base : Heap} {env : Env} {outer : List Env} {L C e : Addr}
/-- noted elsewhere, now here -/
theorem looks_otherZ {Q : Unit → Shared → Prop} (hZ : HandSPX.Steady Z) (hfr : A.frames = some (env :: outer)) (hf : env.frame = some L) (hne : C ≠ L) (hfl : HandSPX.HeldZ base (env :: outer) e Z C s.heap)
    (hQ : ∀ h', HandSPX.HeldZ base (env :: outer) e Z L h' → s.heap.UpToSlots h' → Q () { s with heap := h' }) : wpAny M A (noteFrame (.ref e) env) Q E s := by
  obtain ⟨hkb, hen, hl, oe, vs, T, oT, ts, he, hz, hd, h1, hnT, hTe, hT, hdT, h3⟩ := hfl
  unfold noteFrame
  simp only [hf]
  refine wpAny_bind (wpAny_field he hd h1 ?_)
  rw [if_pos (show (Value.ref T != Value.none) = true from by simp)]
  refine wpAny_bind (wpAny_field hT hdT h3 ?_)
  rw [if_neg (show ¬ ((rawInt C == rawInt L) = true) from by simp [rawInt]; exact fun z => hne (Int.ofNat.inj z))]
  refine wpAny_bind (wpAny_setField hT hdT (Array.getElem?_eq_some_iff.mp h3).1 ?_)
  have other : ∀ b, b ≠ T → (s.heap.update T (Obj.mapFields (·.setIfInBounds 3 Value.none))).get? b = s.heap.get? b := fun b hb => Heap.get?_update_other _ _ (Ne.symm hb)
  have noRecord : ∀ b o, s.heap.get? b = some o → (∀ vs, o.data ≠ .fields vs) → b ≠ T := fun b o hb hnf q => by
    rw [q, hT] at hb; injection hb with hb; subst hb; exact hnf ts hdT
  refine HandSPX.wpAny_entryZ hZ hfr (hl.of_keeps fun b o hb hnf => ⟨o, (other b (noRecord b o hb hnf)).trans hb, rfl⟩) hf ((other e (Ne.symm hTe)).trans he)
    (fun b o hbo => (other b fun q => by rw [q, hnT] at hbo; cases hbo).trans (hkb b o hbo)) hen hd (Array.getElem?_eq_some_iff.mp h1).1 hz fun h' hN => ?_
  obtain ⟨x1, x2, x3, x4⟩ := hN
  exact hQ h' ⟨x1, hen, x2, x3⟩ fun b o hb hnf => x4 b o ((other b (noRecord b o hb hnf)).trans hb) hnf
end

section
variable {X : Cx}
theorem Ns_up {h h' : Heap} {C : Addr} {m : Str → Option Value} (hn : h.Ns C m) (u : h.UpToSlots h') : h'.Ns C m := by
  obtain ⟨o, es, ep, ho, hd, sk, f⟩ := hn
  obtain ⟨sl, e⟩ := u C o ho (fun vs z => by rw [hd] at z; cases z)
  exact ⟨_, es, ep, e, hd, sk, f⟩
theorem FunFrames_hide {h h' B G : Heap} {C : Addr} : ∀ {l : List Env}, h.FunFrames B l → (∀ b, B.get? b = none → G.get? b = none) → (∀ b, b ≠ C → h'.get? b = h.get? b) → C ∉ frs l → h'.FunFrames G l
  | [], _, _, _, _ => trivial
  | env :: rest, ⟨hk, ⟨L, o, hf, hb, hg, hd⟩, r⟩, g, k, n => by
    have hL : L ≠ C := fun z => n (List.mem_filterMap.mpr ⟨env, List.mem_cons_self, by rw [hf, z]⟩)
    exact ⟨hk, ⟨L, o, hf, g L hb, (k L hL).trans hg, hd⟩, FunFrames_hide r g k fun hm => by
      obtain ⟨e, he, q⟩ := List.mem_filterMap.mp hm
      exact n (List.mem_filterMap.mpr ⟨e, List.mem_cons_of_mem _ he, q⟩)⟩
/-- an exception of the block goes on -/
theorem blk_air {pins : List (Addr × Obj)} {σ : L2.St} {H3 : Hp} {s3 : Shared} {fp : List Addr} {scope : Scope} {ce : Env} {pn : List (Addr × Obj)} {xe : Value → Shared → Prop} {W : WX} {use : Option (Value → Sem Unit)} {Qf : Value → Shared → Prop} {acc : Value}
    (hs : X.stack = X.env :: X.outer) (hf : X.env.frame = some X.env.locals) (tk : Takes X W) (I3 : Inv X pins σ H3 s3) (okb : (X.blk s3 H3 scope ce fp).Ok) (f3 : ∀ b ∈ fp, FpOk X pins H3 b ∧ b < s3.heap.objs.size)
    (hcf : ce.frame = X.env.frame) (hcl : ce.locals = s3.heap.objs.size) {u : Value} {s' : Shared} (x : XE ((X.blk s3 H3 scope ce fp).tr pn xe) (fun cls d _ H => W cls d σ H) u s') :
    notedBy (model X.prog X.w) X.A ce (fun e s' => compPostE (model X.prog X.w) X.A X.xe use Qf acc ce (.error e) s') u s' := by
  obtain ⟨a, B, sI, pins', σ', H', cls, d, rfl, J', nb, up, sky, na, os, ag, w⟩ := x
  have J := J'
  have I7 : Inv X pins σ H' sI := I3.call' (ch := fp) J.os J.base J.hok J.bare fun b hb => ⟨(f3 b hb).1.2.2.2.1, (f3 b hb).1.2.1, (f3 b hb).1.2.2.2.2.1, (f3 b hb).1.2.2.2.2.2⟩
  have hfr : X.A.frames = some (X.env :: X.outer) := by rw [I3.ok.frames, hs]
  have nC : H' s3.heap.objs.size = none := by
    have z : H' ce.locals = none := J.free
    rw [hcl] at z
    exact z
  obtain ⟨m, hn, _⟩ := J.loc
  have hn : sI.heap.Ns ce.locals m := hn
  have fC : FpOk X pins H' ce.locals := by rw [hcl]; exact I3.fpOk (Nat.le_refl _) nC
  have sky : Sky B X.stack a (Zc cls d) ce.locals s'.heap := sky
  rw [hs] at sky
  have nfr : ce.locals ∉ frs (X.env :: X.outer) := fun hm => by
    rcases List.mem_filterMap.mp hm with ⟨e, he, q⟩
    rcases List.mem_cons.mp he with rfl | he
    · rw [hf] at q
      exact fC.2.1 (Option.some.inj q).symm
    · exact fC.2.2.1 (List.mem_filterMap.mpr ⟨e, he, q⟩)
  have fin : ∀ h1, HandSPX.HeldZ B (X.env :: X.outer) a (Zc cls d) X.env.locals h1 → s'.heap.UpToSlots h1 → compPostE (model X.prog X.w) X.A X.xe use Qf acc ce (.error (.ref a)) { s' with heap := h1 } := by
    intro h1 hh up1
    have hn1 : h1.Ns ce.locals m := Ns_up (Ns_up hn up) up1
    refine ⟨m, hn1, fun h' sb => ?_⟩
    obtain ⟨k1, k2, k3, oe, vs, T, oT, ts, he, hz, hd, hv1, hnT, hTe, hT, hdT, ht3⟩ := hh
    have cNot : ∀ b o vs, h1.get? b = some o → o.data = .fields vs → b ≠ ce.locals := fun b o vs e q z => by
      obtain ⟨o', es, ep, ho, hd, _⟩ := hn1
      rw [z] at e
      have ho : h1.get? ce.locals = some o' := ho
      rw [e] at ho
      cases ho
      rw [q] at hd
      cases hd
    have na' : a ≠ ce.locals := cNot a oe vs he hd
    have nT' : T ≠ ce.locals := cNot T oT ts hT hdT
    have keep : ∀ b, b ≠ ce.locals → h'.get? b = h1.get? b := fun b hb => sb.2 b hb
    obtain ⟨G, g1, g2⟩ := restrict B fun b => decide (b ≠ ce.locals)
    obtain ⟨G0, g3, g4⟩ := restrict sI.heap fun b => decide (b ≠ ce.locals)
    have gB : ∀ b o, G.get? b = some o → b ≠ ce.locals ∧ B.get? b = some o := fun b o e => by
      by_cases z : b = ce.locals
      · rw [g2 b (by simp [z])] at e; cases e
      · rw [g1 b (by simp [z])] at e
        exact ⟨z, e⟩
    have g0 : ∀ b o, G0.get? b = some o → b ≠ ce.locals ∧ sI.heap.get? b = some o := fun b o e => by
      by_cases z : b = ce.locals
      · rw [g4 b (by simp [z])] at e; cases e
      · rw [g3 b (by simp [z])] at e
        exact ⟨z, e⟩
    have gn : ∀ b, B.get? b = none → G.get? b = none := fun b e => by
      cases q : G.get? b with
      | none => rfl
      | some o => rw [(gB b o q).2] at e; cases e
    have held : HandSPX.HeldZ G (X.env :: X.outer) a (Zc cls d) X.env.locals h' := by
      refine ⟨fun b o e => ?_, gn a k2, ?_, oe, vs, T, oT, ts, (keep a na').trans he, hz, hd, hv1, gn T hnT, hTe, (keep T nT').trans hT, hdT, ht3⟩
      · obtain ⟨z, q⟩ := gB b o e
        rw [keep b z]
        exact k1 b o q
      · exact FunFrames_hide k3 gn keep nfr
    have I8 : Inv X pins σ H' { sI with heap := G0, toks := sI.toks } := by
      obtain ⟨f0, f1, f2, f4, f5, f6⟩ := fC
      exact I7.turned (t' := sI.toks) (fun b o hb e => by rw [g3 b (by simp [hb])]; exact e) f0 f1 f4 f5 f6
    have he' : h'.get? a = some oe := (keep a na').trans he
    unfold PySem.passOn
    refine wpAny_bind (wpAny_field he' hd hv1 ?_)
    rw [if_neg (show ¬ ((Value.ref T == Value.none) = true) from by simp)]
    have fin2 : wpAny (model X.prog X.w) X.A (setFlight (.ref a) ce.frame) (fun _ s4 => wpAny (model X.prog X.w) X.A (throw (.ref a) : Sem Value) (fun _ _ => False) X.xe s4) X.xe { s' with heap := h' } := by
      rw [hcf, hf]
      refine HandSPX.setFlight_onZ held fun h4 hh4 up4 => wpAny_throw (tk _ _ ?_)
      refine ⟨a, G, { sI with heap := G0, toks := sI.toks }, pins, σ, H', cls, d, rfl, I8, fun b o e hb => ?_, fun b o e hnf => ?_, .inr (.inr (by rw [hs]; exact hh4)), na, os, ag, w⟩
      · obtain ⟨z, q⟩ := g0 b o e
        rw [g1 b (by simp [z])]
        exact nb b o q hb
      · obtain ⟨z, q⟩ := g0 b o e
        obtain ⟨sl, q1⟩ := up b o q hnf
        obtain ⟨sl2, q2⟩ := up1 b _ q1 hnf
        rw [← keep b z] at q2
        obtain ⟨sl3, q3⟩ := up4 b _ q2 hnf
        exact ⟨sl3, q3⟩
    first
      | exact wpAny_bind (wpAny_pure (wpAny_bind fin2))
      | exact wpAny_bind fin2
  show wpAny (model X.prog X.w) X.A (noteFrame (.ref a) ce) _ _ s'
  rw [noteFrame_congr hcf]
  rcases sky with ⟨hB, hn', hl, oe, vs, he, hz, hd, h1⟩ | fl | hh
  · exact HandSPX.look_newZ Zc.steady hfr hl hf he hB hn' hd h1 hz fin
  · exact HandSPX.looks_onZ Zc.steady hfr hf fl fin
  · exact looks_otherZ Zc.steady hfr hf fC.2.1 hh fin
/-- [elt for ..], the element may raise -/
theorem lc_coreE {pins : List (Addr × Obj)} {s : Shared} {σ : L2.St} {H : Hp} {Q : VK} {elt tg iter : Expr} {ifs : List Expr} {scope : Scope} {own : List (Str × Nat)} {pos pos' : Pos} {wi : TI} {g : TG} {tt : TT} {te : WX → TE} {use : Option (Value → Sem Unit)} {Qf : Value → Shared → Prop} {W : WX}
    (hst : X.stack = X.env :: X.outer) (hfL : X.env.frame = some X.env.locals) (tk : Takes X W)
    (hc : X.calm = true) (hN : X.N.Nodup) (I : Inv X pins σ H s) (hi : PI X tg iter wi) (ok : BlkOk X.N X.env.scope scope own)
    (hg : ∀ (s : Shared) (H : Hp) (C : Addr) (cl : List (Str × Addr)) (fp : List Addr), PG (X.blk s H scope (compEnvC scope cl C X.env) fp) tg g) (ht : ∀ (s : Shared) (H : Hp) (C : Addr) (cl : List (Str × Addr)) (fp : List Addr), PTs (X.blk s H scope (compEnvC scope cl C X.env) fp) ifs tt)
    (he : ∀ (s : Shared) (H : Hp) (C : Addr) (cl : List (Str × Addr)) (fp : List Addr) (W : WX) (pn : List (Addr × Obj)) (xe : Value → Shared → Prop), Takes ((X.blk s H scope (compEnvC scope cl C X.env) fp).tr pn xe) W → PE ((X.blk s H scope (compEnvC scope cl C X.env) fp).tr pn xe) elt (te W)) (hs : ∀ x, foldedSetIterable iter X.env x = pure x)
    (h : tLc wi g tt (te fun cls d _ H => W cls d σ H) (own.map (·.2)) σ H Q)
    (hRR : ∀ D (ce : Env) s' m H', Inv X pins σ H' s' → Q (.ref D) H' → s'.heap.Ns ce.locals m → FpOk X pins H' ce.locals → compPostE (model X.prog X.w) X.A X.xe use Qf (.ref D) ce (.ok .next) s') :
    wpAny (model X.prog X.w) X.A (comprehension (.ListComp elt [⟨tg, iter, ifs, 0⟩] scope pos) scope X.env pos' (newList []) false (eval iter X.env) use) Qf X.xe s := by
  have hfree : ∀ y ∈ scope.names, y.2 = .free → ∃ c, X.env.cells.lookup y.1 = some c := fun y hy e => by
    rcases ok.free y hy e with k | k
    · exact I.ok.has _ (.inl k)
    · exact I.ok.has _ (.inr k)
  refine wpAny_comprehension_freeE (use := use) rfl hs (closure_ok hfree) ok.kind (fun y hy e => by rw [ok.uniq y hy, e])
    (thn (hi.run pins s σ H _ I h) fun xv s1 hx => thn hx fun itv s2 h2 => ?_)
  obtain ⟨it, fp, tn, J, H2, e, I2, T, st2, f2, q⟩ := h2
  subst e
  refine wpAny_newObj_type (newEnv_comp ?_) (by show 0 ≤ sizeLine; decide)
  generalize hD : s2.heap.objs.size = D
  have hDn : H2 D = none := I2.hok.fresh (Nat.le_of_eq hD)
  obtain ⟨Wn, ⟨m0, w0⟩, turn⟩ := q D hDn
  -- the new list
  generalize hs3 : ({ s2 with heap := s2.heap.push { cls := .type "list", data := .seq ([] : List Value).toArray } } : Shared) = s3
  have I3 : Inv X pins σ (upd H2 D (.lst [])) s3 := by
    rw [← hs3]
    refine I2.laid (t' := s2.toks) (fun b o e => Heap.get?_push_of_some _ e) (Nat.le_of_eq hD) ⟨Nat.zero_le _, [], 0, .nil, ?_⟩
    rw [← hD]
    exact Heap.get?_push_size _ rfl
  have h3 : s3.heap = s2.heap.push { cls := .type "list", data := .seq ([] : List Value).toArray } := by rw [← hs3]
  have sz : ∀ b ∈ fp, b < s2.heap.objs.size := fun b hb => by
    obtain ⟨o, e, _⟩ := T.obj _ _ st2 b hb
    exact Heap.lt_size e
  have f3 : ∀ b ∈ fp, FpOk X pins (upd H2 D (.lst [])) b ∧ b < s3.heap.objs.size := fun b hb => by
    have hlt := sz b hb
    refine ⟨⟨?_, (f2 b hb).2⟩, by rw [h3, Heap.size_push]; exact Nat.lt_succ_of_lt hlt⟩
    rw [upd_ne (by rw [← hD]; exact Nat.ne_of_lt hlt)]
    exact (f2 b hb).1
  have st3 : tn 0 s3.heap := T.keep _ _ _ st2 fun b _ o e => by rw [h3]; exact Heap.get?_push_of_some _ e
  have I4 := block_start I3 ok hN f3
  have pg := hg s3 (upd H2 D (.lst [])) s3.heap.objs.size (cellsFrom (s3.heap.objs.size + 1) scope.names (cloFrom X.env.cells scope.names [])) fp
  have pt := ht s3 (upd H2 D (.lst [])) s3.heap.objs.size (cellsFrom (s3.heap.objs.size + 1) scope.names (cloFrom X.env.cells scope.names [])) fp
  have pe := he s3 (upd H2 D (.lst [])) s3.heap.objs.size (cellsFrom (s3.heap.objs.size + 1) scope.names (cloFrom X.env.cells scope.names [])) fp
  show codeAny _ _ (.compStart (.ListComp elt [⟨tg, iter, ifs, 0⟩] scope pos) 0 (.ref it) (.ref D) (compEnvC scope (cellsFrom (s3.heap.objs.size + 1) scope.names (cloFrom X.env.cells scope.names [])) s3.heap.objs.size X.env)) (compPostE (model X.prog X.w) X.A X.xe use Qf (.ref D) (compEnvC scope (cellsFrom (s3.heap.objs.size + 1) scope.names (cloFrom X.env.cells scope.names [])) s3.heap.objs.size X.env)) { s3 with heap := pushCells (s3.heap.push { cls := .type "dict", data := .dict #[] }) scope.names }
  have nfp : ∀ b ∈ fp, (upd H2 D (.lst [])) b = none := fun b hb => (f3 b hb).1.1
  generalize hce : compEnvC scope (cellsFrom (s3.heap.objs.size + 1) scope.names (cloFrom X.env.cells scope.names [])) s3.heap.objs.size X.env = ce at I4 pg pt pe ⊢
  have cL : ce.locals = s3.heap.objs.size := by subst hce; rfl
  have cF : ce.frame = X.env.frame := by subst hce; rfl
  generalize hH3 : upd H2 D (.lst []) = H3 at I3 I4 pg pt pe w0 nfp f3
  generalize hs4 : ({ s3 with heap := pushCells (s3.heap.push { cls := .type "dict", data := .dict #[] }) scope.names } : Shared) = s4 at I4 ⊢
  have st4 : tn 0 s4.heap := T.keep _ _ _ st3 fun b _ o e => by rw [← hs4]; exact pushCells_keeps _ _ _ _ (Heap.get?_push_of_some _ e)
  have stat : ∀ {σ' : L2.St} {H' : Hp} {s' : Shared}, Inv (X.blk s3 H3 scope ce fp) [] σ' H' s' → (∀ b ∈ fp, H' b = none) → ∀ b ∈ fp, FpOk (X.blk s3 H3 scope ce fp) [] H' b := fun {σ' H' s'} I' hn b hb =>
    ⟨hn b hb, (I'.ok.exf b hb).1, I'.ok.exfs b hb, .inl hb, fun x c e => (I'.ok.exf b hb).2 x c e, fun p hp => absurd (show p ∈ ([] : List (Addr × Obj)) ++ [] from hp) (by simp)⟩
  have loop : codeAny (model X.prog X.w) X.A (.compLoop (.ListComp elt [⟨tg, iter, ifs, 0⟩] scope pos) 0 (.ref it) (.ref D) ce) (compPostE (model X.prog X.w) X.A X.xe use Qf (.ref D) ce) s4 := by
    refine compLoop_any (fun n s' => ∃ i H', Inv (X.blk s3 H3 scope ce fp) [] (wipe σ (own.map (·.2))) H' s' ∧ tn i s'.heap ∧ (∀ b ∈ fp, H' b = none) ∧ Wn i n H') ?_ m0 ⟨0, H3, I4, st4, nfp, w0⟩
    rintro n s5 ⟨i, H5, I5, st5, n5, w5⟩
    rcases turn i n H5 w5 with ⟨stop, qq⟩ | ⟨go, Nx, hNx, step⟩
    · have td := T.done (X.blk s3 H3 scope ce fp) rfl rfl rfl hc i [] s5 _ H5 (fun _ _ => False) I5 (stat I5 n5) st5 stop
      refine thnF td fun r s6 ⟨hr, I6⟩ => ?_
      subst hr
      -- back in the def's context
      have I7 : Inv X pins σ H5 s6 := I3.call' (ch := fp) I6.os I6.base I6.hok I6.bare fun b hb => ⟨(f3 b hb).1.2.2.2.1, (f3 b hb).1.2.1, (f3 b hb).1.2.2.2.2.1, (f3 b hb).1.2.2.2.2.2⟩
      have nC : H5 s3.heap.objs.size = none := by
        have z : H5 ce.locals = none := I6.free
        rw [cL] at z
        exact z
      obtain ⟨m, hn, _⟩ := I6.loc
      have hn : s6.heap.Ns ce.locals m := hn
      exact hRR D ce s6 m H5 I7 qq hn (by rw [cL]; exact I3.fpOk (Nat.le_refl _) nC)
    · have ti := T.item (X.blk s3 H3 scope ce fp) rfl rfl rfl hc i [] s5 _ H5 (fun _ _ => False) I5 (stat I5 n5) st5 go
      refine thnF ti fun r s6 ⟨u, hr, h6⟩ => ?_
      subst hr
      refine thnF h6 fun _ s7 ⟨x, H7, I7, r7, y7, st7, n7⟩ => ?_
      have I7' := I7.pinned (stat I7 n7) (T.obj _ _ st7)
      refine thnF (pg.run _ s7 _ H7 x u _ I7' r7 (step x H7 y7)) fun _ s8 ⟨σ8, H8, I8, hw8, q8⟩ => ?_
      refine thnF (pt.run _ s8 σ8 H8 _ I8 q8) fun b s9 ⟨H9, I9, q9⟩ => ?_
      -- the turn's end
      have fin : ∀ {s' : Shared} {H' : Hp}, Inv (X.blk s3 H3 scope ce fp) ([] ++ pinsAt fp s7.heap) σ8 H' s' → Nx H' → ∃ m, m < n ∧ ∃ i H', Inv (X.blk s3 H3 scope ce fp) [] (wipe σ (own.map (·.2))) H' s' ∧ tn i s'.heap ∧ (∀ b ∈ fp, H' b = none) ∧ Wn i m H' := fun {s' H'} I' nx => by
        obtain ⟨m', hm, w'⟩ := hNx H' nx
        have pin' : ∀ b ∈ fp, ∀ o, s7.heap.get? b = some o → s'.heap.get? b = some o ∧ H' b = none := fun b hb o e =>
          let z := I'.pin (b, o) (List.mem_append_right _ (List.mem_append_right _ (mem_pinsAt hb e)))
          ⟨z.1, z.2.1⟩
        have hl : (wipe σ (own.map (·.2))).length = σ8.length := by rw [← hw8, wipe_length]
        refine ⟨m', hm, i + 1, H', (I'.unpinned (pins := [])).weak hl (fun j v e => ?_), T.keep _ _ _ st7 fun b hb o e => (pin' b hb o e).1, fun b hb => ?_, w'⟩
        · rw [← hw8] at e
          exact (wipe_some e).1
        · obtain ⟨o, e, _⟩ := T.obj _ _ st7 b hb
          exact (pin' b hb o e).2
      cases b with
      | false =>
        simp only [Bool.false_eq_true, if_false] at q9 ⊢
        exact fin I9 q9
      | true =>
        simp only [if_true] at q9 ⊢
        have ob : (X.blk s3 H3 scope ce fp).Ok := I9.ok
        refine wpAny_mono ((pe (fun cls d _ H => W cls d σ H) ((X.blk s3 H3 scope ce fp).pn ++ ([] ++ pinsAt fp s7.heap)) (notedBy (model X.prog X.w) X.A ce fun e s' => compPostE (model X.prog X.w) X.A X.xe use Qf (.ref D) ce (.error e) s') (fun u s' x => blk_air hst hfL tk I3 ob f3 cF cL x)).run [] s9 σ8 H9 _ (I9.toTry _) q9) (fun z s10 hz => ?_) (fun u s' hx => hx)
        obtain ⟨yv, H10, I10', r10, acc, hD10, hz10, nx⟩ := hz
        have I10 := I10'.ofTry ob
        exact app_ok (X := X.blk s3 H3 scope ce fp) I10 hD10 hz10 r10 fun s11 I11 => fin I11 nx
  exact codeAny_compStart_list loop (T.self X.A 0 _ _ _ st4 loop)

/-- as a value -/
theorem pe_lcE {elt tg iter : Expr} {ifs : List Expr} {scope : Scope} {own : List (Str × Nat)} {pos : Pos} {wi : TI} {g : TG} {tt : TT} {te : WX → TE} {W : WX} (hst : X.stack = X.env :: X.outer) (hfL : X.env.frame = some X.env.locals) (tk : Takes X W)
    (hc : X.calm = true) (hN : X.N.Nodup) (hi : PI X tg iter wi) (ok : BlkOk X.N X.env.scope scope own)
    (hg : ∀ (s : Shared) (H : Hp) (C : Addr) (cl : List (Str × Addr)) (fp : List Addr), PG (X.blk s H scope (compEnvC scope cl C X.env) fp) tg g) (ht : ∀ (s : Shared) (H : Hp) (C : Addr) (cl : List (Str × Addr)) (fp : List Addr), PTs (X.blk s H scope (compEnvC scope cl C X.env) fp) ifs tt)
    (he : ∀ (s : Shared) (H : Hp) (C : Addr) (cl : List (Str × Addr)) (fp : List Addr) (W : WX) (pn : List (Addr × Obj)) (xe : Value → Shared → Prop), Takes ((X.blk s H scope (compEnvC scope cl C X.env) fp).tr pn xe) W → PE ((X.blk s H scope (compEnvC scope cl C X.env) fp).tr pn xe) elt (te W)) (hs : ∀ x, foldedSetIterable iter X.env x = pure x := by intro _; rfl) :
    PE X (.ListComp elt [⟨tg, iter, ifs, 0⟩] scope pos) (fun σ H Q => tLc wi g tt (te fun cls d _ H => W cls d σ H) (own.map (·.2)) σ H Q) := by
  refine ⟨fun pins s σ H Q I h => ?_⟩
  rw [eval_ListComp]
  refine lc_coreE hst hfL tk hc hN I hi ok hg ht he hs h fun D ce s' m H' I' q hn f => ⟨m, hn, fun h'' sb => ?_⟩
  obtain ⟨f0, f1, f2, f3, f4, f5⟩ := f
  exact ⟨.ref D, H', I'.turned (t' := s'.toks) (fun b o hb e => (sb.2 b hb).trans e) f0 f1 f3 f4 f5, rfl, q⟩
theorem ps_setLcE {i : Nat} {y : Str} {py : Pos} {elt tg iter : Expr} {ifs : List Expr} {scope : Scope} {own : List (Str × Nat)} {pos spos : Pos} {wi : TI} {g : TG} {tt : TT} {te : WX → TE} {W : WX} (hst : X.stack = X.env :: X.outer) (hfL : X.env.frame = some X.env.locals) (tk : Takes X W)
    (hc : X.calm = true) (hN : X.N.Nodup) (hy : X.N[i]? = some y) (hyl : X.env.scope.names.lookup y = some .local)
    (hsw : swapsWith (.ListComp elt [⟨tg, iter, ifs, 0⟩] scope pos) (some (.Name y py)) spos.line X.env = pure true) (hi : PI X tg iter wi) (ok : BlkOk X.N X.env.scope scope own)
    (hg : ∀ (s : Shared) (H : Hp) (C : Addr) (cl : List (Str × Addr)) (fp : List Addr), PG (X.blk s H scope (compEnvC scope cl C X.env) fp) tg g) (ht : ∀ (s : Shared) (H : Hp) (C : Addr) (cl : List (Str × Addr)) (fp : List Addr), PTs (X.blk s H scope (compEnvC scope cl C X.env) fp) ifs tt)
    (he : ∀ (s : Shared) (H : Hp) (C : Addr) (cl : List (Str × Addr)) (fp : List Addr) (W : WX) (pn : List (Addr × Obj)) (xe : Value → Shared → Prop), Takes ((X.blk s H scope (compEnvC scope cl C X.env) fp).tr pn xe) W → PE ((X.blk s H scope (compEnvC scope cl C X.env) fp).tr pn xe) elt (te W)) (hs : ∀ x, foldedSetIterable iter X.env x = pure x := by intro _; rfl) :
    PS X (.Assign [.Name y py] (.ListComp elt [⟨tg, iter, ifs, 0⟩] scope pos) spos) (tAsg (fun σ H Q => tLc wi g tt (te fun cls d _ H => W cls d σ H) (own.map (·.2)) σ H Q) (gName i)) := by
  refine ⟨fun pins s σ H D I h => ?_⟩
  rw [exec_Assign_Name_used _ _ _ _ hsw]
  refine wpAny_bind (wpAny_standAt (wpAny_bind ?_))
  show wpAny _ X.A (do let _ ← comprehension (.ListComp elt [⟨tg, iter, ifs, 0⟩] scope pos) scope X.env (firstIterPos [⟨tg, iter, ifs, 0⟩] pos) (newList []) false (eval iter X.env) (some (assign (.Name y py) X.env))) _ _ s
  have h : tLc wi g tt (te fun cls d _ H => W cls d σ H) (own.map (·.2)) σ H (fun x H1 => gName i x σ H1 D.nx) := h
  refine wpAny_bind (thn (lc_coreE (Qf := fun _ s' => SP X pins D .next s') hst hfL tk hc hN I hi ok hg ht he hs h fun L ce s' m H' I' q hn f => ?_) fun _ s' hq => wpAny_pure (wpAny_pure hq))
  show wpAny _ _ (assign (.Name y py) X.env (.ref L)) _ _ _
  refine wpAny_assign_Name (store_ok2 (v := V.ref L) I' hN hy (.inl hyl) rfl (fun s2 I2 ⟨a, sb, ha⟩ => ?_) (.inr hyl))
  obtain ⟨f0, f1, f2, f3, f4, f5⟩ := f
  have haC : ce.locals ≠ a := by
    rcases ha with z | z
    · rw [z]; exact f1
    · exact fun e => f4 y a z e.symm
  refine ⟨m, hn.sameBut sb haC, fun h3 sb3 => ?_⟩
  exact ⟨_, H', I2.turned (t' := s2.toks) (fun b o hb e => (sb3.2 b hb).trans e) f0 f1 f3 f4 f5, q⟩
end
open Classical in
noncomputable def lcNX (t : TT') (tt : CE Bool) (te : CE PV) (ck : Chk) (d : Nat) (ρ : Sl) : List PV → Store → Res PV
  | [] => fun S => if chk ck S then .ok (.obj d) S else .stuck
  | x :: xs => fun S => if chk ck S then match setT t x ρ with
    | none => .stuck
    | some ρ1 => match tt ρ1 S with
      | .ok q S1 => if q = true then match te ρ1 S1 with
        | .ok y S2 => match S2[d]? with
          | some (.lst acc) => if acc.length < sizeLine then lcNX t tt te ck d ρ xs (S2.set d (.lst (acc ++ [y]))) else .stuck
          | _ => .stuck
        | .exc c p S2 => .exc c p S2
        | .stuck => .stuck
        else lcNX t tt te ck d ρ xs S1
      | _ => .stuck
    else .stuck
/-- [te for t in i if tt], te may raise -/
noncomputable def eLcX (t : TT') (i : CE (List PV × Chk)) (tt : CE Bool) (te : CE PV) (vs : List Nat) : CE PV := fun ρ S => (i ρ S).bind fun p S1 => lcNX t tt te p.2 S1.length (wipeP ρ vs) p.1 (S1 ++ [.lst []])
open Classical in
theorem rd_lcE {K : PySem.W.Frag} {mg : Str → Option Value} {W : WX} {t : TT'} {i : CE (List PV × Chk)} {tt : CE Bool} {te : CE PV} {vs : List Nat} (hv : ∀ j ∈ ixT t, j ∈ vs) (σ : L2.St) (H : Hp) (Q : VK) (h : rdE K mg W (eLcX t i tt te vs) σ H Q) :
    tLc (rdI K mg W i) (gTg K t) (rdT K mg W0 tt) (rdE K mg (fun cls d _ H => W cls d σ H) te) vs σ H Q := by
  obtain ⟨m, S, ρ, at_, fin⟩ := h
  refine ⟨m, S, ρ, at_, (Fin.bind at_ fin).mono fun J H1 h1 => ?_⟩
  obtain ⟨m1, S1, ⟨all, ck⟩, at1, r1, e1, l1, f1⟩ := h1
  have r1' : ItR K mg J all ck S1.length m1 H1 := r1
  intro D hD
  have relD : Rel K mg (mNew m1 S1.length D) (S1 ++ [.lst []]) (upd H1 D (.lst [])) := at1.rel.newO hD rfl ⟨[], upd_same, rfl⟩
  have extD : Ext K S1.length m1 H1 (mNew m1 S1.length D) (upd H1 D (.lst [])) := ext_new hD fun i hi => mNew_lt hi
  have lenD : (S1 ++ [PO.lst []]).length = S1.length + 1 := by rw [List.length_append]; rfl
  refine ⟨fun j k H => ∃ m S, Rel K mg m S H ∧ Ext K S1.length m1 H1 m H ∧ S1.length + 1 ≤ S.length ∧ m S1.length = D ∧ j + k = all.length ∧ Fin K mg W σ m S H (RV K) Q (lcNX t tt te ck S1.length (wipeP ρ vs) (all.drop j) S), ⟨all.length, _, _, relD, extD, by omega, mNew_at, by omega, Fin.from f1 extD (by omega)⟩, ?_⟩
  rintro j k H ⟨m, S, rel, ex, le, eD, hk, fin⟩
  by_cases hj : j < all.length
  · have ed : all.drop j = all[j] :: all.drop (j + 1) := List.drop_eq_getElem_cons hj
    rw [ed] at fin
    unfold lcNX at fin
    by_cases hck : chk ck S
    · rw [if_pos hck] at fin
      refine .inr ⟨r1'.go j m S H ex (by omega) rel hck hj, fun H' => ∃ m S, Rel K mg m S H' ∧ Ext K S1.length m1 H1 m H' ∧ S1.length + 1 ≤ S.length ∧ m S1.length = D ∧ Fin K mg W σ m S H' (RV K) Q (lcNX t tt te ck S1.length (wipeP ρ vs) (all.drop (j + 1)) S), fun H' n => ?_, fun v H' y => ?_⟩
      · obtain ⟨m', S', a', ex', le', eD', f'⟩ := n
        exact ⟨k - 1, by omega, m', S', a', ex', le', eD', by omega, f'⟩
      · obtain ⟨x, ex1, e2, r2, rx, _⟩ := r1'.yld j m S H v H' ex (by omega) rel hck hj y
        have exj : all[j] = x := by
          rw [List.getElem?_eq_getElem hj] at ex1
          exact Option.some.inj ex1
        rw [exj] at fin
        cases q : setT t x (wipeP ρ vs) with
        | none => rw [q] at fin; exact fin.elim
        | some ρ1 =>
          rw [q] at fin
          simp only at fin
          have ex2 : Ext K S1.length m1 H1 m H' := ex.trans e2 (by omega)
          have env0 : EnvR K S.length m H' (wipeP ρ vs) (wipe σ vs) := (at1.env.wipe vs).ext ex2 (by omega)
          refine gTg_ok env0 rx q fun σ2 env2 hw => ⟨?_, ?_⟩
          · have := hw vs hv
            rw [this, wipe_idem]
          · have fin0 : Fin K mg W σ m S H' (RV K) Q (match tt ρ1 S with
              | .ok q S1' => if q = true then match te ρ1 S1' with
                | .ok y S2 => match S2[S1.length]? with
                  | some (.lst acc) => if acc.length < sizeLine then lcNX t tt te ck S1.length (wipeP ρ vs) (all.drop (j + 1)) (S2.set S1.length (.lst (acc ++ [y]))) else .stuck
                  | _ => .stuck
                | .exc c p S2 => .exc c p S2
                | .stuck => .stuck
                else lcNX t tt te ck S1.length (wipeP ρ vs) (all.drop (j + 1)) S1'
              | _ => .stuck) := Fin.from fin e2 (Nat.le_refl _)
            refine ⟨m, S, ρ1, ⟨r2, env2⟩, ?_⟩
            cases et : tt ρ1 S with
            | stuck => rw [et] at fin0; exact fin0.elim
            | exc c p S' => rw [et] at fin0; exact fin0.elim
            | ok b S3 =>
              rw [et] at fin0
              intro m3 H3 b' e3 l3 rel3 rb
              have rb' : b = b' := rb
              subst rb'
              simp only at fin0
              have ex3 : Ext K S1.length m1 H1 m3 H3 := ex2.trans e3 (by omega)
              have eD3 : m3 S1.length = D := (e3.mi _ (by omega)).trans eD
              cases b with
              | false =>
                rw [if_neg Bool.false_ne_true] at fin0
                rw [if_neg Bool.false_ne_true]
                exact ⟨m3, S3, rel3, ex3, by omega, eD3, Fin.from fin0 e3 l3⟩
              | true =>
                rw [if_pos rfl] at fin0
                rw [if_pos rfl]
                refine ⟨m3, S3, ρ1, ⟨rel3, env2.ext e3 l3⟩, ?_⟩
                cases ey : te ρ1 S3 with
                | stuck => rw [ey] at fin0; exact fin0.elim
                | exc c p S' =>
                  rw [ey] at fin0
                  have f5 := Fin.from fin0 e3 l3
                  exact fun m4 H4 d e4 l4 r4 x4 => f5 m4 H4 d e4 l4 r4 x4
                | ok y S4 =>
                  rw [ey] at fin0
                  intro m4 H4 w e4 l4 rel4 rw4
                  simp only at fin0
                  have ex4 : Ext K S1.length m1 H1 m4 H4 := ex3.trans e4 (by omega)
                  have eD4 : m4 S1.length = D := (e4.mi _ (by omega)).trans eD3
                  cases ea : S4[S1.length]? with
                  | none => simp only [ea] at fin0; exact fin0.elim
                  | some o =>
                    simp only [ea] at fin0
                    cases o with
                    | lst acc =>
                      simp only at fin0
                      by_cases hz : acc.length < sizeLine
                      · rw [if_pos hz] at fin0
                        obtain ⟨b5, us, h5, r5⟩ := rel4.lst ea
                        rw [eD4] at h5
                        have hi4 : S1.length < S4.length := by omega
                        have bb : bnds S4.length (acc ++ [y]) = true := bnds_append.mpr ⟨b5, Bool.and_eq_true_iff.mpr ⟨rw4.1, rfl⟩⟩
                        have ew := rel4.ext_write (u := .lst (us ++ [w])) ea (fun _ z => by cases z)
                        have rel5 := rel4.write (u := .lst (us ++ [w])) (o := .lst (acc ++ [y])) ea (fun _ z => by cases z) bb ⟨_, upd_same, (r5.append (Rps.one rw4.2)).ext ew _ _ bb⟩
                        rw [eD4] at rel5 ew
                        refine ⟨us, h5, by rw [r5.length]; exact hz, m4, _, rel5, ex4.trans ew (by omega), by rw [List.length_set]; omega, eD4, Fin.from fin0 ((e3.trans e4 (by omega)).trans ew (by omega)) (by rw [List.length_set]; omega)⟩
                      · rw [if_neg hz] at fin0
                        exact fin0.elim
                    | _ => exact fin0.elim
    · rw [if_neg hck] at fin
      exact fin.elim
  · have ej : j = all.length := by omega
    subst ej
    rw [List.drop_length] at fin
    unfold lcNX at fin
    by_cases hck : chk ck S
    · rw [if_pos hck] at fin
      refine .inl ⟨r1'.stop m S H ex (by omega) rel hck, fin.here rel ⟨decide_eq_true (by omega), ?_⟩⟩
      show V.ref D = V.ref (m S1.length)
      rw [eD]
    · rw [if_neg hck] at fin
      exact fin.elim

section
variable {X : Cx} {W : WX} {elt tg iter : Expr} {ifs : List Expr} {scope : Scope} {pos : Pos} {t : TT'} {i : CE (List PV × Chk)} {tt : CE Bool} {te : CE PV}
theorem de_lcE (own : List (Str × Nat)) (hst : X.stack = X.env :: X.outer) (hfL : X.env.frame = some X.env.locals) (tk : Takes X W) (hc : X.calm = true) (hN : X.N.Nodup) (hi : DI X W tg iter i) (ok : BlkOk X.N X.env.scope scope own)
    (hg : ∀ (s : Shared) (H : Hp) (C : Addr) (cl : List (Str × Addr)) (fp : List Addr), DG (X.blk s H scope (compEnvC scope cl C X.env) fp) tg t)
    (ht : ∀ (s : Shared) (H : Hp) (C : Addr) (cl : List (Str × Addr)) (fp : List Addr), DTs (X.blk s H scope (compEnvC scope cl C X.env) fp) W0 ifs tt)
    (he : ∀ (s : Shared) (H : Hp) (C : Addr) (cl : List (Str × Addr)) (fp : List Addr) (W : WX) (pn : List (Addr × Obj)) (xe : Value → Shared → Prop), Takes ((X.blk s H scope (compEnvC scope cl C X.env) fp).tr pn xe) W → DE ((X.blk s H scope (compEnvC scope cl C X.env) fp).tr pn xe) W elt te)
    (hv : ∀ j ∈ ixT t, j ∈ own.map (·.2) := by decide) (hs : ∀ x, foldedSetIterable iter X.env x = pure x := by intro _; rfl) : DE X W (.ListComp elt [⟨tg, iter, ifs, 0⟩] scope pos) (eLcX t i tt te (own.map (·.2))) :=
  pe_imp (pe_lcE (te := fun W => rdE X.K X.mg W te) hst hfL tk hc hN hi ok hg ht he hs) (rd_lcE hv)
theorem ds_setLcE (k : Nat) (own : List (Str × Nat)) {y : Str} {py spos : Pos} (hst : X.stack = X.env :: X.outer) (hfL : X.env.frame = some X.env.locals) (tk : Takes X W) (hc : X.calm = true) (hN : X.N.Nodup) (hi : DI X W tg iter i) (ok : BlkOk X.N X.env.scope scope own)
    (hg : ∀ (s : Shared) (H : Hp) (C : Addr) (cl : List (Str × Addr)) (fp : List Addr), DG (X.blk s H scope (compEnvC scope cl C X.env) fp) tg t)
    (ht : ∀ (s : Shared) (H : Hp) (C : Addr) (cl : List (Str × Addr)) (fp : List Addr), DTs (X.blk s H scope (compEnvC scope cl C X.env) fp) W0 ifs tt)
    (he : ∀ (s : Shared) (H : Hp) (C : Addr) (cl : List (Str × Addr)) (fp : List Addr) (W : WX) (pn : List (Addr × Obj)) (xe : Value → Shared → Prop), Takes ((X.blk s H scope (compEnvC scope cl C X.env) fp).tr pn xe) W → DE ((X.blk s H scope (compEnvC scope cl C X.env) fp).tr pn xe) W elt te)
    (hy : X.N[k]? = some y := by rfl) (hyl : X.env.scope.names.lookup y = some .local := by rfl)
    (hsw : swapsWith (.ListComp elt [⟨tg, iter, ifs, 0⟩] scope pos) (some (.Name y py)) spos.line X.env = pure true := by exact sw_true rfl rfl rfl (by decide +kernel))
    (hv : ∀ j ∈ ixT t, j ∈ own.map (·.2) := by decide) (hs : ∀ x, foldedSetIterable iter X.env x = pure x := by intro _; rfl) : DS X W (.Assign [.Name y py] (.ListComp elt [⟨tg, iter, ifs, 0⟩] scope pos) spos) (sSet k (eLcX t i tt te (own.map (·.2)))) :=
  ps_imp (ps_setLcE (te := fun W => rdE X.K X.mg W te) hst hfL tk hc hN hy hyl hsw hi ok hg ht he hs) fun D σ H h => by
    obtain ⟨m, S, ρ, at_, fin⟩ := h
    have q := rd_lcE (W := W) (tt := tt) (te := te) (i := i) hv σ H (fun x H1 => gName k x σ H1 D.nx) ⟨m, S, ρ, at_, (FinS.bind at_ fin).mono fun v H1 h1 => by
      obtain ⟨m1, S1, y, at1, r1, e1, l1, f1⟩ := h1
      exact f1.nx_here ⟨at1.rel, at1.env.set r1.1 r1.2⟩⟩
    exact q
end
end TL

set_option Elab.async false
set_option linter.all false
set_option maxRecDepth 100000
set_option maxHeartbeats 1000000
/-! TN21: reversed(range(n)); a or b, whatever a is. -/
namespace TL
open PySem PySem.Spec PyProof.Rows L2
def iRevRange (c : CE PV) : CE (List PV × Chk) := fun ρ S => (c ρ S).bind fun x S1 => match x with
  | .int j => if 0 ≤ j ∧ j < 2 ^ 62 then .ok (rngC (j - 1) (-1) j.toNat, []) S1 else .stuck
  | _ => .stuck
@[simp] theorem iRevRange_ap (c : CE PV) (ρ : Sl) (S : Store) : iRevRange c ρ S = (c ρ S).bind fun x S1 => match x with
  | .int j => if 0 ≤ j ∧ j < 2 ^ 62 then .ok (rngC (j - 1) (-1) j.toNat, []) S1 else .stuck
  | _ => .stuck := rfl
theorem rngC_rev (n : Nat) : rngC ((n : Int) - 1) (-1) n = ((List.range n).reverse).map fun k : Nat => PV.int (k : Int) := by
  unfold rngC
  apply List.ext_getElem?
  intro i
  rw [List.getElem?_map, List.getElem?_map]
  by_cases h : i < n
  · rw [List.getElem?_range h, List.getElem?_reverse (by rw [List.length_range]; exact h), List.length_range, List.getElem?_range (by omega)]
    show some (PV.int _) = some (PV.int _)
    congr 2
    omega
  · rw [List.getElem?_eq_none_iff.mpr (by rw [List.length_range]; omega), List.getElem?_eq_none_iff.mpr (by rw [List.length_reverse, List.length_range]; omega)]
    rfl
section
variable {X : Cx} {W : WX} {pos p p2 pos2 : Pos} {tg a : Expr} {ca : CE PV}
theorem di_revRange (hm : X.mg "reversed" = none) (hm2 : X.mg "range" = none) (ha : DE X W a ca) (hg : Gl X "reversed" := by rfl) (hg2 : Gl X "range" := by rfl) (hs2 : starEach [a] X.env = (false, eval a X.env) :: starEach [] X.env := by rfl)
    (hs : starEach [.Call (.Name "range" p2) [a] [] pos2] X.env = (false, eval (.Call (.Name "range" p2) [a] [] pos2) X.env) :: starEach [] X.env := by rfl) :
    DI X W tg (.Call (.Name "reversed" p) [.Call (.Name "range" p2) [a] [] pos2] [] pos) (iRevRange ca) := by
  refine pi_imp (pi_revR hg hm (prg_1 hg2 hm2 ha hs2) hs) fun σ H R h => ?_
  obtain ⟨m, S, ρ, at_, fin⟩ := h
  refine ⟨m, S, ρ, at_, (Fin.bind at_ fin).mono fun v H1 h1 => ?_⟩
  obtain ⟨m1, S1, x, at1, r1, e1, l1, f1⟩ := h1
  cases x with
  | int j =>
    have ev : v = .int j := r1.2
    subst ev
    simp only at f1
    by_cases q : 0 ≤ j ∧ j < 2 ^ 62
    · rw [if_pos q] at f1
      refine ⟨j, rfl, by omega, by omega, by omega, q.2, ?_⟩
      have z := itR_rngC (K := X.K) (mg := X.mg) (m := m1) (S := S1) (H := H1) (lo := j - 1) (c := -1) (n := j.toNat)
      have e : (0 : Int) + (((j - 0).toNat : Nat) : Int) - 1 = j - 1 := by omega
      have e2 : (j - 0).toNat = j.toNat := by omega
      rw [e, e2]
      exact f1.here at1.rel z
    · rw [if_neg q] at f1
      exact f1.elim
  | _ => exact f1.elim
end
/-! ### a or b as values, by the truth of a -/
section
variable {X : Cx} {W : WX} {pos : Pos} {a b : Expr} {rest : List Expr} {ca cb : CE PV} {ta tb : TE}
theorem pe_orV (ha : PE X a ta) (hb : PE X (.BoolOp .Or (b :: rest) pos) tb) : PE X (.BoolOp .Or (a :: b :: rest) pos) (fun σ H Q => ta σ H fun x H1 => ∃ k, TruV X.K x H1 k ∧ if k = true then Q x H1 else tb σ H1 Q) := by
  refine ⟨fun pins s σ H Q I h => ?_⟩
  refine BoolOp_or (thn (ha.run pins s σ H _ I h) fun v s1 ⟨x, H1, I1, r1, q1⟩ => ?_)
  refine thn (tru_ok pins s1 σ H1 x v (fun k H' => if k = true then Q x H' else tb σ H' Q) I1 r1 q1) fun c s2 ⟨H2, I2, q2⟩ => ?_
  cases c with
  | false => exact hb.run pins s2 σ H2 Q I2 q2
  | true => exact ⟨x, H2, I2, r1, q2⟩
def eOrV (ca cb : CE PV) : CE PV := fun ρ S => (ca ρ S).bind fun x S1 => match truV x S1 with
  | some k => if k = true then .ok x S1 else cb ρ S1
  | none => .stuck
@[simp] theorem eOrV_ap (ca cb : CE PV) (ρ : Sl) (S : Store) : eOrV ca cb ρ S = (ca ρ S).bind fun x S1 => match truV x S1 with
  | some k => if k = true then .ok x S1 else cb ρ S1
  | none => .stuck := rfl
theorem de_orV (ha : DE X W a ca) (hb : DE X W (.BoolOp .Or (b :: rest) pos) cb) : DE X W (.BoolOp .Or (a :: b :: rest) pos) (eOrV ca cb) := by
  refine pe_imp (pe_orV ha hb) fun σ H Q h => ?_
  obtain ⟨m, S, ρ, at_, fin⟩ := h
  refine ⟨m, S, ρ, at_, (Fin.bind at_ fin).mono fun v H1 h1 => ?_⟩
  obtain ⟨m1, S1, x, at1, r1, e1, l1, f1⟩ := h1
  dsimp only at f1
  cases e : truV x S1 with
  | none => rw [e] at f1; exact f1.elim
  | some k =>
    rw [e] at f1
    dsimp only at f1
    refine ⟨k, tru_of at1.rel r1 e, ?_⟩
    cases k with
    | true =>
      rw [if_pos rfl] at f1 ⊢
      exact f1.here at1.rel r1
    | false =>
      rw [if_neg Bool.false_ne_true] at f1 ⊢
      exact ⟨m1, S1, ρ, at1, f1⟩
end
end TL

set_option Elab.async false
set_option linter.all false
set_option maxRecDepth 100000
set_option maxHeartbeats 1000000
/-! TN22: x[::-1], x a tuple. -/
namespace HT
open PySem PySem.Spec PyProof.Rows
section
variable {prog : Program} {w : World} {A : Around} {E : Value → Shared → Prop} {s : Shared}
theorem adjust_rev (n : Nat) : Builtin.Slice.sliceAdjust none none (-1) (n : Int) = ((n : Int) - 1, -1) := by
  unfold Builtin.Slice.sliceAdjust
  simp
theorem places_rev (n : Nat) : Builtin.Slice.slicePlaces ((n : Int) - 1) (-1) (-1) = n := by
  unfold Builtin.Slice.slicePlaces
  simp
  try omega
theorem sliceApplied_rev {sl : Addr} {vl vu vs : Value} {n : Nat} {Q : Int × Int × Nat → Shared → Prop} (hs : s.heap.IsSliceOf sl vl vu vs) (pl : IsPart vl none) (pu : IsPart vu none) (ps : IsPart vs (some (-1)))
    (h : Q ((n : Int) - 1, -1, n) s) : wpAny (model prog w) A (Builtin.Slice.sliceApplied (.ref sl) (pure (n : Int))) Q E s := by
  obtain ⟨os, hos, hcs, hds⟩ := id hs
  unfold Builtin.Slice.sliceApplied Builtin.Slice.sliceFields
  refine wpAny_bind (wpAny_bind (wpAny_field hos hds (x := vl) rfl (wpAny_bind (wpAny_field hos hds (x := vu) rfl (wpAny_bind (wpAny_field hos hds (x := vs) rfl (wpAny_pure ?_)))))))
  refine wpAny_bind (slicePart_ ps ?_)
  show wpAny _ _ (if ((-1 : Int) == 0) = true then _ else _) _ _ s
  rw [if_neg (by decide)]
  refine wpAny_bind (slicePart_ pl (wpAny_bind (slicePart_ pu (wpAny_bind (wpAny_pure ?_)))))
  show wpAny _ _ (match Builtin.Slice.sliceAdjust none none (-1) (n : Int) with | (lo, hi) => pure (lo, (-1 : Int), Builtin.Slice.slicePlaces lo hi (-1))) _ _ s
  rw [adjust_rev n]
  show wpAny _ _ (pure ((n : Int) - 1, (-1 : Int), Builtin.Slice.slicePlaces ((n : Int) - 1) (-1) (-1))) _ _ s
  rw [places_rev]
  exact wpAny_pure h
theorem rng_rev (n : Nat) : (List.range n).reverse = (List.range n).map fun k => n - 1 - k := by
  apply List.ext_getElem
  · simp
  · intro i h1 h2
    simp
theorem fm_all {α : Type} (xs : List α) : (List.range xs.length).filterMap (xs[·]?) = xs := by
  have h : ∀ n, n ≤ xs.length → (List.range n).filterMap (xs[·]?) = xs.take n := by
    intro n
    induction n with
    | zero => intro _; rfl
    | succ n ih =>
      intro hn
      rw [List.range_succ, List.filterMap_append, ih (by omega), List.take_add_one]
      congr 1
  rw [h xs.length (Nat.le_refl _), List.take_length]
theorem fm_congr {f g : Nat → Option Value} : ∀ {l : List Nat}, (∀ m ∈ l, f m = g m) → l.filterMap f = l.filterMap g
  | [], _ => rfl
  | x :: l, h => by
    rw [List.filterMap_cons, List.filterMap_cons, h x (List.mem_cons_self ..), fm_congr fun m hm => h m (List.mem_cons_of_mem _ hm)]
theorem pick_back (xs : Array Value) : ((List.range xs.size).filterMap fun (m : Nat) => xs[((xs.size : Int) - 1 + (m : Int) * (-1)).toNat]?) = xs.toList.reverse := by
  have e : ((List.range xs.size).filterMap fun (m : Nat) => xs[((xs.size : Int) - 1 + (m : Int) * (-1)).toNat]?) = ((List.range xs.toList.length).reverse).filterMap (xs.toList[·]?) := by
    rw [rng_rev, List.filterMap_map]
    show (List.range xs.size).filterMap _ = (List.range xs.toList.length).filterMap _
    rw [Array.length_toList]
    refine fm_congr fun m hm => ?_
    have hm' := List.mem_range.mp hm
    have : ((xs.size : Int) - 1 + (m : Int) * (-1)).toNat = xs.size - 1 - m := by omega
    rw [this]
    show _ = xs.toList[xs.size - 1 - m]?
    rw [Array.getElem?_toList]
  rw [e, List.filterMap_reverse, fm_all]
theorem getItem_tuple_rev {t sl : Addr} {items : Array Value} {vl vu vs : Value} {Q : Value → Shared → Prop} (ht : IsTup s.heap t items) (hs : s.heap.IsSliceOf sl vl vu vs) (pl : IsPart vl none) (pu : IsPart vu none) (ps : IsPart vs (some (-1)))
    (h : Q (.ref s.heap.objs.size) { s with heap := s.heap.push { cls := .type "tuple", data := .seq items.toList.reverse.toArray } })
    (hsz : items.size ≤ sizeLine) : wpAny (model prog w) A (getItem (.ref t) (.ref sl)) Q E s := by
  have htake : sizeOk (.seq items.toList.reverse.toArray) := by
    show items.toList.reverse.toArray.size ≤ sizeLine
    rw [List.size_toArray, List.length_reverse, Array.length_toList]
    exact hsz
  obtain ⟨os, hos, hcs, hds⟩ := id hs
  have hTs : s.TypeIs (.ref sl) "slice" := ⟨os, hos, hcs⟩
  unfold getItem
  try with_reducible refine wpAny_holding ?_
  first | refine wpAny_bind (wpAny_pure ?_) | skip
  refine wpAny_bind (wpAny_sequenceKey ht.typeIs (by decide) ?_)
  refine wpAny_bind (wpAny_callSpecial?_slot (name := Str.ofString "__getitem__") ht.typeIs PyProof.Rows.slot_tuple_getitem
    (wpAny_call_entry PyProof.Rows.slot_tuple_getitem ht.typeIs entry_tuple_getitem ?_ (args_tuple_getitem _ _)))
  show wpAny _ _ (Builtin.Tuple.tupleItemsOf (.ref t) >>= _) _ _ s
  refine wpAny_bind (tupleItemsOf_ ht ?_)
  refine wpAny_bind (wpAny_typeOf hTs ?_)
  rw [if_pos (by decide)]
  refine wpAny_bind (sliceApplied_rev hs pl pu ps ?_)
  have hno : ¬ ((((items.size : Int) - 1) == 0 && (-1 : Int) == 1 && items.size == items.size) = true) := by
    intro q
    rw [Bool.and_eq_true, Bool.and_eq_true] at q
    exact absurd q.1.2 (by decide)
  show wpAny _ _ (if (((items.size : Int) - 1) == 0 && (-1 : Int) == 1 && items.size == items.size) = true then _ else _) _ _ s
  rw [if_neg hno, pick_back]
  first
    | exact wpAny_bind (m := Builtin.Tuple.tupleExact _) (wpAny_newObj_type (wpAny_pure ⟨_, rfl, wpAny_pure h⟩) htake)
    | exact wpAny_bind (m := Builtin.Tuple.tupleExact _) (wpAny_newObj_type (wpAny_bind (wpAny_pure (wpAny_pure ⟨_, rfl, wpAny_pure h⟩))) htake)
    | exact wpAny_bind (wpAny_bind (m := Builtin.Tuple.tupleExact _) (wpAny_newObj_type (wpAny_pure (wpAny_pure ⟨_, rfl, wpAny_pure h⟩)) htake))
    | exact wpAny_bind (wpAny_bind (m := Builtin.Tuple.tupleExact _) (wpAny_newObj_type (wpAny_pure ⟨_, rfl, wpAny_pure h⟩) htake))
end
end HT
namespace TL
open PySem PySem.Spec PyProof.Rows L2
def tRevT (K : PySem.W.Frag) (te : TE) : TE := fun σ H Q => te σ H fun x H1 => ∃ a xs, x = .ref a ∧ SqT K H1 a xs ∧ ∀ p, H1 p = none → Q (.ref p) (upd H1 p (.tup xs.reverse))
theorem pe_revT {X : Cx} {pos : Pos} {e : Expr} {te : TE} {k : Nat} {p1 p2 p3 : Pos} (he : PE X e te) : PE X (.Subscript e (.Slice none none (some (.UnaryOp .USub (.Constant (.int 1) k p1) p2)) p3) pos) (tRevT X.K te) := by
  refine ⟨fun pins s σ H Q I h => ?_⟩
  refine Subscript_ (thn (he.run pins s σ H _ I h) fun v s1 ⟨x, H1, I1, r1, q1⟩ => ?_)
  obtain ⟨a, xs, ex, hx, q⟩ := q1
  subst ex
  cases r1
  have hst : L2.PO X (some (.UnaryOp .USub (.Constant (.int 1) k p1) p2)) (tPart (tUn (rU fun i => .int (-i)) (tC (.int 1)))) := po_some (pe_un un_neg pe_int)
  refine wpAny_Slice (thn (po_none.run pins s1 σ H1 (fun o H2 => o = none ∧ H2 = H1) I1 ⟨rfl, rfl⟩) fun vl s2 ⟨l, H2, I2, pl, el, e2⟩ => ?_)
  subst el e2
  refine thn (po_none.run pins s2 σ H2 (fun o H3 => o = none ∧ H3 = H2) I2 ⟨rfl, rfl⟩) fun vu s3 ⟨u, H3, I3, pu, eu, e3⟩ => ?_
  subst eu e3
  refine thn (hst.run pins s3 σ H3 (fun o H4 => o = some (-1) ∧ H4 = H3) I3 ⟨1, rfl, -1, rfl, rfl, rfl⟩) fun vs s4 ⟨o, H4, I4, ps, eo, e4⟩ => ?_
  subst eo e4
  have I5 : Inv X pins σ H4 { s4 with heap := s4.heap.push { cls := .type "slice", data := .fields #[vl, vu, vs] } } := I4.kept (t' := s4.toks) fun b ob q => Heap.get?_push_of_some _ q
  obtain ⟨its, r, ht, hz⟩ := I5.tuple hx
  have hlen := r.length
  show wpAny (model X.prog X.w) X.A (subscriptTail e (.Slice none none (some (.UnaryOp .USub (.Constant (.int 1) k p1) p2)) p3) (.ref a) (.ref s4.heap.objs.size)) (EP X pins σ Q) X.xe { s4 with heap := s4.heap.push { cls := .type "slice", data := .fields #[vl, vu, vs] } }
  refine tail_any (ops := [.ref a, .ref s4.heap.objs.size]) ht.typeIs (PyProof.Rows.slot_tuple_getitem.lookup) ?_ (by with_unfolding_all rfl)
  refine HT.getItem_tuple_rev ht (Heap.IsSliceOf.new _ vl vu vs) pl pu ps ?_ (by rw [List.size_toArray]; omega)
  refine ⟨.ref _, _, I5.laid (t' := s4.toks) (o := .tup xs.reverse) (fun b ob q => Heap.get?_push_of_some _ q) (Nat.le_refl _) ?_, rfl, q _ (I5.hok.fresh (Nat.le_refl _))⟩
  exact ⟨by rw [List.length_reverse]; exact hz, _, r.reverse, IsTup.new _ _⟩
def eRevT (c : CE PV) : CE PV := fun ρ S => (c ρ S).bind fun x S1 => match x with
  | .tup xs => .ok (.tup xs.reverse) S1
  | _ => .stuck
@[simp] theorem eRevT_ap (c : CE PV) (ρ : Sl) (S : Store) : eRevT c ρ S = (c ρ S).bind fun x S1 => match x with
  | .tup xs => .ok (.tup xs.reverse) S1
  | _ => .stuck := rfl
theorem Rps.rev {K : PySem.W.Frag} {m : Mp} {H : Hp} : ∀ {xs : List PV} {vs : List V}, Rps K m H xs vs → Rps K m H xs.reverse vs.reverse
  | [], vs, h => by
    have h' : vs = [] := h
    rw [h']
    rfl
  | x :: xs, vs, h => by
    obtain ⟨v, us, rfl, h1, h2⟩ := h
    rw [List.reverse_cons, List.reverse_cons]
    exact (Rps.rev h2).append ⟨v, [], rfl, h1, rfl⟩
theorem bnds_rev {n : Nat} {xs : List PV} (h : bnds n xs = true) : bnds n xs.reverse = true := bnds_all.mpr fun x hx => bnds_all.mp h x (List.mem_reverse.mp hx)
theorem de_revT {X : Cx} {W : WX} {pos : Pos} {a : Expr} {ca : CE PV} {k : Nat} {p1 p2 p3 : Pos} (ha : DE X W a ca) : DE X W (.Subscript a (.Slice none none (some (.UnaryOp .USub (.Constant (.int 1) k p1) p2)) p3) pos) (eRevT ca) :=
  pe_imp (pe_revT ha) fun σ H Q h => by
    obtain ⟨m, S, ρ, at_, fin⟩ := h
    refine ⟨m, S, ρ, at_, (Fin.bind at_ fin).mono fun v H1 h1 => ?_⟩
    obtain ⟨m1, S1, x, at1, r1, e1, l1, f1⟩ := h1
    cases x with
    | tup xs =>
      obtain ⟨b1, p, vs, rfl, hp, hvs⟩ := r1
      exact ⟨p, vs, rfl, SqT.of hp, fun q hq => f1.tup at1.rel (bnds_rev b1) (Rps.rev hvs) hq⟩
    | _ => exact f1.elim
end TL

set_option Elab.async false
set_option linter.all false
set_option maxRecDepth 100000
set_option maxHeartbeats 1000000
/-! TN23: how often a text stands in a list of texts. -/
namespace TL
open PySem PySem.Spec PyProof.Rows L2
theorem cnt_strs (k : Str) : ∀ {us : List Value} {ns : List Str}, StrsAre us ns → us.countP (isStrOf k) = ns.count k
  | _, _, .nil => rfl
  | _, _, .cons y t h => by
    have ih := cnt_strs k h
    rw [List.countP_cons, List.count_cons, ih] <;> rfl
def rCntS : V → List V → Hp → VK → Prop := fun x xs H Q => ∃ (p : Addr) (ns : List Str) (k : Str), x = .ref p ∧ xs = [.str k] ∧ H p = some (.lst (ns.map V.str)) ∧ Q (.int (ns.count k : Nat)) H
theorem mt_count {X : Cx} : MtR X "list.count" rCntS := by
  intro pins s σ H x xs v us Q I rx rxs h
  obtain ⟨p, ns, k, rfl, rfl, hH, q⟩ := h
  cases rx
  obtain ⟨u, rfl, ru⟩ := rxs.one
  obtain ⟨t, rfl⟩ := ru
  obtain ⟨z, its, n, r, hl, e⟩ := I.lstM hH
  have hi := strs_of_vals r
  refine call_meets PySem.F.slot_list_count ⟨_, e, rfl⟩ PySem.F.entry_list_count (PySem.F.args_list_count_2 _ _)
    (SeqAt.list_countAt p its.toArray n _ _ (.str k t) (isStrOf k)) ⟨e, fun y hy => (eq_isStrOf k t hi y (by simpa using hy)).at _ _, ?_⟩
  have ec : its.toArray.toList.countP (isStrOf k) = ns.count k := cnt_strs k hi
  refine ⟨.int (ns.count k : Nat), H, I.tok _, ⟨s.toks, ?_⟩, q⟩
  show Value.int ((its.toArray.toList.countP (isStrOf k) : Nat) : Int) s.toks = Value.int ((ns.count k : Nat) : Int) s.toks
  rw [ec]
def countV : FM := fun o xs S => match o, xs with
  | .obj i, [.str k] => match S[i]? with
    | some (.lst zs) => match strsOf zs with
      | some ws => .ok (.int (ws.count k : Nat)) S
      | none => .stuck
    | _ => .stuck
  | _, _ => .stuck
theorem opM_count {K : PySem.W.Frag} {mg : Str → Option Value} : OpM K mg countV rCntS := by
  intro W σ m S H x v xs vs Q rel rx ra f
  unfold countV at f
  split at f
  · rename_i i k
    have ev : v = .ref (m i) := rx.2
    obtain ⟨u, rfl, ru⟩ := one_of ra
    have eu : u = .str k := ru.2
    subst ev eu
    split at f
    · rename_i zs e
      obtain ⟨b, us, h1, h2⟩ := rel.lst e
      split at f
      · rename_i ws ew
        have q := strsOf_eq ew
        subst q
        have q2 := strs_rps h2
        subst q2
        exact ⟨m i, ws, k, rfl, rfl, h1, f.here rel ⟨rfl, rfl⟩⟩
      · exact f.elim
    · exact f.elim
  · exact f.elim
theorem count_obj {i : Nat} {S : Store} {ws : List Str} {k : Str} (e : S[i]? = some (.lst (ws.map .str))) : countV (.obj i) [.str k] S = .ok (.int (ws.count k : Nat)) S := by
  unfold countV
  simp only [e, strsOf_map]
end TL

set_option Elab.async false
set_option linter.all false
set_option maxRecDepth 100000
set_option maxHeartbeats 1000000
/-! TN24: {k: v, ..} of expressions; methods of texts; try with several clauses without a name. -/
namespace TL
open PySem PySem.Spec PyProof.Rows L2
/-! ### displays -/
/-- an empty dict, of whichever kind -/
def IsE0 (H : Hp) (p : Addr) : Prop := H p = some (.dK []) ∨ H p = some (.dT [])
def tDispX (trs : List (TE × TE)) : TE := fun σ H Q => ∀ p, H p = none → tPairs trs σ (upd H p (.dK [])) fun ps H2 => IsE0 H2 p ∧ ∃ kvs : List (Key × V), ps = kvs.map (fun kv => (kV kv.1, kv.2)) ∧ kvs.length ≤ 15 ∧ Q (.ref p) (upd H2 p (.dK (mergeK [] kvs)))
theorem pe_dispX {X : Cx} {pos : Pos} {keys : List (Option Expr)} {values : List Expr} {trs : List (TE × TE)} (h : PPs X pos keys values trs) (hall : keys.all (·.isSome) = true) (hl : keys.length = values.length) (h0 : keys ≠ [])
    (h15 : keys.length ≤ 15) : PE X (.Dict keys values pos) (tDispX trs) := by
  refine ⟨fun pins s σ H Q I q => ?_⟩
  have hn := I.hok.fresh (Nat.le_refl s.heap.objs.size)
  have I1 := I.laid (a := s.heap.objs.size) (o := .dK []) (h' := s.heap.push { cls := .type "dict", data := .dict #[] }) (t' := s.toks) (fun _ _ q => Heap.get?_push_of_some _ q) (Nat.le_refl _) (dk_empty s.heap I.big)
  refine wpAny_Dict_walk (knd := mixKind X.prog X.w) hall hl h0 h15 (thn (h.run pins _ σ _ _ I1 (q _ hn)) fun ws s2 ⟨ps, H2, I2, rel, e, kvs, ep, lk, q2⟩ => ?_)
  subst ep
  obtain ⟨rs, c, rk⟩ := carries_of (P := X.prog) (w := X.w) rel
  have dz : (s.heap.objs.size == sysModules) = false ∧ s2.heap.DictOf (mixKind X.prog X.w) s.heap.objs.size [] := by
    rcases e with e | e
    · obtain ⟨z, hd, vs0, r0, dd⟩ := dk_of I2.hok e
      cases r0
      exact ⟨hd, dd⟩
    · obtain ⟨z, hd, xs, r0, o, es, ep, h1, h2, h3, h4, h5⟩ := (show ObjOk X.prog X.w H2 s2.heap s.heap.objs.size (.dT []) from I2.hok _ _ e)
      cases r0
      refine ⟨hd, o, es, ep, h1, h2, h3, ?_, ?_, List.nodup_nil⟩
      · intro x hx
        have he : es = #[] := Array.toList_eq_nil_iff.mp h4
        subst he
        simp at hx
      · rw [h4]; exact .nil
  obtain ⟨hd, dd⟩ := dz
  refine ⟨rs, c, dd, fun h' dd' hs => ⟨.ref s.heap.objs.size, _, ?_, rfl, q2⟩⟩
  have hz : (mergeK [] kvs).length ≤ sizeLine := by
    have h1 := length_mergeK kvs []
    rw [List.length_nil] at h1
    rw [sizeLine_eq]; omega
  have he : ∃ q, h'.get? s.heap.objs.size = some q := let ⟨q, _, _, hq, _⟩ := dd'; ⟨q, hq⟩
  exact d_write I2 (by rcases e with e | e <;> (rw [e]; exact True.intro)) hs he (dk_new hz hd (rk.merge .nil) dd')
/-- the pairs, from the left -/
def cPairs : List (CE PV × CE PV) → CE (List (PV × PV))
  | [], _, S => .ok [] S
  | c :: r, ρ, S => (c.1 ρ S).bind fun k S1 => (c.2 ρ S1).bind fun v S2 => (cPairs r ρ S2).bind fun ps S3 => .ok ((k, v) :: ps) S3
def keysOk : List (PV × PV) → Bool
  | [] => true
  | p :: r => (keyOf p.1).isSome && keysOk r
def dmerge (kvs ps : List (PV × PV)) : List (PV × PV) := ps.foldl (fun a p => dput a p.1 p.2) kvs
/-- {k: v, ..} -/
def eDisp (cs : List (CE PV × CE PV)) : CE PV := fun ρ S => (cPairs cs ρ (S ++ [.dic false []])).bind fun ps S2 => match S2[S.length]? with
  | some (.dic false []) => if ps.length ≤ 15 ∧ keysOk ps = true then .ok (.obj S.length) (S2.set S.length (.dic false (dmerge [] ps))) else .stuck
  | _ => .stuck
def RPs (K : PySem.W.Frag) (m : Mp) (H : Hp) : List (PV × PV) → List (V × V) → Prop
  | [], vs => vs = []
  | p :: ps, vs => ∃ q r, vs = q :: r ∧ Rp K m H p.1 q.1 ∧ Rp K m H p.2 q.2 ∧ RPs K m H ps r
def RP2 (K : PySem.W.Frag) : RR (List (PV × PV)) (List (V × V)) := fun n m H ps vs => bnds n (ps.map (·.2)) = true ∧ RPs K m H ps vs
def DPs (X : Cx) (W : WX) (pos : Pos) (keys : List (Option Expr)) (values : List Expr) (cs : List (CE PV × CE PV)) : Prop := PPs X pos keys values (cs.map fun c => (rdE X.K X.mg W c.1, rdE X.K X.mg W c.2))
section
variable {X : Cx} {W : WX} {pos : Pos}
theorem dps_nil : DPs X W pos [] [] [] := pps_nil
theorem dps_cons {k v : Expr} {ks : List (Option Expr)} {vs : List Expr} {ck cv : CE PV} {cs : List (CE PV × CE PV)} (hk : DE X W k ck) (hv : DE X W v cv) (hr : DPs X W pos ks vs cs) : DPs X W pos (some k :: ks) (v :: vs) ((ck, cv) :: cs) := pps_cons hk hv hr
theorem rd_pairs : ∀ (cs : List (CE PV × CE PV)) (σ : L2.St) (m : Mp) (S : Store) (H : Hp) (ρ : Sl) (Q : List (V × V) → Hp → Prop), At X.K X.mg m S H ρ σ → Fin X.K X.mg W σ m S H (RP2 X.K) Q (cPairs cs ρ S) →
    tPairs (cs.map fun c => (rdE X.K X.mg W c.1, rdE X.K X.mg W c.2)) σ H Q
  | [], σ, m, S, H, ρ, Q, at_, fin => fin.here at_.rel ⟨rfl, rfl⟩
  | c :: r, σ, m, S, H, ρ, Q, at_, fin => by
    refine ⟨m, S, ρ, at_, (Fin.bind at_ fin).mono fun v H1 h1 => ?_⟩
    obtain ⟨m1, S1, x, at1, r1, e1, l1, f1⟩ := h1
    refine ⟨m1, S1, ρ, at1, (Fin.bind at1 f1).mono fun u H2 h2 => ?_⟩
    obtain ⟨m2, S2, y, at2, r2, e2, l2, f2⟩ := h2
    refine rd_pairs r σ m2 S2 H2 ρ _ at2 ((Fin.bind at2 f2).mono fun ps H3 h3 => ?_)
    obtain ⟨m3, S3, qs, at3, r3, e3, l3, f3⟩ := h3
    exact f3.here at3.rel ⟨Bool.and_eq_true_iff.mpr ⟨bnd_mono l3 _ r2.1, r3.1⟩, _, _, rfl, (stbV e3 l3 (stbV e2 l2 r1)).2, (stbV e3 l3 r2).2, r3.2⟩
theorem pairs_keys {K : PySem.W.Frag} {m : Mp} {H : Hp} : ∀ {ps : List (PV × PV)} {vs : List (V × V)}, RPs K m H ps vs → keysOk ps = true → ∃ kvs : List (Key × V), vs = kvs.map (fun kv => (kV kv.1, kv.2)) ∧ kvs.length = ps.length ∧
    ∀ (a : List (PV × PV)) (l : List (Key × V)), KvK K m H a l → KvK K m H (dmerge a ps) (mergeK l kvs)
  | [], vs, h, _ => ⟨[], h, rfl, fun a l h => h⟩
  | p :: ps, vs, h, hk => by
    obtain ⟨q, r, rfl, h1, h2, h3⟩ := h
    obtain ⟨k1, k2⟩ := Bool.and_eq_true_iff.mp hk
    obtain ⟨kk, ek⟩ := Option.isSome_iff_exists.mp k1
    obtain ⟨kvs, rfl, hl, hg⟩ := pairs_keys h3 k2
    refine ⟨(kk, q.2) :: kvs, ?_, by rw [List.length_cons, List.length_cons, hl], fun a l h => hg _ _ (h.put ek h2)⟩
    rw [List.map_cons]
    have : q = (kV kk, q.2) := Prod.ext (key_val h1 ek) rfl
    rw [← this]
theorem dmerge_bnd {n : Nat} : ∀ (ps kvs : List (PV × PV)), bnds n (kvs.map (·.2)) = true → bnds n (ps.map (·.2)) = true → bnds n ((dmerge kvs ps).map (·.2)) = true
  | [], kvs, h, _ => h
  | p :: ps, kvs, h, h' => by
    obtain ⟨a, b⟩ := Bool.and_eq_true_iff.mp h'
    exact dmerge_bnd ps (dput kvs p.1 p.2) (bnds_dput h a) b
theorem de_disp {keys : List (Option Expr)} {values : List Expr} {cs : List (CE PV × CE PV)} (h : DPs X W pos keys values cs) (hall : keys.all (·.isSome) = true := by rfl) (hl : keys.length = values.length := by rfl) (h0 : keys ≠ [] := by simp)
    (h15 : keys.length ≤ 15 := by decide) : DE X W (.Dict keys values pos) (eDisp cs) := by
  refine pe_imp (pe_dispX h hall hl h0 h15) fun σ H Q q => ?_
  obtain ⟨m, S, ρ, at_, fin⟩ := q
  intro p hp
  have ex : Ext X.K S.length m H (mNew m S.length p) (upd H p (.dK [])) := ext_new hp fun i hi => mNew_lt hi
  have l2 : S.length ≤ (S ++ [PO.dic false []]).length := by rw [List.length_append]; omega
  have rel2 : Rel X.K X.mg (mNew m S.length p) (S ++ [.dic false []]) (upd H p (.dK [])) := at_.rel.newO hp rfl (.inl ⟨[], upd_same, rfl⟩)
  have at2 : At X.K X.mg (mNew m S.length p) (S ++ [.dic false []]) (upd H p (.dK [])) ρ σ := ⟨rel2, at_.env.ext ex l2⟩
  refine rd_pairs cs σ _ _ _ ρ _ at2 ((Fin.bind at2 (Fin.from fin ex l2)).mono fun ps H3 h3 => ?_)
  obtain ⟨m3, S3, qs, at3, r3, e3, l3, f3⟩ := h3
  have hlt : S.length < (S ++ [PO.dic false []]).length := by rw [List.length_append]; show _ < _ + 1; omega
  have em : m3 S.length = p := by rw [e3.mi _ hlt, mNew_at]
  dsimp only at f3
  split at f3
  · rename_i eo
    split at f3
    · rename_i hc
      obtain ⟨kvs, rfl, hkl, hg⟩ := pairs_keys r3.2 hc.2
      have ie : IsE0 H3 p := by
        have o := at3.rel.ob _ _ eo
        rw [em] at o
        rcases o with ⟨l, h1, h2⟩ | ⟨l, h1, h2⟩
        · have : l = [] := h2
          subst this
          exact .inl h1
        · have : l = [] := h2
          subst this
          exact .inr h1
      refine ⟨ie, kvs, rfl, by rw [hkl]; exact hc.1, ?_⟩
      have ew : Ext X.K S3.length m3 H3 m3 (upd H3 (m3 S.length) (.dK (mergeK [] kvs))) := at3.rel.ext_write eo (fun _ z => by cases z)
      have rw3 := at3.rel.write (o := .dic false (dmerge [] qs)) (u := .dK (mergeK [] kvs)) eo (fun _ z => by cases z) (dmerge_bnd qs [] rfl r3.1) (.inl ⟨_, upd_same, KvK.ext ew _ _ (dmerge_bnd qs [] rfl r3.1) (hg [] [] rfl)⟩)
      rw [em] at ew rw3
      refine f3 m3 _ (.ref p) ew (by rw [List.length_set]; exact Nat.le_refl _) rw3 ⟨decide_eq_true ?_, ?_⟩
      · rw [List.length_set]; omega
      · show V.ref p = V.ref (m3 S.length)
        rw [em]
    · exact f3.elim
  · exact f3.elim
end
/-! ### methods of texts -/
def eMs (f : FM) (co : CE PV) (cs : CE (List PV)) : CE PV := fun ρ S => (co ρ S).bind fun o S1 => match o with
  | .str a => (cs ρ S1).bind fun xs S2 => f (.str a) xs S2
  | _ => .stuck
section
variable {X : Cx} {W : WX} {o e : Expr} {es : List Expr} {co : CE PV} {cs : CE (List PV)} {apos cpos : Pos} {name id : String} {f : FM} {r : V → List V → Hp → VK → Prop}
theorem de_Ms (slot : Slot "str" name id) (hty : typeOf (.builtin id) = pure (.type "method_descriptor")) (hm : MtR X id r) (oM : OpM X.K X.mg f r) (ho : DE X W o co) (ha : DA X W (e :: es) cs)
    (hbase : attributeBase o name X.env (eval o X.env) = eval o X.env := by rfl)
    (hfew : ((backTo cpos (starEach (e :: es) X.env)).all (fun x => !x.1) && (backToKw cpos (keywordEach [] X.env)).all (fun x => x.1.isSome)
      && decide ((e :: es).length + ([] : List Keyword).length + (if ([] : List Keyword).isEmpty then 0 else 1) < 30)) = true := by rfl)
    (hline : (apos.endLine == cpos.line) = true := by rfl) (hs : starEach (e :: es) X.env = (false, eval e X.env) :: starEach es X.env := by rfl) (hplain : (backTo cpos (starEach es X.env)).any (·.1) = false := by rfl) :
    DE X W (.Call (.Attribute o name apos) (e :: es) [] cpos) (eMs f co cs) :=
  pe_imp (pe_bm PySem.F.plainAttrs_str slot hty hm ho ha hbase hfew hline hs hplain) fun σ H Q h => by
    obtain ⟨m, S, ρ, at_, fin⟩ := h
    refine ⟨m, S, ρ, at_, (Fin.bind at_ fin).mono fun v H1 h1 => ?_⟩
    obtain ⟨m1, S1, x, at1, r1, e1, l1, f1⟩ := h1
    dsimp only at f1
    cases x with
    | str a =>
      have ev : v = .str a := r1.2
      subst ev
      refine ⟨rfl, m1, S1, ρ, at1, (Fin.bind at1 f1).mono fun us H2 h2 => ?_⟩
      obtain ⟨m2, S2, ys, at2, r2, e2, l2, f2⟩ := h2
      exact oM W σ m2 S2 H2 (.str a) (.str a) ys us Q at2.rel ⟨rfl, rfl⟩ r2 f2
    | _ => exact f1.elim
theorem de_Ms0 (slot : Slot "str" name id) (hty : typeOf (.builtin id) = pure (.type "method_descriptor")) (hm : MtR X id r) (oM : OpM X.K X.mg f r) (ho : DE X W o co)
    (hbase : attributeBase o name X.env (eval o X.env) = eval o X.env := by rfl) (hline : (apos.endLine == cpos.line) = true := by rfl) : DE X W (.Call (.Attribute o name apos) [] [] cpos) (eMs f co aNil) :=
  pe_imp (pe_bm0 PySem.F.plainAttrs_str slot hty hm ho hbase hline) fun σ H Q h => by
    obtain ⟨m, S, ρ, at_, fin⟩ := h
    refine ⟨m, S, ρ, at_, (Fin.bind at_ fin).mono fun v H1 h1 => ?_⟩
    obtain ⟨m1, S1, x, at1, r1, e1, l1, f1⟩ := h1
    dsimp only at f1
    cases x with
    | str a =>
      have ev : v = .str a := r1.2
      subst ev
      exact ⟨rfl, oM W σ m1 S1 H1 (.str a) (.str a) [] [] Q at1.rel ⟨rfl, rfl⟩ ⟨rfl, rfl⟩ f1⟩
    | _ => exact f1.elim
end
def upperV : FM := fun o xs S => match o, xs with
  | .str a, [] => if a.length ≤ 5592405 then .ok (.str (Txt.upper a)) S else .stuck
  | _, _ => .stuck
def splitV : FM := fun o xs S => match o, xs with
  | .str a, [.str b] => if (b.length == 0) = false ∧ a.length + 2 ≤ sizeLine then .ok (.obj S.length) (S ++ [.lst ((Txt.split a b).map .str)]) else .stuck
  | _, _ => .stuck
def find3V : FM := fun o xs S => match o, xs with
  | .str a, [.str b, .int i] => .ok (.int (Txt.find3 a b i)) S
  | _, _ => .stuck
theorem strs_bnd (n : Nat) (ws : List Str) : bnds n (ws.map PV.str) = true := bnds_all.mpr fun x hx => by
  obtain ⟨w, _, rfl⟩ := List.mem_map.mp hx
  rfl
theorem strs_rp {K : PySem.W.Frag} {m : Mp} {H : Hp} : ∀ ws : List Str, Rps K m H (ws.map PV.str) (ws.map V.str)
  | [] => rfl
  | w :: ws => ⟨_, _, rfl, rfl, strs_rp ws⟩
section
variable {K : PySem.W.Frag} {mg : Str → Option Value}
theorem opM_upper : OpM K mg upperV (fun x xs H Q => ∃ a, x = .str a ∧ xs = [] ∧ a.length ≤ 5592405 ∧ Q (.str (Txt.upper a)) H) := by
  intro W σ m S H x v xs vs Q rel rx ra f
  unfold upperV at f
  split at f
  · rename_i a
    have ev : v = .str a := rx.2
    have es : vs = [] := ra.2
    split at f
    · rename_i h
      exact ⟨a, ev, es, h, f.here rel ⟨rfl, rfl⟩⟩
    · exact f.elim
  · exact f.elim
theorem opM_split : OpM K mg splitV (fun x xs H Q => ∃ a b, x = .str a ∧ xs = [.str b] ∧ (b.length == 0) = false ∧ a.length + 2 ≤ sizeLine ∧ rNewStrs (Txt.split a b) H Q) := by
  intro W σ m S H x v xs vs Q rel rx ra f
  unfold splitV at f
  split at f
  · rename_i a b
    have ev : v = .str a := rx.2
    obtain ⟨u, rfl, ru⟩ := one_of ra
    have eu : u = .str b := ru.2
    subst ev eu
    split at f
    · rename_i h
      exact ⟨a, b, rfl, rfl, h.1, h.2, fun p hp => f.lst rel (strs_bnd _ _) (strs_rp _) hp⟩
    · exact f.elim
  · exact f.elim
theorem opM_find3 : OpM K mg find3V (fun x xs H Q => ∃ (a b : Str) (i : Int), x = .str a ∧ xs = [.str b, .int i] ∧ Q (.int (Txt.find3 a b i)) H) := by
  intro W σ m S H x v xs vs Q rel rx ra f
  unfold find3V at f
  split at f
  · rename_i a b i
    have ev : v = .str a := rx.2
    obtain ⟨_, u, r, rfl, ru, u2, r2, rfl, ru2, e3⟩ := ra
    have e3' : r2 = [] := e3
    have eu : u = .str b := ru
    have eu2 : u2 = .int i := ru2
    subst ev eu eu2 e3'
    exact ⟨a, b, i, rfl, rfl, f.here rel ⟨rfl, rfl⟩⟩
  · exact f.elim
end
/-! ### try: body except x: .. except y: .. -/
def suiteM (r : SR) : SR := match r with
  | .next ρ2 S2 => .next ρ2 S2
  | .ret y S2 => .ret y S2
  | _ => .stuck
def pickH (sub : Str → Str → Bool) (c : Str) : List (Str × CS) → Option CS
  | [] => none
  | h :: r => if sub c h.1 = true then some h.2 else pickH sub c r
def sTryM (ns : List Str) (sub : Str → Str → Bool) (hs : List (Str × CS)) (body : CS) : CS := fun ρ S => match body ρ S with
  | .exc c none ρ' S' => if c ∈ ns then (match pickH sub c hs with
      | some u => suiteM (u ρ' S')
      | none => .exc c none ρ' S') else .stuck
  | .exc _ (some _) _ _ => .stuck
  | r => r
/-- the clauses -/
inductive DHs (X : Cx) (ns : List Str) : List ExceptHandler → List (Str × CS) → Prop
  | nil : DHs X ns [] []
  | cons {x : Str} {u : CS} {b₀ : Stmt} {suite : List Stmt} {np pos' : Pos} {hds : List ExceptHandler} {l : List (Str × CS)} (hx : x ∈ ns) (hg : Gl X x) (hd : (x == ("__debug__" : Str)) = false)
      (hsu : ∀ (a : Addr) (oe : Obj) (pn : List (Addr × Obj)), DSs (X.suite a ((a, oe) :: pn)) W0 (b₀ :: suite) u) (r : DHs X ns hds l) :
      DHs X ns (.ExceptHandler (some (.Name x np)) none (b₀ :: suite) pos' :: hds) ((x, u) :: l)
section
variable {X : Cx} {W : WX} {ns : List Str} {sub : Str → Str → Bool}
abbrev hdT (X : Cx) (u : CS) : Addr → Value → Option Addr → TS := fun a cls d => fun D σ H => rdS X.K X.mg W0 u D σ H
theorem DHs.ok (T : ExT X.K X.mg ns sub) : ∀ {hds : List ExceptHandler} {l : List (Str × CS)}, DHs X ns hds l → HdsOk X hds (l.map fun p => (Value.ref (He.ga X.K p.1), hdT X p.2))
  | _, _, .nil => .nil
  | _, _, .cons hx hg hd hsu r => .cons ⟨hg, hd, .inl (T.gl _ hx)⟩ (fun a oe cls d pn _ _ => hsu a oe pn) (DHs.ok T r)
theorem DHs.mem : ∀ {hds : List ExceptHandler} {l : List (Str × CS)}, DHs X ns hds l → ∀ p ∈ l, p.1 ∈ ns
  | _, _, .nil, p, h => nomatch h
  | _, _, .cons hx _ _ _ r, p, h => by
    rcases List.mem_cons.mp h with h | h
    · subst h; exact hx
    · exact r.mem p h
theorem ds_tryM {body : List Stmt} {h₀ : ExceptHandler} {hds : List ExceptHandler} {pos : Pos} {cb : CS} {l : List (Str × CS)} (T : ExT X.K X.mg ns sub) (hs : X.stack = X.env :: X.outer) (hf : X.env.frame = some X.env.locals) (tk : Takes X W)
    (hb : ∀ (W : WX) (pn : List (Addr × Obj)) (xe : Value → Shared → Prop), Takes (X.tr pn xe) W → PassesOwn (model X.prog X.w) X.A X.env xe → DSs (X.tr pn xe) W body cb)
    (hh : DHs X ns (h₀ :: hds) l) : DS X W (.Try body (h₀ :: hds) [] [] pos) (sTryM ns sub l cb) := by
  refine ps_imp (ps_try_many (Wout := W) (tb := fun W => rdS X.K X.mg W cb) hs hf tk hb (hh.ok T)) fun D σ H h => ?_
  obtain ⟨m, S, ρ, at_, fin⟩ := h
  refine ⟨m, S, ρ, at_, ?_⟩
  have hm := hh.mem
  clear hh
  unfold sTryM at fin
  cases q : cb ρ S with
  | next ρ' S' => rw [q] at fin; exact fin
  | ret y S' => rw [q] at fin; exact fin
  | brk ρ' S' => rw [q] at fin; exact fin
  | cont ρ' S' => rw [q] at fin; exact fin
  | stuck => rw [q] at fin; exact fin
  | exc c p ρ' S' =>
    rw [q] at fin
    cases p with
    | some p => exact fin.elim
    | none =>
      simp only at fin
      by_cases hc : c ∈ ns
      · rw [if_pos hc] at fin
        intro m' H' σ' d e l' a' xr
        have xr' : d = none := xr
        subst xr'
        rw [ca_of (T.gl c hc)]
        clear q
        induction l with
        | nil =>
          have f2 := fin m' H' σ' none e l' a' rfl
          rw [ca_of (T.gl c hc)] at f2
          exact f2
        | cons x l ih =>
          refine ⟨sub c x.1, T.exm c hc x.1 (hm x List.mem_cons_self), fun hb1 a na => ⟨m', S', ρ', a', ?_⟩, fun hb0 => ?_⟩
          · have pk : pickH sub c (x :: l) = some x.2 := by unfold pickH; rw [if_pos hb1]
            rw [pk] at fin
            cases qs : x.2 ρ' S' with
            | next ρ2 S2 =>
              dsimp only at fin
              rw [qs] at fin
              intro m2 H2 σ2 e2 l2 a2
              exact fin m2 H2 σ2 (e.trans e2 l') (Nat.le_trans l' l2) a2
            | ret y S2 =>
              dsimp only at fin
              rw [qs] at fin
              intro m2 H2 v e2 l2 r2 x2
              exact fin m2 H2 v (e.trans e2 l') (Nat.le_trans l' l2) r2 x2
            | _ => dsimp only at fin; rw [qs] at fin; exact fin.elim
          · have pk : pickH sub c (x :: l) = pickH sub c l := by
              show (if sub c x.1 = true then _ else _) = _
              rw [if_neg (by rw [hb0]; exact Bool.false_ne_true)]
            rw [pk] at fin
            exact ih (fun p hp => hm p (List.mem_cons_of_mem _ hp)) fin
      · rw [if_neg hc] at fin
        exact fin.elim
end
/-! ### isinstance(x, (int, str)) -/
def tysOf : List PV → Option (List String)
  | [] => some []
  | .ty n :: r => match tysOf r with
    | some l => if n ∈ ["bool", "int", "str", "tuple", "list", "dict"] then some (n :: l) else none
    | none => none
  | _ => none
def isinstTV : FB := fun xs S => match xs with
  | [x, .tup ts] => match tyP x S, tysOf ts with
    | some a, some l => .ok (.bl (l.any (isSub a))) S
    | _, _ => .stuck
  | _ => .stuck
theorem tys_ok {K : PySem.W.Frag} {m : Mp} {H : Hp} {a : String} (ha : a ∈ tyNames) : ∀ {ts : List PV} {l : List String} {vs : List V}, tysOf ts = some l → Rps K m H ts vs → ∃ us, Paired ClsV vs us ∧ PySem.W.kitAny K (.type a) us = some (l.any (isSub a))
  | [], l, vs, h, r => by
    cases h
    have e : vs = [] := r
    subst e
    exact ⟨[], .nil, kitAny_nil⟩
  | x :: ts, l, vs, h, r => by
    obtain ⟨v, q, rfl, h1, h2⟩ := r
    unfold tysOf at h
    split at h
    · rename_i heq
      cases heq
    · rename_i n r' heq
      cases heq
      split at h
      · rename_i l' el
        split at h
        · rename_i hn
          cases h
          have ev : v = .ty n := h1
          subst ev
          obtain ⟨us, p, k⟩ := tys_ok ha el h2
          have kb := kit_ty (K := K) (kitB_all a ha n hn)
          refine ⟨.type n :: us, .cons (.ty n) p, kitAny_cons kb (fun e => ?_) (fun e => ?_)⟩
          · rw [k, List.any_cons, e, Bool.false_or]
          · rw [List.any_cons, e, Bool.true_or]
        · cases h
      · cases h
    · cases h
theorem opC_isinstT {K : PySem.W.Frag} {mg : Str → Option Value} : OpC K mg isinstTV (rIsiT K) := by
  intro W σ m S H xs vs Q rel rx f
  unfold isinstTV at f
  split at f
  · rename_i x ts
    obtain ⟨v, u, rfl, rv, ru⟩ := two_of rx
    split at f
    · rename_i a l e1 e2
      obtain ⟨_, p, cs, rfl, h1, h2⟩ := ru
      obtain ⟨us, pr, k⟩ := tys_ok (K := K) (tyP_mem e1) e2 h2
      exact ⟨v, p, cs, .type a, us, _, rfl, h1, pr, tyP_ok rel rv e1, k, f.here rel ⟨rfl, rfl⟩⟩
    · exact f.elim
  · exact f.elim
/-- a def under another name -/
theorem defOk_mkA {P : Program} {w : World} {K : PySem.W.Frag} {mg : Str → Option Value} {base : Heap} {k : Nat} {nm x qual : Str} {params : Arguments} {body : List Stmt} {scope : Scope} {fd : FuncData} {N ps : List Str} {b : CS}
    (F : FunD K nm qual params body scope [] [] (He.ga K x) fd) (S : FnScope N ps scope)
    (hb : ∀ us : List Value, us.length = ps.length → ∀ (kV doc pm : Value) (an : Option Addr) (cdv ct : Value), bindArgs (PySem.W.fnOf nm qual params body scope .none kV doc pm an cdv ct) ⟨us, []⟩ = pure (ps.zip us))
    (hm : mg x = some (.ref (He.ga K x)))
    (h : ∀ (cdv : Value) (A : Around) (outer : List Env) (s : Shared) (H : Hp) (E : XK), Room k (A.deeper (envOfC qual scope s.heap.objs.size (He.ga K x) cdv)) → DSs (cxD P w K mg base N qual scope (He.ga K x) cdv A outer s H E) (wD E) body b) :
    DefOk P w K mg base (k + 1) x ps (runD N.length b) := ⟨fd, fnOk_mkA F S h, F.bindsN fun kV doc pm an cdv ct us hl => hb us hl kV doc pm an cdv ct, hm, F.kp⟩
end TL

set_option Elab.async false
set_option linter.all false
set_option maxRecDepth 100000
set_option maxHeartbeats 1000000
/-! TN26: a text times a number. -/
namespace TL
open PySem PySem.Spec PyProof.Rows L2
def repS (a : Str) (k : Nat) : Str := ⟨(List.replicate k a.cps).foldl (· ++ ·) #[]⟩
theorem foldl_cps (a : List Nat) : ∀ (k : Nat) (acc : List Nat), List.foldl (· ++ ·) acc.toArray (List.replicate k a.toArray) = (acc ++ (List.replicate k a).flatten).toArray
  | 0, acc => by simp
  | k + 1, acc => by
    rw [List.replicate_succ, List.foldl_cons, List.replicate_succ, List.flatten_cons, List.append_toArray, foldl_cps a k, List.append_assoc]
theorem tl_rep (a : Str) (k : Nat) : tl (repS a k) = (List.replicate k (tl a)).flatten := by
  have h := foldl_cps (tl a) k []
  have e : (tl a).toArray = a.cps := Array.toArray_toList
  rw [e, List.nil_append] at h
  show (List.foldl (· ++ ·) #[] (List.replicate k a.cps)).toList = _
  rw [h]
theorem len_rep (a : Str) (k : Nat) : (repS a k).length = k * a.length := by
  rw [len_tl, tl_rep, len_tl, List.length_flatten, List.map_replicate, List.sum_replicate_nat]
def rRepS : R2 := fun x y H Q => ∃ a k, x = .str a ∧ y = .int k ∧ 2 ≤ k ∧ k ≤ 1000 ∧ 1 ≤ a.length ∧ a.length ≤ 1000 ∧ Q (.str (repS a k.toNat)) H
theorem op_repS {X : Cx} : OpR X (binaryOp .Mult) rRepS := by
  intro pins s σ H x y v u Q I rx ry h
  obtain ⟨a, k, rfl, rfl, h1, h2, h3, h4, q⟩ := h
  obtain ⟨t, rfl⟩ := rx
  obtain ⟨t2, rfl⟩ := ry
  have bd : a.length * k.toNat ≤ 1000000 := by
    have : a.length * k.toNat ≤ 1000 * 1000 := Nat.mul_le_mul h4 (by omega)
    omega
  have sm : a.length * k.toNat ≤ sizeLine := Nat.le_trans bd (by rw [sizeLine_eq]; omega)
  refine P.mul_str ?_ (fun _ _ => ?_) (fun _ _ => ?_) ?_
  · rw [decide_eq_false (by omega), decide_eq_false (by omega)]; rfl
  · have : (2 ^ 63 - 1) / k ≥ 1000 := by
      have := Int.le_ediv_of_mul_le (a := 1000) (b := 2 ^ 63 - 1) (c := k) (by omega) (by omega)
      exact this
    omega
  · show decide (_ > sizeLine) = false
    exact decide_eq_false (by omega)
  · rw [if_neg (by omega)]
    have e1 : (k == 1 || a.length == 0) = false := by
      have a1 : (k == 1) = false := by
        rw [beq_eq_false_iff_ne]; omega
      have a2 : (a.length == 0) = false := by
        rw [beq_eq_false_iff_ne]; omega
      rw [a1, a2]; rfl
    rw [e1, if_neg Bool.false_ne_true]
    refine ⟨?_, ⟨.str (repS a k.toNat), H, I.tok _, ⟨_, rfl⟩, q⟩⟩
    show (repS a k.toNat).length ≤ sizeLine
    rw [len_rep, Nat.mul_comm]
    exact sm
def mulSV : F2 := fun x y S => match x, y with
  | .str a, .int k => if 2 ≤ k ∧ k ≤ 1000 ∧ 1 ≤ a.length ∧ a.length ≤ 1000 then .ok (.str (repS a k.toNat)) S else .stuck
  | _, _ => .stuck
theorem op2_mulS {K : PySem.W.Frag} {mg : Str → Option Value} : Op2 K mg mulSV rRepS := by
  intro W σ m S H x y v u Q rel rx ry f
  unfold mulSV at f
  cases x with
  | str a =>
    cases y with
    | int k =>
      simp only at f
      by_cases h : 2 ≤ k ∧ k ≤ 1000 ∧ 1 ≤ a.length ∧ a.length ≤ 1000
      · rw [if_pos h] at f
        exact ⟨a, k, rx.2, ry.2, h.1, h.2.1, h.2.2.1, h.2.2.2, f.here rel ⟨rfl, rfl⟩⟩
      · rw [if_neg h] at f
        exact f.elim
    | _ => exact f.elim
  | _ => exact f.elim
end TL

set_option Elab.async false
set_option linter.all false
set_option maxRecDepth 100000
/-! what each def of law_k80_numbers_and_lists does, on a store of values (printed by gen.py) -/
namespace K80
open PySem PySem.Spec PyProof.Rows L2 TL
def exNames : List Str := ["TollError", "NoText", "NoFunction", "NoValue", "NoRow"]
def exSub (n d : Str) : Bool := decide (n = d) || decide (d = "TollError")
def k_FIGURES : PV := (.str "0123456789")
def k_MOST : PV := (.int 40)
def exCons : List (Str × PV) := [("FIGURES", k_FIGURES), ("MOST", k_MOST)]
/-- is_number(word); slots word figures sign -/
noncomputable def b_is_number : CS := (sSeq (sSet 1 (eVar 0))
    (sSeq (sIf (tGc (tBl (eBin eqV (eSlice (eVar 0) oNone (oSome (eK (.int 1)))) (eK (.str "-"))))) (sSet 1 (eGc (eSlice (eVar 0) (oSome (eK (.int 1))) oNone))) sNext)
    (sSeq (sIf (cOr (cNot (tBl (eChain leV leV (eK (.int 1)) (eB lenV (aCons (eVar 1) aNil)) (eK (.int 60))))) (cAnd (tBl (eBin eqV (eBin getV (eVar 1) (eK (.int 0))) (eK (.str "0")))) (tBl (eBin neV (eVar 0) (eK (.str "0")))))) (sRet (eK (.bl false))) sNext)
    (sSeq (sFor (.name 2) (iAny (eVar 1)) (sIf (tBl (eBin ninV (eVar 2) (eK k_FIGURES))) (sRet (eK (.bl false))) sNext))
    (sRet (eK (.bl true)))))))
noncomputable def m_is_number : DF := runD 3 b_is_number

/-- size_of(shape, value); slots shape value many left part -/
noncomputable def b_size_of : CS := (sSeq (sIf (tBl (eBin eqV (eVar 0) (eK (.str "num")))) (sRet (eK (.int 0))) sNext)
    (sSeq (sIf (tBl (eBin eqV (eVar 0) (eK (.str "list")))) (sRet (eB lenV (aCons (eVar 1) aNil))) sNext)
    (sSeq (sSet 2 (eK (.int 0)))
    (sSeq (sSet 3 (eLst (aCons (eVar 1) aNil)))
    (sSeq (sWhile (tBl (eBin gtV (eB lenV (aCons (eVar 3) aNil)) (eK (.int 0)))) (sSeq (sSet 4 (eM popV (eVar 3) aNil))
    (sIf (tBl (eBin isnV (eVar 4) (eK .non))) (sSeq (sAug 2 iaddV (eK (.int 1)))
    (sSeq (sDrop (eM appendV (eVar 3) (aCons (eBin getV (eVar 4) (eK (.int 0))) aNil)))
    (sDrop (eM appendV (eVar 3) (aCons (eBin getV (eVar 4) (eK (.int 2))) aNil))))) sNext)))
    (sRet (eVar 2)))))))
noncomputable def m_size_of : DF := runD 5 b_size_of

/-- tree_at(text, at, deep); slots text at deep left end number right -/
noncomputable def b_tree_at (mr : DF) : CS := (sSeq (sIf (tGc (tBl (eBin eqV (eSlice (eVar 0) (oSome (eVar 1)) (oSome (eBin addV (eVar 1) (eK (.int 1))))) (eK (.str "."))))) (sRet (eTup (aCons (eK .non) (aCons (eBin addV (eVar 1) (eK (.int 1))) aNil)))) sNext)
    (sSeq (sIf (tGc (cOr (tBl (eBin neV (eSlice (eVar 0) (oSome (eVar 1)) (oSome (eBin addV (eVar 1) (eK (.int 1))))) (eK (.str "(")))) (tBl (eBin geV (eVar 2) (eK k_MOST))))) (sRaise "NoValue") sNext)
    (sSeq (sSetT (.tup [3, 1]) (eCall 3 mr (aCons (eVar 0) (aCons (eBin addV (eVar 1) (eK (.int 1))) (aCons (eBin addV (eVar 2) (eK (.int 1))) aNil)))))
    (sSeq (sSet 4 (eMs find3V (eVar 0) (aCons (eK (.str ",")) (aCons (eBin addV (eVar 1) (eK (.int 1))) aNil))))
    (sSeq (sIf (tGc (cOr (tBl (eBin neV (eSlice (eVar 0) (oSome (eVar 1)) (oSome (eBin addV (eVar 1) (eK (.int 1))))) (eK (.str ",")))) (cOr (tBl (eBin ltV (eVar 4) (eK (.int 0)))) (cNot (tTru (eCall 1 m_is_number (aCons (eGc (eSlice (eVar 0) (oSome (eBin addV (eVar 1) (eK (.int 1)))) (oSome (eVar 4)))) aNil))))))) (sRaise "NoValue") sNext)
    (sSeq (sSet 5 (eGc (eGc (eB intV (aCons (eSlice (eVar 0) (oSome (eBin addV (eVar 1) (eK (.int 1)))) (oSome (eVar 4))) aNil)))))
    (sSeq (sSetT (.tup [6, 1]) (eCall 3 mr (aCons (eVar 0) (aCons (eBin addV (eVar 4) (eK (.int 1))) (aCons (eBin addV (eVar 2) (eK (.int 1))) aNil)))))
    (sSeq (sIf (tGc (tBl (eBin neV (eSlice (eVar 0) (oSome (eVar 1)) (oSome (eBin addV (eVar 1) (eK (.int 1))))) (eK (.str ")"))))) (sRaise "NoValue") sNext)
    (sRet (eTup (aCons (eTup (aCons (eVar 3) (aCons (eVar 5) (aCons (eVar 6) aNil)))) (aCons (eBin addV (eVar 1) (eK (.int 1))) aNil))))))))))))
noncomputable def m_tree_at : Nat → DF
  | 0 => fun _ _ => .stuck
  | j + 1 => runD 7 (b_tree_at (m_tree_at j))

/-- tree_told(text); slots text tree end -/
noncomputable def b_tree_told : CS := (sSeq (sSetT (.tup [1, 2]) (eCall 3 (m_tree_at 30) (aCons (eVar 0) (aCons (eK (.int 0)) (aCons (eK (.int 0)) aNil)))))
    (sSeq (sIf (tBl (eBin neV (eVar 2) (eB lenV (aCons (eVar 0) aNil)))) (sRaise "NoValue") sNext)
    (sRet (eVar 1))))
noncomputable def m_tree_told : DF := runD 3 b_tree_told

/-- list_told(text); slots text parts part -/
noncomputable def b_list_told : CS := (sSeq (sIf (tBl (eBin eqV (eVar 0) (eK (.str "[]")))) (sRet (eTup aNil)) sNext)
    (sSeq (sIf (tGc (cOr (tBl (eBin neV (eSlice (eVar 0) oNone (oSome (eK (.int 1)))) (eK (.str "[")))) (tBl (eBin neV (eSlice (eVar 0) (oSome (eNeg (eK (.int 1)))) oNone) (eK (.str "]")))))) (sRaise "NoValue") sNext)
    (sSeq (sSet 1 (eGc (eMs splitV (eSlice (eVar 0) (oSome (eK (.int 1))) (oSome (eNeg (eK (.int 1))))) (aCons (eK (.str ",")) aNil))))
    (sSeq (sFor (.name 2) (iAny (eVar 1)) (sIf (cNot (tTru (eCall 1 m_is_number (aCons (eVar 2) aNil)))) (sRaise "NoValue") sNext))
    (sRet (eGc (eGc (eB tupleV (aCons (eLc (.name 2) (iAny (eVar 1)) tYes' (eB intV (aCons (eVar 2) aNil)) [2]) aNil)))))))))
noncomputable def m_list_told : DF := runD 3 b_list_told

/-- read_arg(shape, text); slots shape text value -/
noncomputable def b_read_arg : CS := (sSeq (sIf (cNot (tTru (eB (isinstV "str") (aCons (eVar 1) (aCons (eK (.ty "str")) aNil))))) (sRaise "NoValue") sNext)
    (sSeq (sIf (tBl (eBin eqV (eVar 0) (eK (.str "num")))) (sSeq (sIf (cNot (tTru (eCall 1 m_is_number (aCons (eVar 1) aNil)))) (sRaise "NoValue") sNext)
    (sRet (eB intV (aCons (eVar 1) aNil)))) sNext)
    (sSeq (sIf (tBl (eBin eqV (eVar 0) (eK (.str "list")))) (sSet 2 (eCall 1 m_list_told (aCons (eVar 1) aNil))) (sSet 2 (eCall 1 m_tree_told (aCons (eVar 1) aNil))))
    (sSeq (sIf (tBl (eBin gtV (eCall 2 m_size_of (aCons (eVar 0) (aCons (eVar 2) aNil))) (eK k_MOST))) (sRaise "NoValue") sNext)
    (sRet (eVar 2))))))
noncomputable def m_read_arg : DF := runD 3 b_read_arg

/-- show_arg(shape, value); slots shape value left number -/
noncomputable def b_show_arg (mr : DF) : CS := (sSeq (sIf (tBl (eBin eqV (eVar 0) (eK (.str "num")))) (sRet (eB strV (aCons (eVar 1) aNil))) sNext)
    (sSeq (sIf (tBl (eBin eqV (eVar 0) (eK (.str "list")))) (sRet (eGc (eBin addV (eBin addV (eK (.str "[")) (eGc (eJoin (eK (.str ",")) (eLc (.name 3) (iAny (eVar 1)) tYes' (eB strV (aCons (eVar 3) aNil)) [3])))) (eK (.str "]"))))) sNext)
    (sSeq (sIf (tBl (eBin isV (eVar 1) (eK .non))) (sRet (eK (.str "."))) sNext)
    (sSeq (sSet 2 (eCall 2 mr (aCons (eVar 0) (aCons (eBin getV (eVar 1) (eK (.int 0))) aNil))))
    (sRet (eBin addV (eBin addV (eBin addV (eBin addV (eBin addV (eBin addV (eK (.str "(")) (eVar 2)) (eK (.str ","))) (eB strV (aCons (eBin getV (eVar 1) (eK (.int 1))) aNil))) (eK (.str ","))) (eCall 2 mr (aCons (eVar 0) (aCons (eBin getV (eVar 1) (eK (.int 2))) aNil)))) (eK (.str ")"))))))))
noncomputable def m_show_arg : Nat → DF
  | 0 => fun _ _ => .stuck
  | j + 1 => runD 4 (b_show_arg (m_show_arg j))

/-- _law_cell_at(_law_script, _law_k); slots _law_script _law_k -/
noncomputable def b_law_cell_at : CS := (sSeq (sIf (tBl (eBin ltV (eVar 1) (eB lenV (aCons (eVar 0) aNil)))) (sRet (eBin modV (eBin getV (eVar 0) (eVar 1)) (eBin powV (eK (.int 10)) (eK (.int 62))))) sNext)
    (sRet (eK (.int 0))))
noncomputable def m_law_cell_at : DF := runD 2 b_law_cell_at

/-- _law_whole(_law_found); slots _law_found -/
noncomputable def b_law_whole : CS := (sRet (eAnd (eB (isinstV "int") (aCons (eVar 0) (aCons (eK (.ty "int")) aNil))) (eNot (eB (isinstV "bool") (aCons (eVar 0) (aCons (eK (.ty "bool")) aNil))))))
noncomputable def m_law_whole : DF := runD 1 b_law_whole

/-- _law_refused(_law_shape, _law_thing); slots _law_shape _law_thing _law_told e -/
noncomputable def b_law_refused : CS := (sSeq (sSet 2 (eK (.bl false)))
    (sSeq (sTryAs exNames exSub "TollError" 3 (sDrop (eCall 2 m_read_arg (aCons (eVar 0) (aCons (eVar 1) aNil)))) (fun a c => (sSeq (sSet 2 (eAnd (eIsE 3 a (exSub c "NoValue")) (eIsE 3 a true)))
    (sSet 2 (eAnd (eVar 2) (eAnd (eNot (eIsE 3 a (exSub c "NoText"))) (eAnd (eNot (eIsE 3 a (exSub c "NoRow"))) (eNot (eIsE 3 a (exSub c "NoFunction"))))))))))
    (sRet (eVar 2))))
noncomputable def m_law_refused : DF := runD 4 b_law_refused

/-- _law_number(_law_cell); slots _law_cell -/
noncomputable def b_law_number : CS := (sSeq (sSet 0 (eBin modV (eVar 0) (eBin powV (eK (.int 10)) (eK (.int 62)))))
    (sRet (eGc (eBin mulV (eBin getV (eLst (aCons (eK (.int 1)) (aCons (eNeg (eK (.int 1))) aNil))) (eBin modV (eVar 0) (eK (.int 2)))) (eBin modV (eBin fdivV (eVar 0) (eK (.int 2))) (eBin getV (eLst (aCons (eBin powV (eK (.int 10)) (eK (.int 60))) (aCons (eBin powV (eK (.int 10)) (eK (.int 60))) (aCons (eK (.int 12)) aNil)))) (eBin modV (eBin fdivV (eVar 0) (eK (.int 2))) (eK (.int 3)))))))))
noncomputable def m_law_number : DF := runD 1 b_law_number

/-- _law_odd(_law_cell); slots _law_cell _law_number_here _law_some -/
noncomputable def b_law_odd : CS := (sSeq (sSet 1 (eB strV (aCons (eBin modV (eBin fdivV (eVar 0) (eK (.int 16))) (eBin powV (eK (.int 10)) (eK (.int 50)))) aNil)))
    (sSeq (sSet 2 (eLst (aCons (eK (.str "")) (aCons (eK (.str "-")) (aCons (eK (.str "-0")) (aCons (eK (.str "00")) (aCons (eBin addV (eK (.str "0")) (eVar 1)) (aCons (eBin addV (eK (.str "-0")) (eVar 1)) (aCons (eBin addV (eK (.str "+")) (eVar 1)) (aCons (eBin addV (eVar 1) (eK (.str "a"))) (aCons (eBin addV (eK (.str "1")) (eBin mulSV (eK (.str "0")) (eK (.int 60)))) aNil)))))))))))
    (sSeq (sSet 2 (eGc (eBin addV (eVar 2) (eLst (aCons (eBin addV (eK (.str "-2")) (eBin mulSV (eK (.str "7")) (eK (.int 60)))) (aCons (eBin addV (eK (.str " ")) (eVar 1)) (aCons (eBin addV (eVar 1) (eK (.str " "))) (aCons (eBin addV (eVar 1) (eK (.str "."))) (aCons (eBin addV (eK (.str "--")) (eVar 1)) (aCons (eK (.str "x")) (aCons (eK (.str "1_0")) aNil)))))))))))
    (sRet (eBin getV (eVar 2) (eBin modV (eVar 0) (eK (.int 16))))))))
noncomputable def m_law_odd : DF := runD 3 b_law_odd

/-- _law_listed(_law_words); slots _law_words -/
noncomputable def b_law_listed : CS := (sRet (eBin addV (eBin addV (eK (.str "[")) (eJoin (eK (.str ",")) (eVar 0))) (eK (.str "]"))))
noncomputable def m_law_listed : DF := runD 1 b_law_listed

/-- _law_spoiled(_law_words, _law_cell); slots _law_words _law_cell _law_line _law_at _law_more _law_place _law_odd_here -/
noncomputable def b_law_spoiled : CS := (sSeq (sSet 2 (eCall 1 m_law_listed (aCons (eVar 0) aNil)))
    (sSeq (sSet 3 (eBin modV (eBin fdivV (eVar 1) (eK (.int 8))) (eBin addV (eB lenV (aCons (eVar 2) aNil)) (eK (.int 1)))))
    (sSeq (sSet 4 (eBin fdivV (eVar 1) (eK (.int 8))))
    (sSeq (sIf (tGc (cOr (tBl (eBin eqV (eBin modV (eVar 1) (eK (.int 8))) (eK (.int 0)))) (tBl (eBin eqV (eVar 0) (eLst aNil))))) (sSeq (sSet 5 (eBin modV (eVar 4) (eBin addV (eB lenV (aCons (eVar 0) aNil)) (eK (.int 1)))))
    (sSeq (sSet 0 (eGc (eBin addV (eBin addV (eSlice (eVar 0) oNone (oSome (eVar 5))) (eLst (aCons (eCall 1 m_law_odd (aCons (eBin fdivV (eVar 4) (eK (.int 41))) aNil)) aNil))) (eSlice (eVar 0) (oSome (eVar 5)) oNone))))
    (sRet (eGc (eCall 1 m_law_listed (aCons (eGc (eBin addV (eVar 0) (eLst (aCons (eK (.str "x")) aNil)))) aNil)))))) sNext)
    (sSeq (sIf (tBl (eBin ltV (eBin modV (eVar 1) (eK (.int 8))) (eK (.int 3)))) (sSeq (sSet 5 (eBin modV (eVar 4) (eB lenV (aCons (eVar 0) aNil))))
    (sSeq (sSet 6 (eCall 1 m_law_odd (aCons (eBin fdivV (eVar 4) (eK (.int 41))) aNil)))
    (sSeq (sIf (cAnd (tBl (eBin eqV (eVar 6) (eK (.str "")))) (tBl (eBin eqV (eB lenV (aCons (eVar 0) aNil)) (eK (.int 1))))) (sSet 6 (eK (.str "x"))) sNext)
    (sRet (eGc (eCall 1 m_law_listed (aCons (eGc (eBin addV (eBin addV (eSlice (eVar 0) oNone (oSome (eVar 5))) (eLst (aCons (eVar 6) aNil))) (eSlice (eVar 0) (oSome (eBin addV (eVar 5) (eK (.int 1)))) oNone))) aNil))))))) sNext)
    (sSeq (sIf (tBl (eBin eqV (eBin modV (eVar 1) (eK (.int 8))) (eK (.int 3)))) (sRet (eGc (eBin addV (eBin addV (eSlice (eVar 2) oNone (oSome (eVar 3))) (eBin getV (eLst (aCons (eK (.str "[")) (aCons (eK (.str "]")) (aCons (eK (.str " ")) (aCons (eK (.str "(")) (aCons (eK (.str "a")) (aCons (eK (.str ";")) (aCons (eK (.str "\n")) (aCons (eK (.str "+")) aNil))))))))) (eBin modV (eBin fdivV (eVar 4) (eK (.int 7))) (eK (.int 8))))) (eSlice (eVar 2) (oSome (eVar 3)) oNone)))) sNext)
    (sSeq (sIf (tBl (eBin eqV (eBin modV (eVar 1) (eK (.int 8))) (eK (.int 4)))) (sRet (eGc (eBin getV (eLst (aCons (eSlice (eVar 2) (oSome (eK (.int 1))) oNone) (aCons (eSlice (eVar 2) oNone (oSome (eNeg (eK (.int 1))))) (aCons (eSlice (eVar 2) (oSome (eK (.int 1))) (oSome (eNeg (eK (.int 1))))) (aCons (eBin addV (eK (.str "(")) (eSlice (eVar 2) (oSome (eK (.int 1))) oNone)) (aCons (eBin addV (eSlice (eVar 2) oNone (oSome (eNeg (eK (.int 1))))) (eK (.str ")"))) aNil)))))) (eBin modV (eVar 4) (eK (.int 5)))))) sNext)
    (sSeq (sIf (tBl (eBin eqV (eBin modV (eVar 1) (eK (.int 8))) (eK (.int 5)))) (sRet (eGc (eCall 1 m_law_listed (aCons (eGc (eBin addV (eVar 0) (eBin mulV (eLst (aCons (eK (.str "7")) aNil)) (eBin addV (eBin subV (eK (.int 41)) (eB lenV (aCons (eVar 0) aNil))) (eBin modV (eVar 4) (eK (.int 3))))))) aNil)))) sNext)
    (sSeq (sIf (tBl (eBin eqV (eBin modV (eVar 1) (eK (.int 8))) (eK (.int 6)))) (sRet (eGc (eBin getV (eLst (aCons (eK (.str ".")) (aCons (eK (.str "(.,5,.)")) (aCons (eK (.str "nil")) (aCons (eK (.str "")) (aCons (eK (.str "[.]")) (aCons (eK (.str "[[]]")) aNil))))))) (eBin modV (eVar 4) (eK (.int 6)))))) sNext)
    (sRet (eGc (eBin getV (eLst (aCons (eK .non) (aCons (eK (.int 7)) (aCons (eTup (aCons (eK (.str "[]")) aNil)) (aCons (eLst (aCons (eK (.str "[]")) aNil)) (aCons (eK (.bl true)) (aCons (eTup aNil) aNil))))))) (eBin modV (eVar 4) (eK (.int 6)))))))))))))))
noncomputable def m_law_spoiled : DF := runD 7 b_law_spoiled

/-- law(_law_script); slots _law_script _law_numbers _law_words _law_line _law_found _law_cell _law_one _law_bad _law_number_here -/
noncomputable def b_law : CS := (sSeq (sSet 1 (eLc (.name 5) (iAny (eSlice (eVar 0) (oSome (eK (.int 2))) (oSome (eK (.int 42))))) tYes' (eCall 1 m_law_number (aCons (eVar 5) aNil)) [5]))
    (sSeq (sSet 2 (eLc (.name 8) (iAny (eVar 1)) tYes' (eB strV (aCons (eVar 8) aNil)) [8]))
    (sSeq (sSet 3 (eCall 1 m_law_listed (aCons (eVar 2) aNil)))
    (sSeq (sSet 4 (eCall 2 m_read_arg (aCons (eK (.str "list")) (aCons (eVar 3) aNil))))
    (sSeq (sIf (cOr (cNot (tTru (eB (isinstV "tuple") (aCons (eVar 4) (aCons (eK (.ty "tuple")) aNil))))) (cOr (tBl (eBin neV (eVar 4) (eB tupleV (aCons (eVar 1) aNil)))) (tBl (eBin neV (eCall 2 (m_show_arg 30) (aCons (eK (.str "list")) (aCons (eB tupleV (aCons (eVar 1) aNil)) aNil))) (eVar 3))))) (sRet (eK (.bl false))) sNext)
    (sSeq (sIf (tGc (tBl (eBin neV (eGc (eB lenV (aCons (eLc (.name 6) (iAny (eVar 4)) (tTru (eCall 1 m_law_whole (aCons (eVar 6) aNil))) (eVar 6) [6]) aNil))) (eB lenV (aCons (eVar 1) aNil))))) (sRet (eK (.bl false))) sNext)
    (sSeq (sSet 5 (eCall 2 m_law_cell_at (aCons (eVar 0) (aCons (eK (.int 0)) aNil))))
    (sSeq (sIf (cNot (tTru (eCall 2 m_law_refused (aCons (eK (.str "list")) (aCons (eCall 2 m_law_spoiled (aCons (eVar 2) (aCons (eVar 5) aNil))) aNil))))) (sRet (eK (.bl false))) sNext)
    (sSeq (sSet 6 (eCall 1 m_law_number (aCons (eCall 2 m_law_cell_at (aCons (eVar 0) (aCons (eK (.int 1)) aNil))) aNil)))
    (sSeq (sSet 4 (eCall 2 m_read_arg (aCons (eK (.str "num")) (aCons (eB strV (aCons (eVar 6) aNil)) aNil))))
    (sSeq (sIf (cOr (cNot (tTru (eCall 1 m_law_whole (aCons (eVar 4) aNil)))) (cOr (tBl (eBin neV (eVar 4) (eVar 6))) (tBl (eBin neV (eCall 2 (m_show_arg 30) (aCons (eK (.str "num")) (aCons (eVar 6) aNil))) (eB strV (aCons (eVar 6) aNil)))))) (sRet (eK (.bl false))) sNext)
    (sSeq (sSet 7 (eGc (eBin getV (eLst (aCons (eCall 1 m_law_odd (aCons (eBin fdivV (eVar 5) (eK (.int 3))) aNil)) (aCons (eVar 3) (aCons (eK (.str ".")) (aCons (eK .non) (aCons (eVar 6) (aCons (eTup (aCons (eB strV (aCons (eVar 6) aNil)) aNil)) aNil))))))) (eBin modV (eVar 5) (eK (.int 6))))))
    (sRet (eAnd (eCall 2 m_law_refused (aCons (eK (.str "num")) (aCons (eVar 7) aNil))) (eAnd (eCall 2 m_law_refused (aCons (eK (.str "list")) (aCons (eB strV (aCons (eVar 6) aNil)) aNil))) (eBin eqV (eCall 2 m_read_arg (aCons (eK (.str "list")) (aCons (eVar 3) aNil))) (eB tupleV (aCons (eVar 1) aNil))))))))))))))))))
noncomputable def m_law : DF := runD 9 b_law

end K80

set_option Elab.async false
set_option linter.all false
set_option maxRecDepth 100000
set_option maxHeartbeats 1000000
/-! TT2: equality of plain values, loops and comprehensions by an invariant, texts of numbers. -/
namespace TL
open PySem PySem.Spec PyProof.Rows L2
/-! ### equality of plain values -/
/-- none, ints, texts, tuples of these, at most k deep -/
def okV : Nat → PV → Bool
  | _, .non => true
  | _, .int _ => true
  | _, .str x => PySem.PyData.strOk x
  | k + 1, .tup xs => xs.all (okV k)
  | _, _ => false
mutual
def datV : PV → PyData
  | .non => .none
  | .int i => .int i
  | .str x => .str x
  | .tup xs => .tuple (datsV xs)
  | .bl b => .bool b
  | _ => .none
def datsV : List PV → List PyData
  | [] => []
  | x :: xs => datV x :: datsV xs
end
theorem toD_dat (S : Store) : ∀ (k : Nat) (x : PV), okV k x = true → ∀ l, k ≤ l → toD S l x = some (datV x) := by
  intro k
  induction k with
  | zero =>
    intro x h l _
    cases x with
    | non => cases l <;> rfl
    | int i => cases l <;> rfl
    | str z => cases l <;> rfl
    | _ => cases h
  | succ k ih =>
    intro x h l hl
    cases x with
    | non => cases l <;> rfl
    | int i => cases l <;> rfl
    | str z => cases l <;> rfl
    | tup xs =>
      cases l with
      | zero => omega
      | succ l =>
        have h' : xs.all (okV k) = true := h
        have all : ∀ ys : List PV, ys.all (okV k) = true → dList (toD S l) ys = some (datsV ys) := by
          intro ys
          induction ys with
          | nil => intro _; rfl
          | cons y ys ihy =>
            intro hy
            have hy' := Bool.and_eq_true_iff.mp hy
            unfold dList
            rw [ih y hy'.1 l (by omega), ihy hy'.2]
            rfl
        show (dList (toD S l) xs).map PyData.tuple = _
        rw [all xs h']
        rfl
    | _ => cases h
theorem dat_shape : ∀ (k : Nat) (x : PV), okV k x = true → (datV x).canLay0 = true ∧ (datV x).depth ≤ k := by
  intro k
  induction k with
  | zero =>
    intro x h
    cases x with
    | non => exact ⟨rfl, Nat.zero_le _⟩
    | int i => exact ⟨rfl, Nat.zero_le _⟩
    | str z => exact ⟨h, Nat.zero_le _⟩
    | _ => cases h
  | succ k ih =>
    intro x h
    cases x with
    | non => exact ⟨rfl, Nat.zero_le _⟩
    | int i => exact ⟨rfl, Nat.zero_le _⟩
    | str z => exact ⟨h, Nat.zero_le _⟩
    | tup xs =>
      have h' : xs.all (okV k) = true := h
      have all : ∀ ys : List PV, ys.all (okV k) = true → PyData.canLayAll0 (datsV ys) = true ∧ PyData.depthAll (datsV ys) ≤ k := by
        intro ys
        induction ys with
        | nil => intro _; exact ⟨rfl, Nat.zero_le _⟩
        | cons y ys ihy =>
          intro hy
          have hy' := Bool.and_eq_true_iff.mp hy
          obtain ⟨a1, a2⟩ := ih y hy'.1
          obtain ⟨b1, b2⟩ := ihy hy'.2
          exact ⟨Bool.and_eq_true_iff.mpr ⟨a1, b1⟩, Nat.max_le.mpr ⟨a2, b2⟩⟩
      obtain ⟨a1, a2⟩ := all xs h'
      refine ⟨a1, ?_⟩
      show PyData.depth (.tuple (datsV xs)) ≤ k + 1
      simp only [PyData.depth]
      omega
    | _ => cases h
theorem dat_eqv : ∀ (k : Nat) (x y : PV), okV k x = true → okV k y = true → PyData.eqv (datV x) (datV y) = decide (x = y) := by
  intro k
  induction k with
  | zero =>
    intro x y hx hy
    cases x <;> first | (cases hx; done) | skip
    all_goals cases y <;> first | (cases hy; done) | skip
    all_goals first | (simp [datV, PyData.eqv]; done) | skip
    · rename_i i j
      show (i == j) = decide (PV.int i = PV.int j)
      by_cases q : i = j
      · subst q; simp
      · simp [q]
    · rename_i i j
      show (i == j) = decide (PV.str i = PV.str j)
      by_cases q : i = j
      · subst q; simp
      · simp [q]
  | succ k ih =>
    intro x y hx hy
    cases x <;> first | (cases hx; done) | skip
    all_goals cases y <;> first | (cases hy; done) | skip
    all_goals first | (simp [datV, PyData.eqv]; done) | skip
    · rename_i i j
      show (i == j) = decide (PV.int i = PV.int j)
      by_cases q : i = j
      · subst q; simp
      · simp [q]
    · rename_i i j
      show (i == j) = decide (PV.str i = PV.str j)
      by_cases q : i = j
      · subst q; simp
      · simp [q]
    · rename_i xs ys
      have all : ∀ xs ys : List PV, xs.all (okV k) = true → ys.all (okV k) = true → PyData.eqvAll (datsV xs) (datsV ys) = decide (xs = ys) := by
        intro xs
        induction xs with
        | nil =>
          intro ys _ _
          cases ys with
          | nil => simp [datsV, PyData.eqvAll]
          | cons y ys => simp [datsV, PyData.eqvAll]
        | cons x xs ihx =>
          intro ys h1 h2
          cases ys with
          | nil => simp [datsV, PyData.eqvAll]
          | cons y ys =>
            have h1' := Bool.and_eq_true_iff.mp h1
            have h2' := Bool.and_eq_true_iff.mp h2
            simp only [datsV, PyData.eqvAll]
            rw [ih x y h1'.1 h2'.1, ihx ys h1'.2 h2'.2]
            by_cases q1 : x = y
            · by_cases q2 : xs = ys
              · simp [q1, q2]
              · simp [q1, q2]
            · simp [q1]
      show PyData.eqvAll (datsV xs) (datsV ys) = decide (PV.tup xs = PV.tup ys)
      rw [all xs ys hx hy]
      by_cases q : xs = ys
      · subst q; simp
      · simp [q]
theorem eqD_ok {k : Nat} (g : Bool → Bool) {x y : PV} {S : Store} (hk : k ≤ 64) (hx : okV k x = true) (hy : okV k y = true) : eqD g x y S = .ok (.bl (g (decide (x = y)))) S := by
  have s1 : SeqAt.shaped (datV x) = true := by
    obtain ⟨a, b⟩ := dat_shape k x hx
    exact Bool.and_eq_true_iff.mpr ⟨a, decide_eq_true (by omega)⟩
  have s2 : SeqAt.shaped (datV y) = true := by
    obtain ⟨a, b⟩ := dat_shape k y hy
    exact Bool.and_eq_true_iff.mpr ⟨a, decide_eq_true (by omega)⟩
  unfold eqD
  rw [toD_dat S k x hx 66 (by omega), toD_dat S k y hy 66 (by omega)]
  simp only [s1, s2, and_self, if_true]
  rw [dat_eqv k x y hx hy]
theorem eqG_ok {k : Nat} (g : Bool → Bool) {x y : PV} {S : Store} (hk : k ≤ 64) (hx : okV k x = true) (hy : okV k y = true) : eqG g x y S = .ok (.bl (g (decide (x = y)))) S := by
  have d := eqD_ok g (S := S) hk hx hy
  cases x with
  | int i =>
    cases y with
    | int j =>
      show Res.ok (PV.bl (g (decide (i = j)))) S = _
      by_cases q : i = j
      · simp [q]
      · simp [q]
    | _ => exact d
  | str i =>
    cases y with
    | str j =>
      show Res.ok (PV.bl (g (decide (i = j)))) S = _
      by_cases q : i = j
      · simp [q]
      · simp [q]
    | _ => exact d
  | _ => exact d
theorem okV_mono : ∀ {k l : Nat} {x : PV}, k ≤ l → okV k x = true → okV l x = true := by
  intro k
  induction k with
  | zero =>
    intro l x _ h
    cases x with
    | non => cases l <;> rfl
    | int i => cases l <;> rfl
    | str z => cases l <;> exact h
    | _ => cases h
  | succ k ih =>
    intro l x hl h
    cases x with
    | non => cases l <;> rfl
    | int i => cases l <;> rfl
    | str z => cases l <;> exact h
    | tup xs =>
      cases l with
      | zero => omega
      | succ l =>
        have h' : xs.all (okV k) = true := h
        show xs.all (okV l) = true
        rw [List.all_eq_true] at h' ⊢
        exact fun x hx => ih (by omega) (h' x hx)
    | _ => cases h
/-! ### the store -/
theorem get_app {S J : Store} {i : Nat} {o : PO} (h : S[i]? = some o) : (S ++ J)[i]? = some o := by
  rw [List.getElem?_append_left (List.getElem?_eq_some_iff.mp h).1]
  exact h
theorem get_ne {S : Store} {i j : Nat} {o p : PO} (h : S[i]? = some o) (hj : j ≠ i) : (S.set j p)[i]? = some o := by
  rw [List.getElem?_set_ne hj]
  exact h
theorem get_set {S : Store} {i : Nat} {o p : PO} (h : S[i]? = some o) : (S.set i p)[i]? = some p := List.getElem?_set_self (List.getElem?_eq_some_iff.mp h).1
@[simp] theorem get_last {S : Store} {o : PO} : (S ++ [o])[S.length]? = some o := by simp
/-! ### a loop, by what holds at each turn -/
theorem forN_inv {t : TT'} {b : CS} {ck : Chk} {all : List PV} (P : Nat → Sl → Store → Prop) (hc : ∀ i ρ S, P i ρ S → chk ck S)
    (hs : ∀ (i : Nat) (x : PV) (ρ : Sl) (S : Store), all[i]? = some x → P i ρ S → ∃ ρ1, setT t x ρ = some ρ1 ∧ ∃ ρ' S', (b ρ1 S = .next ρ' S' ∨ b ρ1 S = .cont ρ' S') ∧ P (i + 1) ρ' S') :
    ∀ (k i : Nat) (ρ : Sl) (S : Store), i + k = all.length → P i ρ S → ∃ ρ' S', forN t b ck (all.drop i) ρ S = .next ρ' S' ∧ P all.length ρ' S'
  | 0, i, ρ, S, h, p => by
    have e : i = all.length := by omega
    subst e
    refine ⟨ρ, S, ?_, p⟩
    rw [List.drop_length]
    unfold forN
    rw [if_pos (hc _ _ _ p)]
  | k + 1, i, ρ, S, h, p => by
    have hi : i < all.length := by omega
    obtain ⟨ρ1, e1, ρ', S', e2, p'⟩ := hs i all[i] ρ S (List.getElem?_eq_getElem hi) p
    obtain ⟨ρ2, S2, e3, p2⟩ := forN_inv P hc hs k (i + 1) ρ' S' (by omega) p'
    refine ⟨ρ2, S2, ?_, p2⟩
    rw [List.drop_eq_getElem_cons hi]
    unfold forN
    rw [if_pos (hc _ _ _ p), e1]
    rcases e2 with e2 | e2
    · simp only [e2, e3]
    · simp only [e2, e3]
theorem for_inv {t : TT'} {b : CS} {ck : Chk} {all : List PV} {ρ : Sl} {S : Store} (P : Nat → Sl → Store → Prop) (h0 : P 0 ρ S) (hc : ∀ i ρ S, P i ρ S → chk ck S)
    (hs : ∀ (i : Nat) (x : PV) (ρ : Sl) (S : Store), all[i]? = some x → P i ρ S → ∃ ρ1, setT t x ρ = some ρ1 ∧ ∃ ρ' S', (b ρ1 S = .next ρ' S' ∨ b ρ1 S = .cont ρ' S') ∧ P (i + 1) ρ' S') :
    ∃ ρ' S', forN t b ck all ρ S = .next ρ' S' ∧ P all.length ρ' S' := by
  have h := forN_inv P hc hs all.length 0 ρ S (by omega) h0
  rw [List.drop_zero] at h
  exact h
/-- a comprehension whose element leaves the store -/
theorem lcN_map {i : Nat} {te : CE PV} {f : PV → PV} {ck : Chk} {d : Nat} {ρ : Sl} {S : Store} (hd : d < S.length) (hck : ∀ zs, chk ck (S.set d (.lst zs))) :
    ∀ (xs acc : List PV), acc.length + xs.length ≤ sizeLine → (∀ x ∈ xs, ∀ zs, te (ρ.set i (some x)) (S.set d (.lst zs)) = .ok (f x) (S.set d (.lst zs))) →
    lcN (.name i) tYes' te ck d ρ xs (S.set d (.lst acc)) = .ok (.obj d) (S.set d (.lst (acc ++ xs.map f)))
  | [], acc, _, _ => by
    unfold lcN
    rw [if_pos (hck acc)]
    simp
  | x :: xs, acc, hl, h => by
    have ih := lcN_map hd hck xs (acc ++ [f x]) (by simp at hl ⊢; omega) fun y hy => h y (List.mem_cons_of_mem _ hy)
    have e1 := h x (List.mem_cons_self ..) acc
    have e2 : (S.set d (.lst acc))[d]? = some (.lst acc) := List.getElem?_set_self hd
    have hz : acc.length < sizeLine := by simp at hl; omega
    unfold lcN
    rw [if_pos (hck acc)]
    show (match (Res.ok true (S.set d (.lst acc)) : Res Bool) with
      | .ok q S1 => if q = true then match te (ρ.set i (some x)) S1 with
        | .ok y S2 => match S2[d]? with
          | some (.lst acc) => if acc.length < sizeLine then lcN (.name i) tYes' te ck d ρ xs (S2.set d (.lst (acc ++ [y]))) else .stuck
          | _ => .stuck
        | _ => .stuck
        else lcN (.name i) tYes' te ck d ρ xs S1
      | _ => .stuck) = _
    simp only [e1, e2, if_true, hz, List.set_set]
    rw [ih]
    simp
/-- [e for x in i], the store left but for the new list -/
theorem eLc_map {i : Nat} {te : CE PV} {f : PV → PV} {vs : List Nat} {it : CE (List PV × Chk)} {ρ : Sl} {S S1 : Store} {xs : List PV} {ck : Chk} (hi : it ρ S = .ok (xs, ck) S1) (hck : chk ck S1) (hl : xs.length ≤ sizeLine)
    (h : ∀ x ∈ xs, ∀ zs, te ((wipeP ρ vs).set i (some x)) (S1 ++ [.lst zs]) = .ok (f x) (S1 ++ [.lst zs])) : eLc (.name i) it tYes' te vs ρ S = .ok (.obj S1.length) (S1 ++ [.lst (xs.map f)]) := by
  have es : ∀ zs : List PV, (S1 ++ [PO.lst []]).set S1.length (.lst zs) = S1 ++ [.lst zs] := by
    intro zs
    rw [List.set_append_right _ _ (Nat.le_refl _), Nat.sub_self]
    rfl
  have := lcN_map (i := i) (te := te) (f := f) (ck := ck) (d := S1.length) (ρ := wipeP ρ vs) (S := S1 ++ [.lst []]) (by simp) (by
    intro zs
    rw [es]
    exact fun p hp => get_app (hck p hp)) xs [] (by simpa using hl) (by
    intro x hx zs
    rw [es]
    exact h x hx zs)
  unfold eLc
  rw [hi]
  show lcN (.name i) tYes' te ck S1.length (wipeP ρ vs) xs (S1 ++ [.lst []]) = _
  rw [es, es] at this
  rw [this]
  simp
/-! ### the text of a number -/
def tS (i : Int) : Str := Str.ofString (toString i)
@[simp] theorem strV_int (i : Int) (S : Store) : strV [.int i] S = if i.natAbs.log2 < 1920 then .ok (.str (tS i)) S else .stuck := rfl
@[simp] theorem addV_str (a b : Str) (S : Store) : addV (.str a) (.str b) S = if a.length + b.length ≤ sizeLine then .ok (.str (a ++ b)) S else .stuck := rfl
def zL (i : Int) : List Nat := if i < 0 then 45 :: numL i.natAbs else numL i.natAbs
theorem tl_zL (i : Int) : tl (tS i) = zL i := by
  unfold zL
  by_cases h : i < 0
  · rw [if_pos h]
    obtain ⟨n, rfl⟩ := Int.eq_negSucc_of_lt_zero h
    have e : tl (tS (Int.negSucc n)) = 45 :: tl (Str.ofString (toString (((n + 1 : Nat)) : Int))) := by
      unfold tS tl
      rw [PyProof.Rows.signs_ofString, PyProof.Rows.signs_ofString]
      rw [show toString (Int.negSucc n) = "-" ++ Nat.repr (n + 1) from rfl, String.toList_append, List.map_append]
      rfl
    rw [e, tl_num]
    rfl
  · rw [if_neg h]
    obtain ⟨n, rfl⟩ := Int.eq_ofNat_of_zero_le (by omega : 0 ≤ i)
    exact tl_num n
theorem zL_free {s : Nat} (i : Int) (h : s < 48 ∨ 57 < s) (h2 : s ≠ 45) : s ∉ zL i := by
  unfold zL
  split
  · intro hm
    rcases List.mem_cons.mp hm with z | z
    · exact h2 z
    · exact numL_free h z
  · exact numL_free h
theorem zL_inj {i j : Int} (h : zL i = zL j) : i = j := by
  unfold zL at h
  have no : ∀ (m n : Nat), 45 :: numL m ≠ numL n := fun m n e => numL_free (n := n) (s := 45) (.inl (by decide)) (by rw [← e]; exact List.mem_cons_self ..)
  split at h
  · split at h
    · have := numL_inj (List.cons.inj h).2
      omega
    · exact absurd h (no _ _)
  · split at h
    · exact absurd h.symm (no _ _)
    · have := numL_inj h
      omega
theorem tS_inj {i j : Int} (h : tS i = tS j) : i = j := zL_inj (by rw [← tl_zL, ← tl_zL, h])
theorem tS_len {i : Int} {k : Nat} (hk : 0 < k) (h : i.natAbs < 10 ^ k) : (tS i).length ≤ k + 1 := by
  rw [len_tl, tl_zL]
  unfold zL
  have := numL_len hk h
  split
  · simp; omega
  · omega
theorem tS_ok (i : Int) : PySem.PyData.strOk (tS i) = true := by
  unfold PySem.PyData.strOk
  rw [Array.all_eq_true_iff_forall_mem]
  intro c hc
  have h : c ∈ tl (tS i) := Array.mem_toList_iff.mpr hc
  rw [tl_zL] at h
  refine decide_eq_true ?_
  unfold zL at h
  split at h
  · rcases List.mem_cons.mp h with z | z
    · omega
    · have := numL_digits _ c z
      omega
  · have := numL_digits _ c h
    omega
theorem log_small {i : Int} {k : Nat} (h : i.natAbs < 2 ^ k) (k0 : 0 < k) (hk : k ≤ 1920) : i.natAbs.log2 < 1920 := by
  have := log2_small h k0
  omega
/-! ### step by step -/
theorem seq_next {a b : CS} {ρ ρ' : Sl} {S S' : Store} (h : a ρ S = .next ρ' S') : sSeq a b ρ S = b ρ' S' := by rw [sSeq_ap, h]
theorem seq_set {i : Nat} {c : CE PV} {b : CS} {ρ : Sl} {S S1 : Store} {x : PV} (h : c ρ S = .ok x S1) : sSeq (sSet i c) b ρ S = b (ρ.set i (some x)) S1 := seq_next (by rw [sSet_ap, h]; rfl)
theorem seq_drop {c : CE PV} {b : CS} {ρ : Sl} {S S1 : Store} {x : PV} (h : c ρ S = .ok x S1) : sSeq (sDrop c) b ρ S = b ρ S1 := seq_next (by rw [sDrop_ap, h]; rfl)
theorem seq_if {t : CE Bool} {a c b : CS} {ρ : Sl} {S S1 : Store} {k : Bool} (h : t ρ S = .ok k S1) : sSeq (sIf t a c) b ρ S = (match (if k = true then a ρ S1 else c ρ S1) with
  | .next ρ' S' => b ρ' S'
  | r => r) := by rw [sSeq_ap, sIf_ap, h]; rfl
theorem seq_no {t : CE Bool} {a b : CS} {ρ : Sl} {S S1 : Store} (h : t ρ S = .ok false S1) : sSeq (sIf t a sNext) b ρ S = b ρ S1 := by rw [seq_if h]; rfl
theorem seq_yes {t : CE Bool} {a c b : CS} {ρ ρ' : Sl} {S S1 S' : Store} (h : t ρ S = .ok true S1) (h2 : a ρ S1 = .next ρ' S') : sSeq (sIf t a c) b ρ S = b ρ' S' := by rw [seq_if h, if_pos rfl, h2]
theorem seq_for {t : TT'} {i : CE (List PV × Chk)} {b d : CS} {ρ ρ' : Sl} {S S1 S' : Store} {all : List PV} {ck : Chk} (h : i ρ S = .ok (all, ck) S1) (h2 : forN t b ck all ρ S1 = .next ρ' S') : sSeq (sFor t i b) d ρ S = d ρ' S' := seq_next (by rw [sFor_ap, h]; exact h2)
theorem ret_eq {c : CE PV} {ρ : Sl} {S S1 : Store} {x : PV} (h : c ρ S = .ok x S1) : sRet c ρ S = .ret x S1 := by rw [sRet_ap, h]; rfl
/-- r goes on, with P; r gives True -/
def Nx (P : Sl → Store → Prop) (r : SR) : Prop := ∃ ρ' S', r = .next ρ' S' ∧ P ρ' S'
def Rt (r : SR) : Prop := ∃ S, r = .ret (.bl true) S
def Rv (x : PV) (P : Store → Prop) (r : SR) : Prop := ∃ S, r = .ret x S ∧ P S
theorem Rt.out {n : Nat} {b : CS} {xs : List PV} {S : Store} (h : Rt (b (startP n xs) S)) : ∃ S', runD n b xs S = .ok (.bl true) S' := by
  obtain ⟨S', e⟩ := h
  exact ⟨S', by rw [runD_ap, e]; rfl⟩
theorem st_next {G : SR → Prop} {a b : CS} {ρ ρ' : Sl} {S S' : Store} (h : a ρ S = .next ρ' S') (k : G (b ρ' S')) : G (sSeq a b ρ S) := by rw [seq_next h]; exact k
theorem st_set {G : SR → Prop} {i : Nat} {c : CE PV} {b : CS} {ρ : Sl} {S : Store} (x : PV) (S1 : Store) (h : c ρ S = .ok x S1) (k : G (b (ρ.set i (some x)) S1)) : G (sSeq (sSet i c) b ρ S) := by rw [seq_set h]; exact k
theorem st_drop {G : SR → Prop} {c : CE PV} {b : CS} {ρ : Sl} {S : Store} (x : PV) (S1 : Store) (h : c ρ S = .ok x S1) (k : G (b ρ S1)) : G (sSeq (sDrop c) b ρ S) := by rw [seq_drop h]; exact k
theorem st_no {G : SR → Prop} {t : CE Bool} {a b : CS} {ρ : Sl} {S : Store} (S1 : Store) (h : t ρ S = .ok false S1) (k : G (b ρ S1)) : G (sSeq (sIf t a sNext) b ρ S) := by rw [seq_no h]; exact k
theorem st_yes {G : SR → Prop} {t : CE Bool} {a c b : CS} {ρ : Sl} {S : Store} (S1 : Store) (h : t ρ S = .ok true S1) (k : G (sSeq a b ρ S1)) : G (sSeq (sIf t a c) b ρ S) := by rw [seq_if h, if_pos rfl]; exact k
theorem st_else {G : SR → Prop} {t : CE Bool} {a c b : CS} {ρ : Sl} {S : Store} (S1 : Store) (h : t ρ S = .ok false S1) (k : G (sSeq c b ρ S1)) : G (sSeq (sIf t a c) b ρ S) := by rw [seq_if h, if_neg Bool.false_ne_true]; exact k
theorem st_nx {G : SR → Prop} {P : Sl → Store → Prop} {a b : CS} {ρ : Sl} {S : Store} (h : Nx P (a ρ S)) (k : ∀ ρ' S', P ρ' S' → G (b ρ' S')) : G (sSeq a b ρ S) := by
  obtain ⟨ρ', S', e, p⟩ := h
  rw [seq_next e]
  exact k ρ' S' p
theorem st_assoc {G : SR → Prop} {a b c : CS} {ρ : Sl} {S : Store} (h : G (sSeq a (sSeq b c) ρ S)) : G (sSeq (sSeq a b) c ρ S) := by
  have e : sSeq (sSeq a b) c ρ S = sSeq a (sSeq b c) ρ S := by
    rw [sSeq_ap, sSeq_ap, sSeq_ap]
    cases a ρ S <;> rfl
  rw [e]
  exact h
theorem st_ret {x : PV} {P : Store → Prop} {c : CE PV} {ρ : Sl} {S : Store} (S1 : Store) (h : c ρ S = .ok x S1) (p : P S1) : Rv x P (sRet c ρ S) := ⟨S1, ret_eq h, p⟩
theorem st_true {c : CE PV} {ρ : Sl} {S : Store} (S1 : Store) (h : c ρ S = .ok (.bl true) S1) : Rt (sRet c ρ S) := ⟨S1, ret_eq h⟩
theorem nx_setIx {P : Sl → Store → Prop} {co ci c : CE PV} {ρ : Sl} {S S1 S2 S3 S4 : Store} {x o k : PV} (h1 : c ρ S = .ok x S1) (h2 : co ρ S1 = .ok o S2) (h3 : ci ρ S2 = .ok k S3) (h4 : setV o k x S3 = some S4) (p : P ρ S4) : Nx P (sSetIx co ci c ρ S) := by
  refine ⟨ρ, S4, ?_, p⟩
  rw [sSetIx_ap, h1]
  show sb (co ρ S1) ρ _ = _
  rw [h2]
  show sb (ci ρ S2) ρ _ = _
  rw [h3]
  show (match setV o k x S3 with | some S4 => SR.next ρ S4 | none => .stuck) = _
  rw [h4]
theorem nx_set {P : Sl → Store → Prop} {i : Nat} {c : CE PV} {ρ : Sl} {S : Store} (x : PV) (S1 : Store) (h : c ρ S = .ok x S1) (p : P (ρ.set i (some x)) S1) : Nx P (sSet i c ρ S) := ⟨_, S1, by rw [sSet_ap, h]; rfl, p⟩
theorem nx_drop {P : Sl → Store → Prop} {c : CE PV} {ρ : Sl} {S : Store} (x : PV) (S1 : Store) (h : c ρ S = .ok x S1) (p : P ρ S1) : Nx P (sDrop c ρ S) := ⟨_, S1, by rw [sDrop_ap, h]; rfl, p⟩
/-- for, by an invariant -/
theorem st_for {G : SR → Prop} {t : TT'} {i : CE (List PV × Chk)} {b d : CS} {ρ : Sl} {S S1 : Store} {all : List PV} {ck : Chk} (P : Nat → Sl → Store → Prop) (h : i ρ S = .ok (all, ck) S1) (h0 : P 0 ρ S1) (hc : ∀ i ρ S, P i ρ S → chk ck S)
    (hs : ∀ (i : Nat) (x : PV) (ρ : Sl) (S : Store), all[i]? = some x → P i ρ S → ∃ ρ1, setT t x ρ = some ρ1 ∧ Nx (P (i + 1)) (b ρ1 S)) (k : ∀ ρ' S', P all.length ρ' S' → G (d ρ' S')) : G (sSeq (sFor t i b) d ρ S) := by
  obtain ⟨ρ', S', e, p⟩ := for_inv P h0 hc fun i x ρ S hx hp => by
    obtain ⟨ρ1, e1, ρ', S', e2, p⟩ := hs i x ρ S hx hp
    exact ⟨ρ1, e1, ρ', S', .inl e2, p⟩
  rw [seq_for h e]
  exact k ρ' S' p
@[simp] theorem rngL_len (lo hi : Int) : (rngL lo hi).length = (hi - lo).toNat := by unfold rngL; simp
theorem rngL_get {lo hi : Int} {i : Nat} {x : PV} (h : (rngL lo hi)[i]? = some x) : x = .int (lo + (i : Int)) ∧ i < (hi - lo).toNat := by
  unfold rngL at h
  rw [List.getElem?_map] at h
  cases e : (List.range (hi - lo).toNat)[i]? with
  | none => rw [e] at h; cases h
  | some j =>
    rw [e] at h
    obtain ⟨h1, h2⟩ := List.getElem?_eq_some_iff.mp e
    rw [List.getElem_range] at h2
    subst h2
    refine ⟨(Option.some.inj h).symm, by simpa using h1⟩
@[simp] theorem iRange1_ap (c : CE PV) (ρ : Sl) (S : Store) : iRange1 c ρ S = (c ρ S).bind fun x S1 => match x with
  | .int j => if -(2 ^ 62) ≤ j ∧ j < 2 ^ 62 then .ok (rngL 0 j, []) S1 else .stuck
  | _ => .stuck := rfl
@[simp] theorem iRange2_ap (ca cb : CE PV) (ρ : Sl) (S : Store) : iRange2 ca cb ρ S = (ca ρ S).bind fun x S1 => (cb ρ S1).bind fun y S2 => match x, y with
  | .int i, .int j => if (-(2 ^ 62) ≤ i ∧ i < 2 ^ 62) ∧ -(2 ^ 62) ≤ j ∧ j < 2 ^ 62 then .ok (rngL i j, []) S2 else .stuck
  | _, _ => .stuck := rfl
@[simp] theorem iAny_ap (c : CE PV) (ρ : Sl) (S : Store) : iAny c ρ S = (c ρ S).bind fun x S1 => itemsV x S1 := rfl
theorem mod2 (c : Int) : c.fmod 2 = 0 ∨ c.fmod 2 = 1 := by
  have h1 := Int.fmod_nonneg_of_pos c (b := 2) (by omega)
  have h2 := Int.fmod_lt_of_pos c (b := 2) (by omega)
  omega
theorem mod3 (c : Int) : c.fmod 3 = 0 ∨ c.fmod 3 = 1 ∨ c.fmod 3 = 2 := by
  have h1 := Int.fmod_nonneg_of_pos c (b := 3) (by omega)
  have h2 := Int.fmod_lt_of_pos c (b := 3) (by omega)
  omega
theorem at_mod {cs : List Int} (h : cs ≠ []) (z : Int) : ∃ v ∈ cs, atI (cs.map PV.int) (z.fmod (cs.length : Int)) = some (.int v) := by
  have hl : 0 < cs.length := List.length_pos_iff.mpr h
  have h1 := Int.fmod_nonneg_of_pos z (b := (cs.length : Int)) (by omega)
  have h2 := Int.fmod_lt_of_pos z (b := (cs.length : Int)) (by omega)
  obtain ⟨n, hn⟩ := Int.eq_ofNat_of_zero_le h1
  rw [hn] at h2 ⊢
  have hn' : n < cs.length := by omega
  refine ⟨cs[n], List.getElem_mem hn', atI_nat ?_⟩
  rw [List.getElem?_map, List.getElem?_eq_getElem hn']
  rfl
@[simp] theorem iEnumP_ap (c : CE PV) (ρ : Sl) (S : Store) : iEnumP c ρ S = (c ρ S).bind fun x S1 => match seqC x S1 with
  | some (.l, xs, ck) => .ok (enumP xs, ck) S1
  | _ => .stuck := rfl
open Classical in
theorem iZipP_eq {ca cb : CE PV} {ρ : Sl} {S S1 S2 : Store} {x y : PV} {d e : Kd} {xs ys : List PV} {ck ck2 : Chk} (h1 : ca ρ S = .ok x S1) (h2 : cb ρ S1 = .ok y S2) (hx : seqC x S2 = some (d, xs, ck)) (hy : seqC y S2 = some (e, ys, ck2)) (hc : chk (ck ++ ck2) S2) :
    iZipP ca cb ρ S = .ok (zipP xs ys, ck ++ ck2) S2 := by
  unfold iZipP
  rw [h1]
  show (cb ρ S1).bind _ = _
  rw [h2]
  show (match seqC x S2, seqC y S2 with
    | some (_, xs, ck), some (_, ys, ck2) => if chk (ck ++ ck2) S2 then Res.ok (zipP xs ys, ck ++ ck2) S2 else .stuck
    | _, _ => .stuck) = _
  rw [hx, hy]
  exact if_pos hc
theorem seqC_tup (xs : List PV) (S : Store) : seqC (.tup xs) S = some (.t, xs, []) := rfl
theorem seqC_rol (xs : List PV) (S : Store) : seqC (.rol xs) S = some (.l, xs, []) := rfl
theorem seqC_obj {i : Nat} {xs : List PV} {S : Store} (h : S[i]? = some (.lst xs)) : seqC (.obj i) S = some (.l, xs, [(i, .lst xs)]) := by
  unfold seqC
  simp only [h]
@[simp] theorem bnd_int (n : Nat) (i : Int) : bnd n (.int i) = true := rfl
@[simp] theorem bnd_bl (n : Nat) (i : Bool) : bnd n (.bl i) = true := rfl
@[simp] theorem bnd_str (n : Nat) (i : Str) : bnd n (.str i) = true := rfl
@[simp] theorem bnd_non (n : Nat) : bnd n .non = true := rfl
@[simp] theorem bnd_tup (n : Nat) (xs : List PV) : bnd n (.tup xs) = bnds n xs := rfl
@[simp] theorem bnds_nil (n : Nat) : bnds n [] = true := rfl
@[simp] theorem bnds_cons (n : Nat) (x : PV) (xs : List PV) : bnds n (x :: xs) = (bnd n x && bnds n xs) := rfl
@[simp] theorem bnds_ints (n : Nat) (ns : List Int) : bnds n (ns.map .int) = true := bnds_all.mpr fun x hx => by
  obtain ⟨i, _, rfl⟩ := List.mem_map.mp hx
  rfl
theorem eGc_of {c : CE PV} {ρ : Sl} {S J : Store} {x : PV} (h : c ρ S = .ok x (S ++ J)) (hb : bnd S.length x = true) : eGc c ρ S = .ok x S := by
  rw [eGc_ap, h]
  exact gc_app hb
theorem eGc_new {c : CE PV} {ρ : Sl} {S J : Store} {i : Nat} {o : PO} (h : c ρ S = .ok (.obj i) (S ++ J)) (hi : S.length ≤ i) (e : (S ++ J)[i]? = some o) (ho : bndO S.length o = true) : eGc c ρ S = .ok (.obj S.length) (S ++ [o]) := by
  rw [eGc_ap, h]
  exact gc_new hi e ho
theorem datsV_eq (k : Nat) : ∀ xs ys : List PV, xs.all (okV k) = true → ys.all (okV k) = true → PyData.eqvAll (datsV xs) (datsV ys) = decide (xs = ys)
  | [], ys, _, _ => by cases ys <;> simp [datsV, PyData.eqvAll]
  | x :: xs, ys, h1, h2 => by
    cases ys with
    | nil => simp [datsV, PyData.eqvAll]
    | cons y ys =>
      have h1' := Bool.and_eq_true_iff.mp h1
      have h2' := Bool.and_eq_true_iff.mp h2
      simp only [datsV, PyData.eqvAll]
      rw [dat_eqv k x y h1'.1 h2'.1, datsV_eq k xs ys h1'.2 h2'.2]
      by_cases q1 : x = y
      · by_cases q2 : xs = ys
        · simp [q1, q2]
        · simp [q1, q2]
      · simp [q1]
theorem toD_lst {k i : Nat} {xs : List PV} {S : Store} (e : S[i]? = some (.lst xs)) (h : xs.all (okV k) = true) (hk : k ≤ 60) : toD S 66 (.obj i) = some (.list (datsV xs)) ∧ SeqAt.shaped (.list (datsV xs)) = true := by
  have h1 : okV (k + 1) (.tup xs) = true := h
  have h2 := toD_dat S (k + 1) (.tup xs) h1 66 (by omega)
  obtain ⟨s1, s2⟩ := dat_shape (k + 1) (.tup xs) h1
  have s1' : PyData.canLayAll0 (datsV xs) = true := s1
  have s2' : PyData.depth (.tuple (datsV xs)) ≤ k + 1 := s2
  simp only [PyData.depth] at s2'
  refine ⟨?_, Bool.and_eq_true_iff.mpr ⟨s1', decide_eq_true ?_⟩⟩
  · show (match S[i]? with | some (.lst xs) => (dList (toD S 65) xs).map PyData.list | _ => none) = _
    have h2' : (dList (toD S 65) xs).map PyData.tuple = some (.tuple (datsV xs)) := h2
    rw [e]
    cases q : dList (toD S 65) xs with
    | none => rw [q] at h2'; cases h2'
    | some ds =>
      rw [q] at h2'
      have e3 : ds = datsV xs := PyData.tuple.inj (Option.some.inj h2')
      subst e3
      show Option.map PyData.list (dList (toD S 65) xs) = _
      rw [q]
      rfl
  · simp only [PyData.depth]
    omega
theorem eqG_lst {k : Nat} (g : Bool → Bool) {i j : Nat} {xs ys : List PV} {S : Store} (hk : k ≤ 60) (ei : S[i]? = some (.lst xs)) (ej : S[j]? = some (.lst ys)) (hx : xs.all (okV k) = true) (hy : ys.all (okV k) = true) :
    eqG g (.obj i) (.obj j) S = .ok (.bl (g (decide (xs = ys)))) S := by
  obtain ⟨a1, a2⟩ := toD_lst ei hx hk
  obtain ⟨b1, b2⟩ := toD_lst ej hy hk
  show eqD g (.obj i) (.obj j) S = _
  unfold eqD
  rw [a1, b1]
  simp only [a2, b2, and_self, if_true]
  show Res.ok (PV.bl (g (PyData.eqvAll (datsV xs) (datsV ys)))) S = _
  rw [datsV_eq k xs ys hx hy]
theorem okV_ints (ns : List Int) : (ns.map PV.int).all (okV 0) = true := by
  rw [List.all_eq_true]
  intro x hx
  obtain ⟨i, _, rfl⟩ := List.mem_map.mp hx
  rfl
theorem okV_tints (ns : List Int) : okV 1 (.tup (ns.map PV.int)) = true := okV_ints ns
/-- a comprehension over any target, its element leaves the store -/
theorem lcN_mapT {t : TT'} {te : CE PV} {f : PV → PV} {ck : Chk} {d : Nat} {ρ : Sl} {S : Store} (hd : d < S.length) (hck : ∀ zs, chk ck (S.set d (.lst zs))) :
    ∀ (xs acc : List PV), acc.length + xs.length ≤ sizeLine → (∀ x ∈ xs, ∃ ρ1, setT t x ρ = some ρ1 ∧ ∀ zs, te ρ1 (S.set d (.lst zs)) = .ok (f x) (S.set d (.lst zs))) →
    lcN t tYes' te ck d ρ xs (S.set d (.lst acc)) = .ok (.obj d) (S.set d (.lst (acc ++ xs.map f)))
  | [], acc, _, _ => by
    unfold lcN
    rw [if_pos (hck acc)]
    simp
  | x :: xs, acc, hl, h => by
    have ih := lcN_mapT hd hck xs (acc ++ [f x]) (by simp at hl ⊢; omega) fun y hy => h y (List.mem_cons_of_mem _ hy)
    obtain ⟨ρ1, e0, e1'⟩ := h x (List.mem_cons_self ..)
    have e1 := e1' acc
    have e2 : (S.set d (.lst acc))[d]? = some (.lst acc) := List.getElem?_set_self hd
    have hz : acc.length < sizeLine := by simp at hl; omega
    unfold lcN
    rw [if_pos (hck acc), e0]
    show (match (Res.ok true (S.set d (.lst acc)) : Res Bool) with
      | .ok q S1 => if q = true then match te ρ1 S1 with
        | .ok y S2 => match S2[d]? with
          | some (.lst acc) => if acc.length < sizeLine then lcN t tYes' te ck d ρ xs (S2.set d (.lst (acc ++ [y]))) else .stuck
          | _ => .stuck
        | _ => .stuck
        else lcN t tYes' te ck d ρ xs S1
      | _ => .stuck) = _
    simp only [e1, e2, if_true, hz, List.set_set]
    rw [ih]
    simp
theorem eLc_mapT {t : TT'} {te : CE PV} (f : PV → PV) {vs : List Nat} {it : CE (List PV × Chk)} {ρ : Sl} {S S1 : Store} {xs : List PV} {ck : Chk} (hi : it ρ S = .ok (xs, ck) S1) (hck : chk ck S1) (hl : xs.length ≤ sizeLine)
    (h : ∀ x ∈ xs, ∃ ρ1, setT t x (wipeP ρ vs) = some ρ1 ∧ ∀ zs, te ρ1 (S1 ++ [.lst zs]) = .ok (f x) (S1 ++ [.lst zs])) : eLc t it tYes' te vs ρ S = .ok (.obj S1.length) (S1 ++ [.lst (xs.map f)]) := by
  have es : ∀ zs : List PV, (S1 ++ [PO.lst []]).set S1.length (.lst zs) = S1 ++ [.lst zs] := by
    intro zs
    rw [List.set_append_right _ _ (Nat.le_refl _), Nat.sub_self]
    rfl
  have := lcN_mapT (t := t) (te := te) (f := f) (ck := ck) (d := S1.length) (ρ := wipeP ρ vs) (S := S1 ++ [.lst []]) (by simp) (by
    intro zs
    rw [es]
    exact fun p hp => get_app (hck p hp)) xs [] (by simpa using hl) (by
    intro x hx
    obtain ⟨ρ1, e0, e1⟩ := h x hx
    exact ⟨ρ1, e0, fun zs => by rw [es]; exact e1 zs⟩)
  unfold eLc
  rw [hi]
  show lcN t tYes' te ck S1.length (wipeP ρ vs) xs (S1 ++ [.lst []]) = _
  rw [es, es] at this
  rw [this]
  simp
theorem rngL_nat (n : Nat) : rngL 0 (n : Int) = (List.range n).map fun k : Nat => PV.int (k : Int) := by
  unfold rngL
  simp
theorem iRange1_nat {c : CE PV} {ρ : Sl} {S S1 : Store} {n : Nat} (h : c ρ S = .ok (.int (n : Int)) S1) (hn : n ≤ 1000000) : iRange1 c ρ S = .ok (rngL 0 (n : Int), []) S1 := by
  rw [iRange1_ap, h]
  have q : -(2 ^ 62) ≤ (n : Int) ∧ (n : Int) < 2 ^ 62 := ⟨by omega, by omega⟩
  rw [bind_ap]
  exact if_pos q
/-- [e for k in range(n)], ints -/
theorem eLc_rng {i : Nat} {te c : CE PV} (g : Nat → Int) {vs : List Nat} {ρ : Sl} {S : Store} {n : Nat} (hc : c ρ S = .ok (.int (n : Int)) S) (hl : n ≤ sizeLine) (hn : (n : Int) < 2 ^ 62)
    (h : ∀ k, k < n → ∀ zs, te ((wipeP ρ vs).set i (some (.int (k : Int)))) (S ++ [.lst zs]) = .ok (.int (g k)) (S ++ [.lst zs])) :
    eLc (.name i) (iRange1 c) tYes' te vs ρ S = .ok (.obj S.length) (S ++ [.lst (((List.range n).map g).map .int)]) := by
  have hi : iRange1 c ρ S = .ok (rngL 0 (n : Int), []) S := by
    rw [iRange1_ap, hc]
    have q : -(2 ^ 62) ≤ (n : Int) ∧ (n : Int) < 2 ^ 62 := ⟨by omega, hn⟩
    rw [bind_ap]
    exact if_pos q
  have := eLc_mapT (t := .name i) (te := te) (fun x => match x with | .int j => .int (g j.toNat) | x => x) (vs := vs) (ρ := ρ) hi (chk_nil S) (by simp; exact hl) (by
    intro x hx
    rw [rngL_nat] at hx
    obtain ⟨k, hk, rfl⟩ := List.mem_map.mp hx
    exact ⟨_, rfl, fun zs => by
      have := h k (List.mem_range.mp hk) zs
      simpa using this⟩)
  have e : ((fun x : PV => match x with | .int j => PV.int (g j.toNat) | x => x) ∘ fun k : Nat => PV.int (k : Int)) = (PV.int ∘ g) := by
    funext k
    simp
  rw [this, rngL_nat, List.map_map, List.map_map, e]
theorem cut_tail (xs : List PV) : cutP xs (some 1) none = xs.tail := by
  unfold cutP
  have h : HT.sIx xs.length 0 (some 1) = min 1 xs.length := HT.sIx_nat xs.length 0 1
  rw [h]
  cases xs with
  | nil => rfl
  | cons x xs =>
    show ((x :: xs).drop (min 1 (xs.length + 1))).take ((xs.length + 1) - min 1 (xs.length + 1)) = xs
    have h1 : min 1 (xs.length + 1) = 1 := by omega
    rw [h1]
    simp
theorem eGc_self {c : CE PV} {ρ : Sl} {S : Store} {x : PV} (h : c ρ S = .ok x S) : eGc c ρ S = .ok x S := by
  rw [eGc_ap, h, gc_self]
theorem cut_map (ns : List Int) (lo hi : Option Int) : ∃ cs : List Int, cutP (ns.map PV.int) lo hi = cs.map .int := by
  unfold cutP
  exact ⟨(ns.drop (HT.sIx (ns.map PV.int).length 0 lo)).take _, by rw [List.map_take, List.map_drop]⟩
theorem nat_of {z : Int} (h : 0 ≤ z) : ∃ n : Nat, z = n := Int.eq_ofNat_of_zero_le h
theorem mod_nat (z : Int) {b : Nat} (hb : 0 < b) : ∃ n : Nat, z.fmod (b : Int) = n ∧ n < b := by
  have h1 := Int.fmod_nonneg_of_pos z (b := (b : Int)) (by omega)
  have h2 := Int.fmod_lt_of_pos z (b := (b : Int)) (by omega)
  obtain ⟨n, e⟩ := nat_of h1
  exact ⟨n, e, by omega⟩
theorem tuple_obj {i : Nat} {xs : List PV} {S : Store} (h : S[i]? = some (.lst xs)) : tupleV [.obj i] S = .ok (.tup xs) S := by
  show (match lstOf (.obj i) S with | some ys => Res.ok (PV.tup ys) S | none => .stuck) = _
  unfold lstOf
  simp only [h]
theorem list_obj {i : Nat} {xs : List PV} {S : Store} (h : S[i]? = some (.lst xs)) : listV [.obj i] S = .ok (.obj S.length) (S ++ [.lst xs]) := by
  unfold listV
  simp only [h]
theorem sum_obj {i : Nat} {xs : List Int} {S : Store} (h : S[i]? = some (.lst (xs.map .int))) : sumV [.obj i] S = .ok (.int xs.sum) S := by
  unfold sumV lstOf
  simp only [h, Option.bind_some, intsOf_map]
theorem append_obj {i : Nat} {xs : List PV} {y : PV} {S : Store} (h : S[i]? = some (.lst xs)) (hl : xs.length < sizeLine) : appendV (.obj i) [y] S = .ok .non (S.set i (.lst (xs ++ [y]))) := by
  unfold appendV
  simp only [h, hl, if_true]
theorem isL_obj {i : Nat} {xs : List PV} {S : Store} (h : S[i]? = some (.lst xs)) : isL (.obj i) S = true := by
  unfold isL
  simp only [h]
theorem len_obj {i : Nat} {xs : List PV} {S : Store} (h : S[i]? = some (.lst xs)) : lenV [.obj i] S = .ok (.int xs.length) S := by
  unfold lenV
  simp only [h]
theorem items_obj {i : Nat} {xs : List PV} {S : Store} (h : S[i]? = some (.lst xs)) : itemsV (.obj i) S = .ok (xs, [(i, .lst xs)]) S := by
  unfold itemsV
  simp only [h]
theorem eM_append {i : Nat} {xs : List PV} {y : PV} {co c : CE PV} {ρ : Sl} {S : Store} (ho : co ρ S = .ok (.obj i) S) (h : S[i]? = some (.lst xs)) (hy : c ρ S = .ok y S) (hl : xs.length < sizeLine) :
    eM appendV co (aCons c aNil) ρ S = .ok .non (S.set i (.lst (xs ++ [y]))) := by
  rw [eM_ap, ho, bind_ap, if_pos (isL_obj h), aCons_ap, hy, bind_ap, aNil_ap, bind_ap, bind_ap]
  exact append_obj h hl
theorem nx_no {P : Sl → Store → Prop} {t : CE Bool} {a : CS} {ρ : Sl} {S S1 : Store} (h : t ρ S = .ok false S1) (p : P ρ S1) : Nx P (sIf t a sNext ρ S) := ⟨ρ, S1, by rw [sIf_ap, h]; rfl, p⟩
theorem eBin_of {f : F2} {a b : CE PV} {ρ : Sl} {S S1 S2 : Store} {x y : PV} {r : Res PV} (h1 : a ρ S = .ok x S1) (h2 : b ρ S1 = .ok y S2) (h3 : f x y S2 = r) : eBin f a b ρ S = r := by
  rw [eBin_ap, h1, bind_ap, h2, bind_ap]
  exact h3
theorem forN_nil {t : TT'} {b : CS} {ck : Chk} {ρ : Sl} {S : Store} (h : chk ck S) : forN t b ck [] ρ S = .next ρ S := by
  unfold forN
  rw [if_pos h]
theorem forN_next {t : TT'} {b : CS} {ck : Chk} {x : PV} {xs : List PV} {ρ ρ1 ρ' : Sl} {S S' : Store} (h : chk ck S) (e : setT t x ρ = some ρ1) (e2 : b ρ1 S = .next ρ' S') : forN t b ck (x :: xs) ρ S = forN t b ck xs ρ' S' := by
  rw [forN.eq_def]
  simp only [h, if_true, e, e2]
@[simp] theorem eSlc_ap (c : CE PV) (l h s : CE (Option Int)) (ρ : Sl) (S : Store) : eSlc c l h s ρ S = (c ρ S).bind fun x S1 => (l ρ S1).bind fun lo S2 => (h ρ S2).bind fun hi S3 => (s ρ S3).bind fun st S4 => match lstOf x S4 with
  | some xs => if st ≠ some 0 then .ok (.obj S4.length) (S4 ++ [.lst (pickP xs lo hi st)]) else .stuck
  | none => .stuck := rfl
end TL

set_option Elab.async false
set_option linter.all false
set_option maxRecDepth 100000
set_option maxHeartbeats 1000000
/-! TT3: dicts by their pairs, deep equality, comprehensions with a test. -/
namespace TL
open PySem PySem.Spec PyProof.Rows L2
/-! ### dicts with numbers and texts for keys -/
def KeysK (kvs : List (PV × PV)) : Prop := ∀ p ∈ kvs, (keyOf p.1).isSome = true
theorem KeysK.all {kvs : List (PV × PV)} (h : KeysK kvs) {k : PV} (hk : (keyOf k).isSome = true) : (kvs.all fun kv => (keyOf kv.1).isSome == (keyOf k).isSome) = true := by
  rw [List.all_eq_true]
  intro p hp
  rw [h p hp, hk]
  rfl
theorem dicAt_k {S : Store} {i : Nat} {kvs : List (PV × PV)} {k : PV} (e : S[i]? = some (.dic false kvs)) (h : KeysK kvs) (hk : (keyOf k).isSome = true) : dicAt S i k = some kvs := by
  unfold dicAt
  rw [e]
  simp only
  rw [if_pos]
  refine ⟨?_, h.all hk, fun z => by cases z⟩
  unfold isKey
  rw [hk]
  rfl
theorem getV_dic {S : Store} {i : Nat} {kvs : List (PV × PV)} {k v : PV} (e : S[i]? = some (.dic false kvs)) (h : KeysK kvs) (hk : (keyOf k).isSome = true) (hv : dget kvs k = some v) : getV (.obj i) k S = .ok v S := by
  unfold getV
  simp only [e]
  rw [dicAt_k e h hk]
  simp only [hv]
theorem inG_dic {S : Store} {i : Nat} {kvs : List (PV × PV)} {k : PV} (g : Bool → Bool) (e : S[i]? = some (.dic false kvs)) (h : KeysK kvs) (hk : (keyOf k).isSome = true) : inG g k (.obj i) S = .ok (.bl (g (dget kvs k).isSome)) S := by
  unfold inG
  simp only [e]
  rw [dicAt_k e h hk]
theorem setV_dic {S : Store} {i : Nat} {kvs : List (PV × PV)} {k v : PV} (e : S[i]? = some (.dic false kvs)) (h : KeysK kvs) (hk : (keyOf k).isSome = true) (hl : kvs.length < sizeLine) : setV (.obj i) k v S = some (S.set i (.dic false (dput kvs k v))) := by
  unfold setV
  simp only [e]
  rw [dicAt_k e h hk]
  simp only [hl, if_true]
theorem setV_lst {S : Store} {i : Nat} {xs : List PV} {j : Nat} {v : PV} (e : S[i]? = some (.lst xs)) (hj : j < xs.length) : setV (.obj i) (.int (j : Int)) v S = some (S.set i (.lst (xs.set j v))) := by
  unfold setV
  simp only [e]
  have h : ixN xs.length (j : Int) = some j := by
    unfold ixN
    simp
    omega
  rw [h]
theorem getV_lst {S : Store} {i : Nat} {xs : List PV} {j : Nat} {v : PV} (e : S[i]? = some (.lst xs)) (hj : xs[j]? = some v) : getV (.obj i) (.int (j : Int)) S = .ok v S := by
  unfold getV
  simp only [e]
  rw [atI_nat hj]
theorem getV_tup {S : Store} {xs : List PV} {j : Nat} {v : PV} (hj : xs[j]? = some v) : getV (.tup xs) (.int (j : Int)) S = .ok v S := by
  unfold getV
  simp only
  rw [atI_nat hj]
theorem dput_new {kvs : List (PV × PV)} {k v : PV} (h : ∀ p ∈ kvs, p.1 ≠ k) : dput kvs k v = kvs ++ [(k, v)] := by
  unfold dput
  rw [if_neg]
  rw [List.any_eq_true]
  rintro ⟨p, hp, e⟩
  exact h p hp (of_decide_eq_true e)
theorem dget_mem {kvs : List (PV × PV)} {k v : PV} (nd : (kvs.map (·.1)).Nodup) (h : (k, v) ∈ kvs) : dget kvs k = some v := by
  induction kvs with
  | nil => cases h
  | cons p kvs ih =>
    rw [List.map_cons, List.nodup_cons] at nd
    unfold dget
    rw [List.find?_cons]
    rcases List.mem_cons.mp h with e | e
    · subst e; simp
    · have hne : p.1 ≠ k := fun z => nd.1 (by rw [z]; exact List.mem_map_of_mem e)
      rw [decide_eq_false hne]
      exact ih nd.2 e
/-! ### deep equality -/
/-- none, truths, ints, texts, tuples of these, at most k deep -/
def okW : Nat → PV → Bool
  | _, .non => true
  | _, .bl _ => true
  | _, .int _ => true
  | _, .str x => PySem.PyData.strOk x
  | k + 1, .tup xs => xs.all (okW k)
  | _, _ => false
theorem toD_datW (S : Store) : ∀ (k : Nat) (x : PV), okW k x = true → ∀ l, k ≤ l → toD S l x = some (datV x) ∧ (datV x).canLay0 = true ∧ (datV x).depth ≤ k := by
  intro k
  induction k with
  | zero =>
    intro x h l _
    cases x with
    | non => cases l <;> exact ⟨rfl, rfl, Nat.zero_le _⟩
    | bl i => cases l <;> exact ⟨rfl, rfl, Nat.zero_le _⟩
    | int i => cases l <;> exact ⟨rfl, rfl, Nat.zero_le _⟩
    | str z => cases l <;> exact ⟨rfl, h, Nat.zero_le _⟩
    | _ => cases h
  | succ k ih =>
    intro x h l hl
    cases x with
    | non => cases l <;> exact ⟨rfl, rfl, Nat.zero_le _⟩
    | bl i => cases l <;> exact ⟨rfl, rfl, Nat.zero_le _⟩
    | int i => cases l <;> exact ⟨rfl, rfl, Nat.zero_le _⟩
    | str z => cases l <;> exact ⟨rfl, h, Nat.zero_le _⟩
    | tup xs =>
      cases l with
      | zero => omega
      | succ l =>
        have h' : xs.all (okW k) = true := h
        have all : ∀ ys : List PV, ys.all (okW k) = true → dList (toD S l) ys = some (datsV ys) ∧ PyData.canLayAll0 (datsV ys) = true ∧ PyData.depthAll (datsV ys) ≤ k := by
          intro ys
          induction ys with
          | nil => intro _; exact ⟨rfl, rfl, Nat.zero_le _⟩
          | cons y ys ihy =>
            intro hy
            have hy' := Bool.and_eq_true_iff.mp hy
            obtain ⟨a0, a1, a2⟩ := ih y hy'.1 l (by omega)
            obtain ⟨b0, b1, b2⟩ := ihy hy'.2
            refine ⟨?_, Bool.and_eq_true_iff.mpr ⟨a1, b1⟩, Nat.max_le.mpr ⟨a2, b2⟩⟩
            unfold dList
            rw [a0, b0]
            rfl
        obtain ⟨a0, a1, a2⟩ := all xs h'
        refine ⟨?_, a1, ?_⟩
        · show (dList (toD S l) xs).map PyData.tuple = _
          rw [a0]
          rfl
        · show PyData.depth (.tuple (datsV xs)) ≤ k + 1
          simp only [PyData.depth]
          omega
    | _ => cases h
theorem datB_refl {S : Store} {k : Nat} {x : PV} (h : okW k x = true) (hk : k ≤ 64) : datB S x x = true := by
  obtain ⟨a, b, c⟩ := toD_datW S k x h 66 (by omega)
  unfold datB
  rw [a]
  simp only [Bool.and_eq_true]
  exact ⟨Bool.and_eq_true_iff.mpr ⟨b, decide_eq_true (by omega)⟩, Bool.and_eq_true_iff.mpr ⟨b, decide_eq_true (by omega)⟩, SeqAt.eqv_refl _ b⟩
theorem deepB_dat {S : Store} {n k : Nat} {x : PV} (h : okW k x = true) (hk : k ≤ 64) : deepB S (n + 1) x x = true := by
  show (datB S x x || _) = true
  rw [datB_refl h hk]
  rfl
theorem all2_refl {f : PV → PV → Bool} : ∀ {xs : List PV}, (∀ x ∈ xs, f x x = true) → all2 f xs xs = true
  | [], _ => rfl
  | x :: xs, h => Bool.and_eq_true_iff.mpr ⟨h x (List.mem_cons_self ..), all2_refl fun y hy => h y (List.mem_cons_of_mem _ hy)⟩
theorem deepB_lst {S : Store} {n k i j : Nat} {xs : List PV} (ei : S[i]? = some (.lst xs)) (ej : S[j]? = some (.lst xs)) (h : ∀ x ∈ xs, okW k x = true) (hk : k ≤ 64) : deepB S (n + 2) (.obj i) (.obj j) = true := by
  show (datB S (.obj i) (.obj j) || (match S[i]?, S[j]? with
      | some (.lst xs), some (.lst ys) => all2 (deepB S (n + 1)) xs ys
      | some (.dic false ks), some (.dic false ls) => dicB (deepB S (n + 1)) ks ls
      | _, _ => false)) = true
  rw [ei, ej]
  simp only [Bool.or_eq_true]
  exact .inr (all2_refl fun x hx => deepB_dat (h x hx) hk)
theorem deepB_dic {S : Store} {n k i j : Nat} {kvs : List (PV × PV)} (ei : S[i]? = some (.dic false kvs)) (ej : S[j]? = some (.dic false kvs)) (h0 : kvs ≠ []) (hK : KeysK kvs) (nd : (kvs.map (·.1)).Nodup)
    (h : ∀ p ∈ kvs, okW k p.2 = true) (hk : k ≤ 64) : deepB S (n + 2) (.obj i) (.obj j) = true := by
  show (datB S (.obj i) (.obj j) || (match S[i]?, S[j]? with
      | some (.lst xs), some (.lst ys) => all2 (deepB S (n + 1)) xs ys
      | some (.dic false ks), some (.dic false ls) => dicB (deepB S (n + 1)) ks ls
      | _, _ => false)) = true
  rw [ei, ej]
  simp only [Bool.or_eq_true]
  refine .inr ?_
  unfold dicB
  rw [Bool.and_eq_true, Bool.and_eq_true, List.all_eq_true]
  refine ⟨by cases kvs with | nil => exact (h0 rfl).elim | cons _ _ => rfl, decide_eq_true rfl, fun p hp => ?_⟩
  rw [hK p hp, dget_mem (v := p.2) nd hp]
  exact deepB_dat (h p hp) hk
theorem eqW_lst {S : Store} {i j : Nat} {xs ys : List PV} (g : Bool → Bool) (ei : S[i]? = some (.lst xs)) (ej : S[j]? = some (.lst ys)) (h : all2 (deepB S 4) xs ys = true) : eqW g (.obj i) (.obj j) S = .ok (.bl (g true)) S := by
  unfold eqW
  simp only [ei, ej, h, if_true]
/-! ### [e for x in xs if t] -/
theorem lcN_flt {i : Nat} {te : CE PV} {tt : CE Bool} {f : PV → PV} {q : PV → Bool} {ck : Chk} {d : Nat} {ρ : Sl} {S : Store} (hd : d < S.length) (hck : ∀ zs, chk ck (S.set d (.lst zs))) :
    ∀ (xs acc : List PV), acc.length + xs.length ≤ sizeLine → (∀ x ∈ xs, ∀ zs, tt (ρ.set i (some x)) (S.set d (.lst zs)) = .ok (q x) (S.set d (.lst zs)) ∧ (q x = true → te (ρ.set i (some x)) (S.set d (.lst zs)) = .ok (f x) (S.set d (.lst zs)))) →
    lcN (.name i) tt te ck d ρ xs (S.set d (.lst acc)) = .ok (.obj d) (S.set d (.lst (acc ++ (xs.filter q).map f)))
  | [], acc, _, _ => by
    unfold lcN
    rw [if_pos (hck acc)]
    simp
  | x :: xs, acc, hl, h => by
    obtain ⟨e0, e1⟩ := h x (List.mem_cons_self ..) acc
    have e2 : (S.set d (.lst acc))[d]? = some (.lst acc) := List.getElem?_set_self hd
    have hz : acc.length < sizeLine := by simp at hl; omega
    cases hq : q x with
    | false =>
      have ih := lcN_flt hd hck xs acc (by simp at hl ⊢; omega) fun y hy => h y (List.mem_cons_of_mem _ hy)
      unfold lcN
      rw [if_pos (hck acc)]
      show (match tt (ρ.set i (some x)) (S.set d (.lst acc)) with
        | .ok q S1 => if q = true then match te (ρ.set i (some x)) S1 with
          | .ok y S2 => match S2[d]? with
            | some (.lst acc) => if acc.length < sizeLine then lcN (.name i) tt te ck d ρ xs (S2.set d (.lst (acc ++ [y]))) else .stuck
            | _ => .stuck
          | _ => .stuck
          else lcN (.name i) tt te ck d ρ xs S1
        | _ => .stuck) = _
      rw [e0, hq]
      simp only [Bool.false_eq_true, if_false]
      rw [ih, List.filter_cons, hq]
      rfl
    | true =>
      have ih := lcN_flt hd hck xs (acc ++ [f x]) (by simp at hl ⊢; omega) fun y hy => h y (List.mem_cons_of_mem _ hy)
      unfold lcN
      rw [if_pos (hck acc)]
      show (match tt (ρ.set i (some x)) (S.set d (.lst acc)) with
        | .ok q S1 => if q = true then match te (ρ.set i (some x)) S1 with
          | .ok y S2 => match S2[d]? with
            | some (.lst acc) => if acc.length < sizeLine then lcN (.name i) tt te ck d ρ xs (S2.set d (.lst (acc ++ [y]))) else .stuck
            | _ => .stuck
          | _ => .stuck
          else lcN (.name i) tt te ck d ρ xs S1
        | _ => .stuck) = _
      rw [e0, hq]
      simp only [e1 hq, e2, if_true, hz, List.set_set]
      rw [ih, List.filter_cons, hq]
      simp
theorem set_top (S : Store) (zs : List PV) : (S ++ [PO.lst []]).set S.length (.lst zs) = S ++ [.lst zs] := by
  rw [List.set_append_right _ _ (Nat.le_refl _), Nat.sub_self]
  rfl
theorem eLc_flt {i : Nat} {te : CE PV} {tt : CE Bool} {f : PV → PV} {q : PV → Bool} {vs : List Nat} {it : CE (List PV × Chk)} {ρ : Sl} {S S1 : Store} {xs : List PV} {ck : Chk} (hi : it ρ S = .ok (xs, ck) S1) (hck : chk ck S1) (hl : xs.length ≤ sizeLine)
    (h : ∀ x ∈ xs, ∀ zs, tt ((wipeP ρ vs).set i (some x)) (S1 ++ [.lst zs]) = .ok (q x) (S1 ++ [.lst zs]) ∧ (q x = true → te ((wipeP ρ vs).set i (some x)) (S1 ++ [.lst zs]) = .ok (f x) (S1 ++ [.lst zs]))) :
    eLc (.name i) it tt te vs ρ S = .ok (.obj S1.length) (S1 ++ [.lst ((xs.filter q).map f)]) := by
  have := lcN_flt (i := i) (te := te) (tt := tt) (f := f) (q := q) (ck := ck) (d := S1.length) (ρ := wipeP ρ vs) (S := S1 ++ [.lst []]) (by simp) (by
    intro zs
    rw [set_top]
    exact fun p hp => get_app (hck p hp)) xs [] (by simpa using hl) (by
    intro x hx zs
    rw [set_top]
    exact h x hx zs)
  unfold eLc
  rw [hi]
  show lcN (.name i) tt te ck S1.length (wipeP ρ vs) xs (S1 ++ [.lst []]) = _
  rw [set_top, set_top] at this
  rw [this]
  simp
/-- tuple([..]) of what has just been made -/
theorem tuple_of {c : CE PV} {ρ : Sl} {S : Store} {xs : List PV} (h : c ρ S = .ok (.obj S.length) (S ++ [.lst xs])) (hb : bnds S.length xs = true) : eGc (eB tupleV (aCons c aNil)) ρ S = .ok (.tup xs) S := by
  refine eGc_of (J := [.lst xs]) ?_ hb
  rw [eB_ap, aCons_ap, h, bind_ap, aNil_ap, bind_ap, bind_ap, tuple_obj get_last]
theorem eGc2 {c : CE PV} {ρ : Sl} {S : Store} {x : PV} (h : eGc c ρ S = .ok x S) : eGc (eGc c) ρ S = .ok x S := eGc_self h
@[simp] theorem sAugIx_ap (co ci : CE PV) (f : F2) (c : CE PV) (ρ : Sl) (S : Store) : sAugIx co ci f c ρ S = sb (co ρ S) ρ fun o S1 => sb (ci ρ S1) ρ fun k S2 => sb (getV o k S2) ρ fun x S3 => sb (c ρ S3) ρ fun y S4 => sb (f x y S4) ρ fun z S5 => match setV o k z S5 with
  | some S6 => .next ρ S6
  | none => .stuck := rfl
theorem nx_augIx {P : Sl → Store → Prop} {co ci c : CE PV} {f : F2} {ρ : Sl} {S S' : Store} {o k x y z : PV} (h1 : co ρ S = .ok o S) (h2 : ci ρ S = .ok k S) (h3 : getV o k S = .ok x S) (h4 : c ρ S = .ok y S) (h5 : f x y S = .ok z S) (h6 : setV o k z S = some S') (p : P ρ S') : Nx P (sAugIx co ci f c ρ S) :=
  ⟨ρ, S', by simp only [sAugIx_ap, h1, h2, h3, h4, h5, h6, sb_ap], p⟩
@[simp] theorem lenA_rol (xs : List PV) (S : Store) : lenA [.rol xs] S = .ok (.int xs.length) S := rfl
@[simp] theorem lenA_tup (xs : List PV) (S : Store) : lenA [.tup xs] S = .ok (.int xs.length) S := rfl
@[simp] theorem lenA_kup (xs : List PV) (S : Store) : lenA [.kup xs] S = .ok (.int xs.length) S := rfl
theorem lenA_lst {i : Nat} {xs : List PV} {S : Store} (e : S[i]? = some (.lst xs)) : lenA [.obj i] S = .ok (.int xs.length) S := by
  unfold lenA lenV
  simp only [e]
theorem lenA_dic {i : Nat} {kvs : List (PV × PV)} {S : Store} (e : S[i]? = some (.dic false kvs)) (h0 : kvs ≠ []) (hK : KeysK kvs) : lenA [.obj i] S = .ok (.int kvs.length) S := by
  unfold lenA
  simp only [e]
  cases kvs with
  | nil => exact (h0 rfl).elim
  | cons p kvs =>
    simp only [hK p (List.mem_cons_self ..), if_true, List.length_cons]
theorem dict_obj {i : Nat} {kvs : List (PV × PV)} {S : Store} (e : S[i]? = some (.dic false kvs)) (h0 : kvs ≠ []) (hK : KeysK kvs) : dictV' [.obj i] S = .ok (.obj S.length) (S ++ [.dic false kvs]) := by
  unfold dictV'
  simp only [e]
  cases kvs with
  | nil => exact (h0 rfl).elim
  | cons p kvs => simp only [hK p (List.mem_cons_self ..), if_true]
end TL
namespace TL
open PySem PySem.Spec PyProof.Rows L2
theorem iRange2_nat {ca cb : CE PV} {ρ : Sl} {S : Store} {a b : Nat} (h1 : ca ρ S = .ok (.int (a : Int)) S) (h2 : cb ρ S = .ok (.int (b : Int)) S) (ha : a ≤ 1000000) (hb : b ≤ 1000000) : iRange2 ca cb ρ S = .ok (rngL (a : Int) (b : Int), []) S := by
  rw [iRange2_ap, h1, bind_ap, h2, bind_ap]
  exact if_pos ⟨⟨by omega, by omega⟩, by omega, by omega⟩
theorem deepB_obj {S : Store} {n i j : Nat} {ks ls : List (PV × PV)} (ei : S[i]? = some (.dic false ks)) (ej : S[j]? = some (.dic false ls)) (h : dicB (deepB S n) ks ls = true) : deepB S (n + 1) (.obj i) (.obj j) = true := by
  show (datB S (.obj i) (.obj j) || (match S[i]?, S[j]? with
      | some (.lst xs), some (.lst ys) => all2 (deepB S n) xs ys
      | some (.dic false ks), some (.dic false ls) => dicB (deepB S n) ks ls
      | _, _ => false)) = true
  rw [ei, ej]
  simp only [Bool.or_eq_true]
  exact .inr h
end TL

set_option Elab.async false
set_option linter.all false
set_option maxRecDepth 100000
set_option maxHeartbeats 1000000
/-! TT4: rules by which an expression is reckoned forward, step by step (each ends in .ok); mk.py's go![..] tries them in turn. -/
namespace TL
open PySem PySem.Spec PyProof.Rows L2
section
variable {α : Type} {ρ ρ' : Sl} {S S1 S2 S3 S4 S5 : Store} {a b c d : CE PV} {cs : CE (List PV)} {x y z u w : PV} {xs ys : List PV} {f g : F2} {t s : CE Bool} {k k' : Bool} {n i j : Nat} {fb : FB} {df : DF} {o : PO}
theorem q_var (h : ρ[i]? = some (some x)) : eVar i ρ S = .ok x S := by rw [eVar_ap, h]
theorem q_k : eK x ρ S = .ok x S := rfl
theorem q_bin (h1 : a ρ S = .ok x S1) (h2 : b ρ S1 = .ok y S2) (h3 : f x y S2 = .ok z S3) : eBin f a b ρ S = .ok z S3 := by rw [eBin_ap, h1, bind_ap, h2, bind_ap, h3]
theorem q_chain1 (h1 : a ρ S = .ok x S1) (h2 : b ρ S1 = .ok y S2) (h3 : f x y S2 = .ok (.bl true) S3) (h4 : c ρ S3 = .ok u S4) (h5 : g y u S4 = .ok z S5) : eChain f g a b c ρ S = .ok z S5 := by
  rw [eChain_ap, h1, bind_ap, h2, bind_ap, h3, bind_ap]
  show (c ρ S3).bind _ = _
  rw [h4, bind_ap, h5]
theorem q_chain0 (h1 : a ρ S = .ok x S1) (h2 : b ρ S1 = .ok y S2) (h3 : f x y S2 = .ok (.bl false) S3) : eChain f g a b c ρ S = .ok (.bl false) S3 := by
  rw [eChain_ap, h1, bind_ap, h2, bind_ap, h3, bind_ap]
theorem q_b (h1 : cs ρ S = .ok xs S1) (h2 : fb xs S1 = .ok z S2) : eB fb cs ρ S = .ok z S2 := by rw [eB_ap, h1, bind_ap, h2]
theorem q_nil : aNil ρ S = .ok [] S := rfl
theorem q_cons (h1 : a ρ S = .ok x S1) (h2 : cs ρ S1 = .ok xs S2) : aCons a cs ρ S = .ok (x :: xs) S2 := by rw [aCons_ap, h1, bind_ap, h2, bind_ap]
theorem q_neg {m : Int} (h1 : a ρ S = .ok (.int m) S1) : eNeg a ρ S = .ok (.int (-m)) S1 := by rw [eNeg_ap, h1, bind_ap]
theorem q_not (h1 : a ρ S = .ok (.bl k) S1) : eNot a ρ S = .ok (.bl (!k)) S1 := by rw [eNot_ap, h1, bind_ap]
theorem q_tup (h1 : cs ρ S = .ok xs S1) (hl : Nat.ble xs.length 1000000 = true) : eTup cs ρ S = .ok (.tup xs) S1 := by rw [eTup_ap, h1, bind_ap, if_pos (line2 (Nat.le_of_ble_eq_true hl))]
theorem q_lst (h1 : cs ρ S = .ok xs S1) (hl : Nat.ble xs.length 1000000 = true) : eLst cs ρ S = .ok (.obj S1.length) (S1 ++ [.lst xs]) := by rw [eLst_ap, h1, bind_ap, if_pos (line2 (Nat.le_of_ble_eq_true hl))]
theorem q_dic : eDic ρ S = .ok (.obj S.length) (S ++ [.dic false []]) := rfl
theorem q_call (h1 : cs ρ S = .ok xs S1) (hn : xs.length = n) (h2 : gc S1 (df xs S1) = .ok z S2) : eCall n df cs ρ S = .ok z S2 := by rw [eCall_ap, h1, bind_ap, if_pos hn, h2]
theorem q_callX {dfl : List PV} (h1 : cs ρ S = .ok xs S1) (hn : (xs ++ dfl).length = n) (h2 : gc S1 (df (xs ++ dfl) S1) = .ok z S2) : eCallX n df dfl cs ρ S = .ok z S2 := by
  unfold eCallX
  rw [h1, bind_ap, if_pos hn, h2]
theorem q_gc (h1 : a ρ S = .ok x S1) (h2 : gc S (.ok x S1) = .ok y S2) : eGc a ρ S = .ok y S2 := by rw [eGc_ap, h1, h2]
theorem q_gcf {r : Res PV} (h1 : r = .ok x S1) (h2 : gc S (.ok x S1) = .ok y S2) : gc S r = .ok y S2 := by rw [h1, h2]
theorem q_g0 : gc S (.ok x S) = .ok x S := gc_self S x
theorem q_g1 {J : Store} (hb : bnd S.length x = true) : gc S (.ok x (S ++ J)) = .ok x S := gc_app hb
theorem q_g2 {J K : Store} (hb : bnd S.length x = true) : gc S (.ok x (S ++ J ++ K)) = .ok x S := by rw [List.append_assoc]; exact gc_app hb
theorem q_g3 {J K L : Store} (hb : bnd S.length x = true) : gc S (.ok x (S ++ J ++ K ++ L)) = .ok x S := by rw [List.append_assoc, List.append_assoc]; exact gc_app hb
theorem q_g4 {J K L M : Store} (hb : bnd S.length x = true) : gc S (.ok x (S ++ J ++ K ++ L ++ M)) = .ok x S := by rw [List.append_assoc, List.append_assoc, List.append_assoc]; exact gc_app hb
theorem q_n1 (ho : bndO S.length o = true) : gc S (.ok (.obj S.length) (S ++ [o])) = .ok (.obj S.length) (S ++ [o]) := gc_new (Nat.le_refl _) get_last ho
theorem q_n2 {J : Store} (ho : bndO S.length o = true) : gc S (.ok (.obj (S ++ J).length) (S ++ J ++ [o])) = .ok (.obj S.length) (S ++ [o]) := by
  rw [List.append_assoc]
  exact gc_new (by rw [List.length_append]; omega) (by rw [← List.append_assoc]; exact get_last) ho
theorem q_n3 {J K : Store} (ho : bndO S.length o = true) : gc S (.ok (.obj (S ++ J ++ K).length) (S ++ J ++ K ++ [o])) = .ok (.obj S.length) (S ++ [o]) := by
  rw [List.append_assoc (as := S) (bs := J)]
  exact q_n2 ho
theorem q_n4 {J K L : Store} (ho : bndO S.length o = true) : gc S (.ok (.obj (S ++ J ++ K ++ L).length) (S ++ J ++ K ++ L ++ [o])) = .ok (.obj S.length) (S ++ [o]) := by
  rw [List.append_assoc (as := S) (bs := J)]
  exact q_n3 ho
theorem q_onone : oNone ρ S = .ok none S := rfl
theorem q_osome {m : Int} (h1 : a ρ S = .ok (.int m) S1) : oSome a ρ S = .ok (some m) S1 := by rw [oSome_ap, h1, bind_ap]
theorem q_slice {l h : CE (Option Int)} {lo hi : Option Int} (h1 : a ρ S = .ok x S1) (h2 : l ρ S1 = .ok lo S2) (h3 : h ρ S2 = .ok hi S3) (h4 : sliceV x lo hi S3 = .ok z S4) : eSlice a l h ρ S = .ok z S4 := by rw [eSlice_ap, h1, bind_ap, h2, bind_ap, h3, bind_ap, h4]
theorem q_slT {lo hi : Option Int} : sliceV (.tup xs) lo hi S = .ok (.tup (cutP xs lo hi)) S := rfl
theorem q_slR {lo hi : Option Int} : sliceV (.rol xs) lo hi S = .ok (.obj S.length) (S ++ [.lst (cutP xs lo hi)]) := rfl
theorem q_slO {lo hi : Option Int} (h : S[i]? = some (.lst xs)) : sliceV (.obj i) lo hi S = .ok (.obj S.length) (S ++ [.lst (cutP xs lo hi)]) := by
  unfold sliceV
  simp only [h]
theorem q_tbl (h1 : a ρ S = .ok (.bl k) S1) : tBl a ρ S = .ok k S1 := by rw [tBl_ap, h1, bind_ap]
theorem q_ttru (h1 : a ρ S = .ok x S1) (h2 : truV x S1 = some k) : tTru a ρ S = .ok k S1 := by rw [tTru_ap, h1, bind_ap, h2]
theorem q_and0 (h1 : t ρ S = .ok false S1) : cAnd t s ρ S = .ok false S1 := by rw [cAnd_ap, h1, bind_ap, if_neg Bool.false_ne_true]
theorem q_and1 (h1 : t ρ S = .ok true S1) (h2 : s ρ S1 = .ok k S2) : cAnd t s ρ S = .ok k S2 := by rw [cAnd_ap, h1, bind_ap, if_pos rfl, h2]
theorem q_and (h1 : t ρ S = .ok k S) (h2 : s ρ S = .ok k' S) : cAnd t s ρ S = .ok (k && k') S := by
  rw [cAnd_ap, h1, bind_ap]
  cases k
  · rfl
  · rw [if_pos rfl, h2]; rfl
theorem q_or0 (h1 : t ρ S = .ok false S1) (h2 : s ρ S1 = .ok k S2) : cOr t s ρ S = .ok k S2 := by rw [cOr_ap, h1, bind_ap, if_neg Bool.false_ne_true, h2]
theorem q_or1 (h1 : t ρ S = .ok true S1) : cOr t s ρ S = .ok true S1 := by rw [cOr_ap, h1, bind_ap, if_pos rfl]
theorem q_or (h1 : t ρ S = .ok k S) (h2 : s ρ S = .ok k' S) : cOr t s ρ S = .ok (k || k') S := by
  rw [cOr_ap, h1, bind_ap]
  cases k
  · rw [if_neg Bool.false_ne_true, h2]; rfl
  · rfl
theorem q_cnot (h1 : t ρ S = .ok k S1) : cNot t ρ S = .ok (!k) S1 := by rw [cNot_ap, h1, bind_ap]
theorem q_tgc (h1 : t ρ S = .ok k S1) (h2 : gcT S (.ok k S1) = .ok k' S2) : tGc t ρ S = .ok k' S2 := by rw [tGc_ap, h1, h2]
theorem q_tgc0 (h1 : t ρ S = .ok false S1) (h2 : gcT S (.ok false S1) = .ok false S2) : tGc t ρ S = .ok false S2 := q_tgc h1 h2
theorem q_tgc1 (h1 : t ρ S = .ok true S1) (h2 : gcT S (.ok true S1) = .ok true S2) : tGc t ρ S = .ok true S2 := q_tgc h1 h2
theorem q_if (h1 : t ρ S = .ok k S1) (h2 : (if k = true then a ρ S1 else b ρ S1) = .ok z S2) : eIf t a b ρ S = .ok z S2 := by rw [eIf_ap, h1, bind_ap, h2]
theorem q_i1 {β : Type} {p q r : β} (h : p = r) : (if true = true then p else q) = r := by rw [if_pos rfl, h]
theorem q_i0 {β : Type} {p q r : β} (h : q = r) : (if false = true then p else q) = r := by rw [if_neg Bool.false_ne_true, h]
/-! values -/
theorem q_t0 : getV (.tup (x :: xs)) (.int 0) S = .ok x S := getV_tup (xs := x :: xs) (j := 0) rfl
theorem q_t1 {x0 : PV} : getV (.tup (x0 :: x :: xs)) (.int 1) S = .ok x S := getV_tup (xs := x0 :: x :: xs) (j := 1) rfl
theorem q_t2 {x0 x1 : PV} : getV (.tup (x0 :: x1 :: x :: xs)) (.int 2) S = .ok x S := getV_tup (xs := x0 :: x1 :: x :: xs) (j := 2) rfl
theorem q_t3 {x0 x1 x2 : PV} : getV (.tup (x0 :: x1 :: x2 :: x :: xs)) (.int 3) S = .ok x S := getV_tup (xs := x0 :: x1 :: x2 :: x :: xs) (j := 3) rfl
theorem q_t4 {x0 x1 x2 x3 : PV} : getV (.tup (x0 :: x1 :: x2 :: x3 :: x :: xs)) (.int 4) S = .ok x S := getV_tup (xs := x0 :: x1 :: x2 :: x3 :: x :: xs) (j := 4) rfl
theorem q_t5 {x0 x1 x2 x3 x4 : PV} : getV (.tup (x0 :: x1 :: x2 :: x3 :: x4 :: x :: xs)) (.int 5) S = .ok x S := getV_tup (xs := x0 :: x1 :: x2 :: x3 :: x4 :: x :: xs) (j := 5) rfl
theorem q_l0 (h : S[i]? = some (.lst xs)) (hx : xs[0]? = some x) : getV (.obj i) (.int 0) S = .ok x S := getV_lst (j := 0) h hx
theorem q_l1 (h : S[i]? = some (.lst xs)) (hx : xs[1]? = some x) : getV (.obj i) (.int 1) S = .ok x S := getV_lst (j := 1) h hx
theorem q_l2 (h : S[i]? = some (.lst xs)) (hx : xs[2]? = some x) : getV (.obj i) (.int 2) S = .ok x S := getV_lst (j := 2) h hx
theorem q_l3 (h : S[i]? = some (.lst xs)) (hx : xs[3]? = some x) : getV (.obj i) (.int 3) S = .ok x S := getV_lst (j := 3) h hx
theorem q_l4 (h : S[i]? = some (.lst xs)) (hx : xs[4]? = some x) : getV (.obj i) (.int 4) S = .ok x S := getV_lst (j := 4) h hx
theorem q_l5 (h : S[i]? = some (.lst xs)) (hx : xs[5]? = some x) : getV (.obj i) (.int 5) S = .ok x S := getV_lst (j := 5) h hx
theorem q_gl {q : Nat} (h : S[i]? = some (.lst xs)) (hx : xs[q]? = some x) : getV (.obj i) (.int (q : Int)) S = .ok x S := getV_lst h hx
theorem q_gt {q : Nat} (hx : xs[q]? = some x) : getV (.tup xs) (.int (q : Int)) S = .ok x S := getV_tup hx
theorem q_add {m l : Int} : addV (.int m) (.int l) S = .ok (.int (m + l)) S := by simp
theorem q_addN : addV (.int (i : Int)) (.int (j : Int)) S = .ok (.int ((i + j : Nat) : Int)) S := by simp
theorem q_sub {m l : Int} : subV (.int m) (.int l) S = .ok (.int (m - l)) S := by simp
theorem q_mul {m l : Int} (h : mulOk m l = true) : mulV (.int m) (.int l) S = .ok (.int (m * l)) S := by simp [h]
theorem q_mod {m l : Int} (h : l ≠ 0) : modV (.int m) (.int l) S = .ok (.int (m.fmod l)) S := by simp [h]
theorem q_div {m l : Int} (h : divOk l = true) : fdivV (.int m) (.int l) S = .ok (.int (m.fdiv l)) S := by simp [h]
theorem q_lt {m l : Int} : ltV (.int m) (.int l) S = .ok (.bl (decide (m < l))) S := by simp
theorem q_le {m l : Int} : leV (.int m) (.int l) S = .ok (.bl (decide (m ≤ l))) S := by simp
theorem q_gtI {m l : Int} : gtV (.int m) (.int l) S = .ok (.bl (decide (l < m))) S := by simp
theorem q_ge {m l : Int} : geV (.int m) (.int l) S = .ok (.bl (decide (l ≤ m))) S := by simp
theorem q_eqI {m l : Int} : eqV (.int m) (.int l) S = .ok (.bl (decide (m = l))) S := by simp [eqG_int]
theorem q_neI {m l : Int} : neV (.int m) (.int l) S = .ok (.bl (!decide (m = l))) S := by simp [eqG_int]
theorem q_eqS {m l : Str} : eqV (.str m) (.str l) S = .ok (.bl (decide (m = l))) S := by simp [eqG_str]
theorem q_neS {m l : Str} : neV (.str m) (.str l) S = .ok (.bl (!decide (m = l))) S := by simp [eqG_str]
theorem q_is : isV x .non S = .ok (.bl (isNon x)) S := rfl
theorem q_isn : isnV x .non S = .ok (.bl (!isNon x)) S := rfl
theorem q_lenT : lenV [.tup xs] S = .ok (.int (xs.length : Int)) S := rfl
theorem q_lenR : lenV [.rol xs] S = .ok (.int (xs.length : Int)) S := rfl
theorem q_lenL (h : S[i]? = some (.lst xs)) : lenV [.obj i] S = .ok (.int (xs.length : Int)) S := len_obj h
theorem q_intB : intV [.bl k] S = .ok (.int (if k = true then 1 else 0)) S := rfl
theorem q_intB1 (h : k = true) : intV [.bl k] S = .ok (.int 1) S := by subst h; rfl
theorem q_intB0 (h : k = false) : intV [.bl k] S = .ok (.int 0) S := by subst h; rfl
theorem q_eand (h1 : a ρ S = .ok (.bl k) S) (h2 : b ρ S = .ok (.bl k') S) : eAnd a b ρ S = .ok (.bl (k && k')) S := by
  rw [eAnd_ap, h1, bind_ap]
  cases k
  · rfl
  · exact h2
theorem q_eor (h1 : a ρ S = .ok (.bl k) S) (h2 : b ρ S = .ok (.bl k') S) : eOr a b ρ S = .ok (.bl (k || k')) S := by
  rw [eOr_ap, h1, bind_ap]
  cases k
  · exact h2
  · rfl
theorem q_min {m l : Int} : minV [.int m, .int l] S = .ok (.int (if l < m then l else m)) S := rfl
theorem q_isBv : isBV (.bl k) (.bl k') S = .ok (.bl (decide (k = k'))) S := rfl
theorem q_isnBv : isnBV (.bl k) (.bl k') S = .ok (.bl (!decide (k = k'))) S := rfl
theorem q_any {p : List PV × Chk} (h1 : a ρ S = .ok x S1) (h2 : itemsV x S1 = .ok p S2) : iAny a ρ S = .ok p S2 := by rw [iAny_ap, h1, bind_ap, h2]
theorem q_itT : itemsV (.tup xs) S = .ok (xs, []) S := rfl
theorem q_itR : itemsV (.rol xs) S = .ok (xs, []) S := rfl
theorem q_itL (h : S[i]? = some (.lst xs)) : itemsV (.obj i) S = .ok (xs, [(i, .lst xs)]) S := items_obj h
theorem q_listL (h : S[i]? = some (.lst xs)) : listV [.obj i] S = .ok (.obj S.length) (S ++ [.lst xs]) := list_obj h
theorem q_listT : listV [.tup xs] S = .ok (.obj S.length) (S ++ [.lst xs]) := rfl
theorem q_tupL (h : S[i]? = some (.lst xs)) : tupleV [.obj i] S = .ok (.tup xs) S := tuple_obj h
theorem q_rng (h1 : a ρ S = .ok (.int (n : Int)) S1) (hn : n ≤ 1000000) : iRange1 a ρ S = .ok ((List.range n).map (fun k : Nat => PV.int (k : Int)), []) S1 := by rw [iRange1_nat h1 hn, rngL_nat]
theorem q_addL (e : S[i]? = some (.lst xs)) (e' : S[j]? = some (.lst ys)) (h : xs.length + ys.length ≤ 1000000) : addV (.obj i) (.obj j) S = .ok (.obj S.length) (S ++ [.lst (xs ++ ys)]) := by
  have e1 : lstOf (.obj i) S = some xs := by unfold lstOf; simp only [e]
  unfold addV
  simp only [e, e']
  rw [if_pos (line2 h)]
theorem q_addT (h : xs.length + ys.length ≤ 1000000) : addV (.tup xs) (.tup ys) S = .ok (.tup (xs ++ ys)) S := if_pos (line2 h)
theorem q_app (h : S[i]? = some (.lst xs)) (hl : xs.length ≤ 900000) : appendV (.obj i) [y] S = .ok .non (S.set i (.lst (xs ++ [y]))) := append_obj h (Nat.lt_of_le_of_lt hl (by decide))
theorem q_m {fm : FM} (h1 : a ρ S = .ok x S1) (h0 : isL x S1 = true) (h2 : cs ρ S1 = .ok xs S2) (h3 : fm x xs S2 = .ok z S3) : eM fm a cs ρ S = .ok z S3 := by rw [eM_ap, h1, bind_ap, if_pos h0, h2, bind_ap, h3]
theorem q_isl (h : S[i]? = some (.lst xs)) : isL (.obj i) S = true := isL_obj h
theorem q_gT0 : gcT S (.ok k S) = .ok k S := by
  have := gcT_app S [] k
  rw [List.append_nil] at this
  exact this
theorem q_gT1 {J : Store} : gcT S (.ok k (S ++ J)) = .ok k S := gcT_app _ _ _
theorem q_gT2 {J K : Store} : gcT S (.ok k (S ++ J ++ K)) = .ok k S := by rw [List.append_assoc]; exact gcT_app _ _ _
theorem q_gT3 {J K L : Store} : gcT S (.ok k (S ++ J ++ K ++ L)) = .ok k S := by rw [List.append_assoc, List.append_assoc]; exact gcT_app _ _ _
theorem q_clear (h : S[i]? = some (.lst xs)) : clearV (.obj i) [] S = .ok .non (S.set i (.lst [])) := by
  unfold clearV
  simp only [h]
/-! the same, ending in a truth that is known -/
theorem q_eqI1 {m l : Int} (h : m = l) : eqV (.int m) (.int l) S = .ok (.bl true) S := by rw [q_eqI, decide_eq_true h]
theorem q_eqI0 {m l : Int} (h : m ≠ l) : eqV (.int m) (.int l) S = .ok (.bl false) S := by rw [q_eqI, decide_eq_false h]
theorem q_neI1 {m l : Int} (h : m ≠ l) : neV (.int m) (.int l) S = .ok (.bl true) S := by rw [q_neI, decide_eq_false h]; rfl
theorem q_neI0 {m l : Int} (h : m = l) : neV (.int m) (.int l) S = .ok (.bl false) S := by rw [q_neI, decide_eq_true h]; rfl
theorem q_lt1 {m l : Int} (h : m < l) : ltV (.int m) (.int l) S = .ok (.bl true) S := by rw [q_lt, decide_eq_true h]
theorem q_lt0 {m l : Int} (h : ¬ m < l) : ltV (.int m) (.int l) S = .ok (.bl false) S := by rw [q_lt, decide_eq_false h]
theorem q_le1 {m l : Int} (h : m ≤ l) : leV (.int m) (.int l) S = .ok (.bl true) S := by rw [q_le, decide_eq_true h]
theorem q_le0 {m l : Int} (h : ¬ m ≤ l) : leV (.int m) (.int l) S = .ok (.bl false) S := by rw [q_le, decide_eq_false h]
theorem q_gt1 {m l : Int} (h : l < m) : gtV (.int m) (.int l) S = .ok (.bl true) S := by rw [q_gtI, decide_eq_true h]
theorem q_gt0 {m l : Int} (h : ¬ l < m) : gtV (.int m) (.int l) S = .ok (.bl false) S := by rw [q_gtI, decide_eq_false h]
theorem q_ge1 {m l : Int} (h : l ≤ m) : geV (.int m) (.int l) S = .ok (.bl true) S := by rw [q_ge, decide_eq_true h]
theorem q_ge0 {m l : Int} (h : ¬ l ≤ m) : geV (.int m) (.int l) S = .ok (.bl false) S := by rw [q_ge, decide_eq_false h]
theorem q_cnot1 (h1 : t ρ S = .ok false S1) : cNot t ρ S = .ok true S1 := by rw [cNot_ap, h1, bind_ap]; rfl
theorem q_cnot0 (h1 : t ρ S = .ok true S1) : cNot t ρ S = .ok false S1 := by rw [cNot_ap, h1, bind_ap]; rfl
/-! what closes the rest -/
theorem lenq {β : Type} {xs : List β} {n : Nat} (h : xs.length = n) : xs.length = n := h
theorem bleq {a b : Nat} (h : Nat.ble a b = true) : Nat.ble a b = true := h
theorem inteq {a b : Int} (h : a = b) : a = b := h
theorem getq {β : Type} {xs : List β} {n : Nat} {o : Option β} (h : xs[n]? = o) : xs[n]? = o := h
theorem bndq {n : Nat} {x : PV} (h : bnd n x = true) : bnd n x = true := h
theorem bndOq {n : Nat} {o : PO} (h : bndO n o = true) : bndO n o = true := h
theorem truq {x : PV} {S : Store} {o : Option Bool} (h : truV x S = o) : truV x S = o := h
theorem neq0 {a b : Int} (h : a ≠ b) : a ≠ b := h
theorem leqN {a b : Nat} (h : a ≤ b) : a ≤ b := h
theorem ltI {a b : Int} (h : a < b) : a < b := h
theorem leI {a b : Int} (h : a ≤ b) : a ≤ b := h
theorem nltI {a b : Int} (h : ¬ a < b) : ¬ a < b := h
theorem nleI {a b : Int} (h : ¬ a ≤ b) : ¬ a ≤ b := h
theorem bndO_l {n : Nat} {l : List PV} (h : bnds n l = true) : bndO n (.lst l) = true := h
theorem bnd_t {n : Nat} {l : List PV} (h : bnds n l = true) : bnd n (.tup l) = true := h
theorem bndsq {n : Nat} {l : List PV} (h : bnds n l = true) : bnds n l = true := h
theorem q_sne {R : Store} {q r : Nat} {o o' : PO} (h : R[q]? = some o) (hn : r ≠ q) : (R.set r o')[q]? = some o := by rw [List.getElem?_set_ne hn]; exact h
theorem q_seq {R : Store} {q : Nat} {o o' : PO} (h : R[q]? = some o) : (R.set q o')[q]? = some o' := List.getElem?_set_self (List.getElem?_eq_some_iff.mp h).1
theorem neN {a b : Nat} (h : a ≠ b) : a ≠ b := h
/-! a list that stands last, changed -/
theorem q_setlast {J : PO} : (S ++ [J]).set S.length o = S ++ [o] := by
  rw [List.set_append_right _ _ (Nat.le_refl _), Nat.sub_self]
  rfl
end
end TL

set_option Elab.async false
set_option linter.all false
set_option maxRecDepth 100000
set_option maxHeartbeats 1000000
set_option exponentiation.threshold 40000
namespace K80
open PySem PySem.Spec PyProof.Rows L2 TL
local macro_rules
  | `(tactic| contradiction) => `(tactic| first | with_reducible assumption | ((with_reducible apply q_var); exact rfl) | ((with_reducible apply q_intB1); exact rfl) | ((with_reducible apply q_intB0); exact rfl) | with_reducible (first | apply q_k | apply q_nil | apply q_cons | apply q_bin | apply q_tup | apply q_tbl | apply q_b | apply q_call | apply q_g0 | apply q_gc | apply q_add | apply q_sub | apply q_mod | apply q_eqI | apply q_neI | apply q_lt | apply q_le | apply q_gtI | apply q_ge | apply q_eqS | apply q_neS | apply q_t0 | apply q_t1 | apply q_t2 | apply q_t3 | apply q_t4 | apply q_t5 | apply q_l0 | apply q_l1 | apply q_l2 | apply q_l3 | apply q_l4 | apply q_l5 | apply q_gl | apply q_gt | apply q_slice | apply q_onone | apply q_osome | apply q_slT | apply q_slR | apply q_slO | apply q_lst | apply q_dic | apply q_ttru | apply q_and | apply q_or | apply q_or0 | apply q_cnot | apply q_tgc0 | apply q_tgc1 | apply q_tgc | apply q_gT0 | apply q_gT1 | apply q_gT2 | apply q_gT3 | apply q_if | apply q_i1 | apply q_i0 | apply q_not | apply q_neg | apply q_chain1 | apply q_n1 | apply q_n2 | apply q_n3 | apply q_n4 | apply q_g1 | apply q_g2 | apply q_g3 | apply q_g4 | apply q_mul | apply q_div | apply q_is | apply q_isn | apply q_lenT | apply q_lenR | apply q_lenL | apply q_intB | apply q_any | apply q_itT | apply q_itR | apply q_itL | apply q_listL | apply q_listT | apply q_tupL | apply q_rng | apply q_addL | apply q_addT | apply q_m | apply q_isl | apply q_eand | apply q_eor | apply q_min | apply q_isBv | apply q_isnBv | apply q_app | apply q_clear | apply q_callX | apply get_last | apply get_app | apply q_eqI1 | apply q_eqI0 | apply q_neI1 | apply q_neI0 | apply q_lt1 | apply q_lt0 | apply q_le1 | apply q_le0 | apply q_gt1 | apply q_gt0 | apply q_ge1 | apply q_ge0 | apply q_cnot1 | apply q_cnot0 | apply bndO_l | apply bnd_t | apply bnds_ints | apply bnds_cut | apply q_seq | apply q_sne | apply q_gcf) | ((with_reducible apply lenq); exact rfl) | ((with_reducible apply bleq); exact rfl) | ((with_reducible apply inteq); first | exact rfl | omega) | ((with_reducible apply getq); exact rfl) | ((with_reducible apply bndq); exact rfl) | ((with_reducible apply bndOq); exact rfl) | ((with_reducible apply truq); exact rfl) | ((with_reducible apply bndsq); exact rfl) | ((with_reducible apply neq0); first | decide | omega) | ((with_reducible apply leqN); first | decide | omega | (simp only [List.length_append, List.length_map, List.length_range, List.length_cons, List.length_nil, List.length_take, List.length_reverse, List.length_replicate, List.length_drop]; omega)) | ((with_reducible apply ltI); omega) | ((with_reducible apply neN); first | assumption | omega) | ((with_reducible apply leI); omega) | ((with_reducible apply nltI); omega) | ((with_reducible apply nleI); omega) | (with_reducible exact mulOk_l (by decide)) | (with_reducible exact mulOk_r (by decide)))
theorem set_last {S : Store} {o o' : PO} : (S ++ [o]).set S.length o' = S ++ [o'] := by
  rw [List.set_append_right _ _ (Nat.le_refl _), Nat.sub_self]
  rfl

/-! ### a loop, by what it does to a state -/
theorem forN_fold {α σ : Type} {t : TT'} {b : CS} {ck : Chk} (e : α → PV) (g : σ → α → σ) (R : σ → Sl → Store → Prop) (hc : ∀ s ρ S, R s ρ S → chk ck S) : ∀ (xs : List α), (∀ s x ρ S, x ∈ xs → R s ρ S → ∃ ρ1, setT t (e x) ρ = some ρ1 ∧ Nx (R (g s x)) (b ρ1 S)) →
    ∀ s ρ S, R s ρ S → Nx (R (xs.foldl g s)) (forN t b ck (xs.map e) ρ S)
  | [], _, s, ρ, S, h => ⟨ρ, S, by rw [List.map_nil, forN_nil (hc _ _ _ h)], h⟩
  | x :: xs, hs, s, ρ, S, h => by
    obtain ⟨ρ1, e1, ρ', S', e2, h2⟩ := hs s x ρ S (List.mem_cons_self ..) h
    rw [List.map_cons, forN_next (hc _ _ _ h) e1 e2]
    exact forN_fold e g R hc xs (fun s y ρ S hy => hs s y ρ S (List.mem_cons_of_mem _ hy)) (g s x) ρ' S' h2
theorem nx_for {α σ : Type} {t : TT'} {b : CS} {it : CE (List PV × Chk)} {ρ : Sl} {S S1 : Store} (e : α → PV) (xs : List α) (ck : Chk) (g : σ → α → σ) (R : σ → Sl → Store → Prop) (s : σ) (h : it ρ S = .ok (xs.map e, ck) S1) (hc : ∀ s ρ S, R s ρ S → chk ck S)
    (hs : ∀ s x ρ S, x ∈ xs → R s ρ S → ∃ ρ1, setT t (e x) ρ = some ρ1 ∧ Nx (R (g s x)) (b ρ1 S)) (h0 : R s ρ S1) : Nx (R (xs.foldl g s)) (sFor t it b ρ S) := by
  rw [sFor_ap, h, sb_ap]
  exact forN_fold e g R hc xs hs s ρ S1 h0
theorem Nx.mono {P Q : Sl → Store → Prop} {r : SR} (h : Nx P r) (k : ∀ ρ S, P ρ S → Q ρ S) : Nx Q r := by
  obtain ⟨ρ, S, e, p⟩ := h
  exact ⟨ρ, S, e, k ρ S p⟩
theorem nx_seq {P Q : Sl → Store → Prop} {a b : CS} {ρ : Sl} {S : Store} (h : Nx Q (a ρ S)) (k : ∀ ρ S, Q ρ S → Nx P (b ρ S)) : Nx P (sSeq a b ρ S) := by
  obtain ⟨ρ', S', e, q⟩ := h
  rw [seq_next e]
  exact k ρ' S' q
theorem nx_forI {α : Type} {t : TT'} {b : CS} {it : CE (List PV × Chk)} {ρ : Sl} {S S1 : Store} (e : α → PV) (xs : List α) (ck : Chk) (P : Nat → Sl → Store → Prop) (h : it ρ S = .ok (xs.map e, ck) S1) (hc : ∀ i ρ S, P i ρ S → chk ck S)
    (hs : ∀ (i : Nat) (x : α) (ρ : Sl) (S : Store), xs[i]? = some x → P i ρ S → ∃ ρ1, setT t (e x) ρ = some ρ1 ∧ Nx (P (i + 1)) (b ρ1 S)) (h0 : P 0 ρ S1) : Nx (P xs.length) (sFor t it b ρ S) := by
  rw [sFor_ap, h, sb_ap]
  obtain ⟨ρ', S', e1, p⟩ := for_inv (all := xs.map e) P h0 hc fun i x ρ S hx hp => by
    rw [List.getElem?_map] at hx
    cases q : xs[i]? with
    | none => rw [q] at hx; cases hx
    | some y =>
      rw [q] at hx
      have ex : e y = x := Option.some.inj hx
      subst ex
      obtain ⟨ρ1, e1, ρ', S', e2, p⟩ := hs i y ρ S q hp
      exact ⟨ρ1, e1, ρ', S', .inl e2, p⟩
  rw [List.length_map] at p
  exact ⟨ρ', S', e1, p⟩
theorem rng_at {n i x : Nat} (h : (List.range n)[i]? = some x) : x = i ∧ i < n := by
  obtain ⟨h1, h2⟩ := List.getElem?_eq_some_iff.mp h
  rw [List.getElem_range] at h2
  exact ⟨h2.symm, by simpa using h1⟩
theorem it_rng {c : CE PV} {ρ : Sl} {S S1 : Store} {n : Nat} (h : c ρ S = .ok (.int (n : Int)) S1) (hn : n ≤ 1000000) : iRange1 c ρ S = .ok ((List.range n).map (fun k : Nat => PV.int (k : Int)), []) S1 := by
  rw [iRange1_nat h hn, rngL_nat]
theorem chk_J {ck : Chk} {S J : Store} (h : chk ck S) : chk ck (S ++ J) := fun p hp => get_app (h p hp)
theorem lcN_ty {α : Type} {t : TT'} {te : CE PV} {tt : CE Bool} {ck : Chk} {ρ : Sl} {S : Store} (e f : α → PV) (q : α → Bool) (hck : chk ck S) :
    ∀ (xs : List α) (acc : List PV), acc.length + xs.length ≤ sizeLine → (∀ x ∈ xs, ∃ ρ1, setT t (e x) ρ = some ρ1 ∧ ∀ zs, tt ρ1 (S ++ [.lst zs]) = .ok (q x) (S ++ [.lst zs]) ∧ (q x = true → te ρ1 (S ++ [.lst zs]) = .ok (f x) (S ++ [.lst zs]))) →
    lcN t tt te ck S.length ρ (xs.map e) (S ++ [.lst acc]) = .ok (.obj S.length) (S ++ [.lst (acc ++ (xs.filter q).map f)])
  | [], acc, _, _ => by
    rw [List.map_nil]
    unfold lcN
    rw [if_pos (chk_J hck)]
    simp
  | x :: xs, acc, hl, h => by
    obtain ⟨ρ1, e0, e1⟩ := h x (List.mem_cons_self ..)
    obtain ⟨t1, t2⟩ := e1 acc
    have hz : acc.length < sizeLine := by simp at hl; omega
    have e2 : (S ++ [PO.lst acc])[S.length]? = some (.lst acc) := get_last
    rw [List.map_cons]
    cases hq : q x with
    | false =>
      have ih := lcN_ty (t := t) (te := te) (tt := tt) (ρ := ρ) e f q hck xs acc (by simp at hl ⊢; omega) fun y hy => h y (List.mem_cons_of_mem _ hy)
      unfold lcN
      rw [if_pos (chk_J hck), e0]
      simp only [t1, hq, Bool.false_eq_true, if_false]
      rw [ih, List.filter_cons, hq]
      rfl
    | true =>
      have ih := lcN_ty (t := t) (te := te) (tt := tt) (ρ := ρ) e f q hck xs (acc ++ [f x]) (by simp at hl ⊢; omega) fun y hy => h y (List.mem_cons_of_mem _ hy)
      unfold lcN
      rw [if_pos (chk_J hck), e0]
      simp only [t1, hq, if_true, t2 hq, e2, hz, set_last]
      rw [ih, List.filter_cons, hq]
      simp
theorem eLc_ty {α : Type} {t : TT'} {te : CE PV} {tt : CE Bool} (e f : α → PV) (q : α → Bool) (xs : List α) (ck : Chk) {vs : List Nat} {it : CE (List PV × Chk)} {ρ : Sl} {S S1 : Store} (hi : it ρ S = .ok (xs.map e, ck) S1) (hck : chk ck S1) (hl : xs.length ≤ 1000000)
    (h : ∀ x ∈ xs, ∃ ρ1, setT t (e x) (wipeP ρ vs) = some ρ1 ∧ ∀ zs, tt ρ1 (S1 ++ [.lst zs]) = .ok (q x) (S1 ++ [.lst zs]) ∧ (q x = true → te ρ1 (S1 ++ [.lst zs]) = .ok (f x) (S1 ++ [.lst zs]))) : eLc t it tt te vs ρ S = .ok (.obj S1.length) (S1 ++ [.lst ((xs.filter q).map f)]) := by
  have := lcN_ty (t := t) (te := te) (tt := tt) (ck := ck) (ρ := wipeP ρ vs) e f q hck xs [] (by have := line2 hl; simpa using this) h
  unfold eLc
  rw [hi]
  show lcN t tt te ck S1.length (wipeP ρ vs) (xs.map e) (S1 ++ [.lst []]) = _
  rw [this]
  simp
theorem eLc_tm {α : Type} {t : TT'} {te : CE PV} (e f : α → PV) (xs : List α) (ck : Chk) {vs : List Nat} {it : CE (List PV × Chk)} {ρ : Sl} {S S1 : Store} (hi : it ρ S = .ok (xs.map e, ck) S1) (hck : chk ck S1) (hl : xs.length ≤ 1000000)
    (h : ∀ x ∈ xs, ∃ ρ1, setT t (e x) (wipeP ρ vs) = some ρ1 ∧ ∀ zs, te ρ1 (S1 ++ [.lst zs]) = .ok (f x) (S1 ++ [.lst zs])) : eLc t it tYes' te vs ρ S = .ok (.obj S1.length) (S1 ++ [.lst (xs.map f)]) := by
  have := eLc_ty (t := t) (te := te) (tt := tYes') e f (fun _ => true) xs ck (vs := vs) (it := it) (ρ := ρ) hi hck hl fun x hx => by
    obtain ⟨ρ1, e0, e1⟩ := h x hx
    exact ⟨ρ1, e0, fun zs => ⟨rfl, fun _ => e1 zs⟩⟩
  rw [List.filter_eq_self.mpr fun _ _ => rfl] at this
  exact this

theorem nx_if {P : Sl → Store → Prop} {t : CE Bool} {a c : CS} {ρ : Sl} {S S1 : Store} {k : Bool} (h : t ρ S = .ok k S1) (h1 : k = true → Nx P (a ρ S1)) (h2 : k = false → Nx P (c ρ S1)) : Nx P (sIf t a c ρ S) := by
  rw [sIf_ap, h, sb_ap]
  cases k
  · rw [if_neg Bool.false_ne_true]; exact h2 rfl
  · rw [if_pos rfl]; exact h1 rfl
theorem out_ex {n : Nat} {b : CS} {xs : List PV} {S S1 : Store} {x : PV} (h : Rv x (fun S' => S' = S1) (b (startP n xs) S)) : runD n b xs S = .ok x S1 := by
  obtain ⟨S', e, rfl⟩ := h
  show outS _ = _
  rw [e]
  rfl
theorem out_nx {n : Nat} {b : CS} {xs : List PV} {S S1 : Store} (h : Nx (fun _ S' => S' = S1) (b (startP n xs) S)) : runD n b xs S = .ok .non S1 := by
  obtain ⟨ρ', S', e, rfl⟩ := h
  show outS _ = _
  rw [e]
  rfl
theorem cAnd_of {a b : CE Bool} {ρ : Sl} {S : Store} {x y : Bool} (h1 : a ρ S = .ok x S) (h2 : x = true → b ρ S = .ok y S) : cAnd a b ρ S = .ok (x && y) S := by
  rw [cAnd_ap, h1, bind_ap]
  cases x
  · rfl
  · rw [if_pos rfl, h2 rfl]; rfl
theorem cOr_of {a b : CE Bool} {ρ : Sl} {S : Store} {x y : Bool} (h1 : a ρ S = .ok x S) (h2 : x = false → b ρ S = .ok y S) : cOr a b ρ S = .ok (x || y) S := by
  rw [cOr_ap, h1, bind_ap]
  cases x
  · rw [if_neg Bool.false_ne_true, h2 rfl]; rfl
  · rfl
theorem tb_of {f : F2} {a b : CE PV} {ρ : Sl} {S S1 S2 S3 : Store} {x y : PV} {k : Bool} (h1 : a ρ S = .ok x S1) (h2 : b ρ S1 = .ok y S2) (h3 : f x y S2 = .ok (.bl k) S3) : tBl (eBin f a b) ρ S = .ok k S3 := by
  rw [tBl_ap, eBin_of h1 h2 h3]
  rfl
theorem lt_int (x y : Int) (S : Store) : ltV (.int x) (.int y) S = .ok (.bl (decide (x < y))) S := by simp
theorem gt_int (x y : Int) (S : Store) : gtV (.int x) (.int y) S = .ok (.bl (decide (x > y))) S := by simp
theorem ge_int (x y : Int) (S : Store) : geV (.int x) (.int y) S = .ok (.bl (decide (x ≥ y))) S := by simp
theorem ne_int (x y : Int) (S : Store) : neV (.int x) (.int y) S = .ok (.bl (!decide (x = y))) S := by simp [eqG_int]
theorem eq_int (x y : Int) (S : Store) : eqV (.int x) (.int y) S = .ok (.bl (decide (x = y))) S := by simp [eqG_int]
theorem eOr_bl {a b : CE PV} {ρ : Sl} {S : Store} {x y : Bool} (h1 : a ρ S = .ok (.bl x) S) (h2 : b ρ S = .ok (.bl y) S) : eOr a b ρ S = .ok (.bl (x || y)) S := by
  rw [eOr_ap, h1, bind_ap]
  cases x
  · exact h2
  · rfl
theorem eAnd_bl {a b : CE PV} {ρ : Sl} {S : Store} {x y : Bool} (h1 : a ρ S = .ok (.bl x) S) (h2 : b ρ S = .ok (.bl y) S) : eAnd a b ρ S = .ok (.bl (x && y)) S := by
  rw [eAnd_ap, h1, bind_ap]
  cases x
  · rfl
  · exact h2

/-! ### what writes a number -/
/-! ### loops that may stop, guards -/
theorem forN_stop {t : TT'} {b : CS} {ck : Chk} {all : List PV} {S : Store} {x : PV} (p : Nat → Bool) (P : Nat → Sl → Prop) (hck : chk ck S)
    (hs : ∀ (i : Nat) (y : PV) (ρ : Sl), all[i]? = some y → P i ρ → ∃ ρ1, setT t y ρ = some ρ1 ∧ ((p i = true ∧ ∃ ρ', b ρ1 S = .next ρ' S ∧ P (i + 1) ρ') ∨ (p i = false ∧ b ρ1 S = .ret x S))) :
    ∀ (k i : Nat) (ρ : Sl), i + k = all.length → P i ρ → (∃ ρ', forN t b ck (all.drop i) ρ S = .next ρ' S ∧ P all.length ρ' ∧ ∀ j, i ≤ j → j < all.length → p j = true) ∨ (forN t b ck (all.drop i) ρ S = .ret x S ∧ ∃ j, j < all.length ∧ p j = false)
  | 0, i, ρ, h, q => by
    have e : i = all.length := by omega
    subst e
    refine .inl ⟨ρ, ?_, q, fun j h1 h2 => by omega⟩
    rw [List.drop_length]
    unfold forN
    rw [if_pos hck]
  | k + 1, i, ρ, h, q => by
    have hi : i < all.length := by omega
    obtain ⟨ρ1, e1, d⟩ := hs i all[i] ρ (List.getElem?_eq_getElem hi) q
    rcases d with ⟨e2, ρ', e3, q'⟩ | ⟨e2, e3⟩
    · rcases forN_stop p P hck hs k (i + 1) ρ' (by omega) q' with ⟨ρ2, f1, f2, f3⟩ | ⟨f1, f2⟩
      · refine .inl ⟨ρ2, ?_, f2, fun j h1 h2 => ?_⟩
        · rw [List.drop_eq_getElem_cons hi]
          unfold forN
          rw [if_pos hck, e1]
          simp only [e3, f1]
        · by_cases e : j = i
          · subst e; exact e2
          · exact f3 j (by omega) h2
      · refine .inr ⟨?_, f2⟩
        rw [List.drop_eq_getElem_cons hi]
        unfold forN
        rw [if_pos hck, e1]
        simp only [e3, f1]
    · refine .inr ⟨?_, i, hi, e2⟩
      rw [List.drop_eq_getElem_cons hi]
      unfold forN
      rw [if_pos hck, e1]
      simp only [e3]
theorem st_stop {t : TT'} {i : CE (List PV × Chk)} {b d : CS} {ρ : Sl} {S S1 : Store} {all : List PV} {ck : Chk} {x X : PV} {Q : Store → Prop} (p : Nat → Bool) (P : Nat → Sl → Prop) (h : i ρ S = .ok (all, ck) S1) (hck : chk ck S1) (h0 : P 0 ρ)
    (hs : ∀ (i : Nat) (y : PV) (ρ : Sl), all[i]? = some y → P i ρ → ∃ ρ1, setT t y ρ = some ρ1 ∧ ((p i = true ∧ ∃ ρ', b ρ1 S1 = .next ρ' S1 ∧ P (i + 1) ρ') ∨ (p i = false ∧ b ρ1 S1 = .ret x S1)))
    (k1 : (∀ j, j < all.length → p j = true) → ∀ ρ', P all.length ρ' → Rv X Q (d ρ' S1)) (k2 : (∃ j, j < all.length ∧ p j = false) → X = x ∧ Q S1) : Rv X Q (sSeq (sFor t i b) d ρ S) := by
  have g := forN_stop (x := x) p P hck hs all.length 0 ρ (by omega) h0
  rw [List.drop_zero] at g
  rcases g with ⟨ρ', f1, f2, f3⟩ | ⟨f1, f2⟩
  · rw [seq_for h f1]
    exact k1 (fun j hj => f3 j (Nat.zero_le _) hj) ρ' f2
  · obtain ⟨eX, q⟩ := k2 f2
    refine ⟨S1, ?_, q⟩
    rw [sSeq_ap, sFor_ap, h, sb_ap, f1, eX]
theorem st_guard {X x : PV} {Q : Store → Prop} {t : CE Bool} {c : CE PV} {d : CS} {ρ : Sl} {S : Store} (k : Bool) (h : t ρ S = .ok k S) (hx : c ρ S = .ok x S) (h1 : k = true → X = x ∧ Q S) (h2 : k = false → Rv X Q (d ρ S)) : Rv X Q (sSeq (sIf t (sRet c) sNext) d ρ S) := by
  cases k with
  | false => exact st_no S h (h2 rfl)
  | true =>
    obtain ⟨eX, q⟩ := h1 rfl
    refine ⟨S, ?_, q⟩
    rw [sSeq_ap, sIf_ap, h, sb_ap, if_pos rfl, sRet_ap, hx, eX]
    rfl
theorem out_rv {n : Nat} {b : CS} {xs : List PV} {S : Store} {x : PV} (h : Rv x (fun S' => S' = S) (b (startP n xs) S)) : runD n b xs S = .ok x S := by
  obtain ⟨S', e, rfl⟩ := h
  show outS _ = _
  rw [e]
  rfl

theorem str_ext {x y : Str} (h : tl x = tl y) : x = y := by
  have := map_tl_inj (l := [x]) (m := [y]) (by rw [List.map_singleton, List.map_singleton, h])
  exact List.singleton_inj.mp this
theorem tl_iff {x y : Str} : x = y ↔ tl x = tl y := ⟨fun h => by rw [h], str_ext⟩
theorem tl_take (w : Str) (k : Nat) : tl (cutS w none (some (k : Int))) = (tl w).take k := by
  show ((w.cps.toList.drop 0).take (HT.sIx w.length w.length (some (k : Int)) - 0)) = _
  rw [HT.sIx_nat, len_tl, List.drop_zero, Nat.sub_zero]
  show (tl w).take (min k (tl w).length) = _
  rw [← List.take_eq_take_min]
theorem tl_drop (w : Str) (k : Nat) : tl (cutS w (some (k : Int)) none) = (tl w).drop k := by
  show ((w.cps.toList.drop (HT.sIx w.length 0 (some (k : Int)))).take (w.length - HT.sIx w.length 0 (some (k : Int)))) = _
  rw [HT.sIx_nat, len_tl]
  show ((tl w).drop (min k (tl w).length)).take _ = _
  rw [List.take_of_length_le (by rw [List.length_drop]; omega)]
  by_cases h : k ≤ (tl w).length
  · rw [Nat.min_eq_left h]
  · rw [Nat.min_eq_right (by omega), List.drop_length, List.drop_of_length_le (by omega)]
theorem tl_last (w : Str) : tl (cutS w (some (-1)) none) = (tl w).drop ((tl w).length - 1) := by
  show ((w.cps.toList.drop (HT.sIx w.length 0 (some (-1)))).take (w.length - HT.sIx w.length 0 (some (-1)))) = _
  have e : HT.sIx w.length 0 (some (-1)) = (tl w).length - 1 := by
    rw [len_tl]
    unfold HT.sIx
    simp only
    rw [if_pos (by decide)]
    omega
  rw [e, len_tl]
  show ((tl w).drop _).take _ = _
  rw [List.take_of_length_le (by rw [List.length_drop]; omega)]
theorem tl_inner (w : Str) : tl (cutS w (some 1) (some (-1))) = ((tl w).drop 1).take ((tl w).length - 2) := by
  show ((w.cps.toList.drop (HT.sIx w.length 0 (some ((1 : Nat) : Int)))).take (HT.sIx w.length w.length (some (-1)) - HT.sIx w.length 0 (some ((1 : Nat) : Int)))) = _
  have e : HT.sIx w.length w.length (some (-1)) = (tl w).length - 1 := by
    rw [len_tl]
    unfold HT.sIx
    simp only
    rw [if_pos (by decide)]
    omega
  rw [e, HT.sIx_nat, len_tl]
  show ((tl w).drop _).take _ = _
  by_cases h : 1 ≤ (tl w).length
  · rw [Nat.min_eq_left h]
    rw [show (tl w).length - 1 - 1 = (tl w).length - 2 by omega]
  · have : (tl w) = [] := List.eq_nil_of_length_eq_zero (by omega)
    rw [this]
    simp
theorem tl_init (w : Str) : tl (cutS w none (some (-1))) = (tl w).take ((tl w).length - 1) := by
  show ((w.cps.toList.drop 0).take (HT.sIx w.length w.length (some (-1)) - 0)) = _
  have e : HT.sIx w.length w.length (some (-1)) = (tl w).length - 1 := by
    rw [len_tl]
    unfold HT.sIx
    simp only
    rw [if_pos (by decide)]
    omega
  rw [e, List.drop_zero, Nat.sub_zero]
def isDig (c : Nat) : Bool := decide (48 ≤ c ∧ c ≤ 57)
def figsL (cs : List Nat) : List Nat := if cs.take 1 = [45] then cs.drop 1 else cs
def isNumL (cs : List Nat) : Bool := decide (1 ≤ (figsL cs).length) && decide ((figsL cs).length ≤ 60) && !(decide ((figsL cs).take 1 = [48]) && !decide (cs = [48])) && (figsL cs).all isDig
theorem dig_in (c : Nat) : decide (c ∈ ("0123456789" : Str).cps.toList) = isDig c := by
  have e : ("0123456789" : Str).cps.toList = [48, 49, 50, 51, 52, 53, 54, 55, 56, 57] := by kernel_rfl
  rw [e]
  unfold isDig
  refine decide_eq_decide.mpr ?_
  simp only [List.mem_cons, List.not_mem_nil, or_false]
  omega
theorem signs_at {w : Str} {i : Nat} {y : PV} (hy : (TL.signs w)[i]? = some y) : ∃ c, (tl w)[i]? = some c ∧ y = .str ⟨#[c]⟩ := by
  unfold TL.signs at hy
  rw [List.getElem?_map] at hy
  cases e : w.cps.toList[i]? with
  | none => rw [e] at hy; cases hy
  | some c => rw [e] at hy; exact ⟨c, rfl, (Option.some.inj hy).symm⟩
theorem signs_length (w : Str) : (TL.signs w).length = (tl w).length := by unfold TL.signs; rw [List.length_map]
theorem is_number_eq (w : Str) (hw : w.length ≤ 1000000) (S : Store) : m_is_number [.str w] S = .ok (.bl (isNumL (tl w))) S := by
  have hz := line2 hw
  refine out_rv ?_
  show Rv _ _ (b_is_number [some (.str w), none, none] S)
  unfold b_is_number
  obtain ⟨f, hf⟩ : ∃ f : Str, tl f = figsL (tl w) := ⟨⟨(figsL (tl w)).toArray⟩, tl_mk _⟩
  (apply st_set; · (repeat' (first  | contradiction))); (try dsimp only [List.set_cons_succ, List.set_cons_zero])
  have c1 : sliceV (.str w) none (some 1) S = .ok (.str (cutS w none (some 1))) S := if_pos hz
  have c2 : sliceV (.str w) (some 1) none S = .ok (.str (cutS w (some 1) none)) S := if_pos hz
  have e1 : tGc (tBl (eBin eqV (eSlice (eVar 0) oNone (oSome (eK (.int 1)))) (eK (.str "-")))) [some (.str w), some (.str w), none] S = .ok (decide ((tl w).take 1 = [45])) S := by
    have : decide (cutS w none (some 1) = "-") = decide ((tl w).take 1 = [45]) := decide_eq_decide.mpr (by
      rw [tl_iff, show (1 : Int) = ((1 : Nat) : Int) from rfl, tl_take, show tl ("-" : Str) = [45] by kernel_rfl])
    rw [← this]
    exact q_tgc (q_tbl (q_bin (q_slice (q_var rfl) q_onone (q_osome q_k) c1) q_k q_eqS)) q_gT0
  refine st_nx (P := fun ρ T => ρ = [some (.str w), some (.str f), none] ∧ T = S) (nx_if e1 (fun h => nx_set (.str f) S ?_ ⟨rfl, rfl⟩) fun h => ⟨_, _, rfl, ?_, rfl⟩) ?_
  · have : f = cutS w (some 1) none := str_ext (by
      rw [hf, show (1 : Int) = ((1 : Nat) : Int) from rfl, tl_drop]
      unfold figsL
      rw [if_pos (of_decide_eq_true h)])
    rw [this]
    exact q_gc (q_slice (q_var rfl) (q_osome q_k) q_onone c2) q_g0
  · have : f = w := str_ext (by
      rw [hf]
      unfold figsL
      rw [if_neg (of_decide_eq_false h)])
    rw [this]
  rintro ρ T ⟨rfl, hT⟩
  rw [hT]
  have fl : f.length ≤ 1000000 := by
    rw [len_tl, hf]
    rw [len_tl] at hw
    unfold figsL
    split
    · rw [List.length_drop]; omega
    · exact hw
  have fz := line2 fl
  have ln : lenV [.str f] S = .ok (.int ((figsL (tl w)).length : Int)) S := by
    rw [← hf, ← len_tl]
    exact if_pos fz
  have b1 : tBl (eChain leV leV (eK (.int 1)) (eB lenV (aCons (eVar 1) aNil)) (eK (.int 60))) [some (.str w), some (.str f), none] S = .ok (decide (1 ≤ (figsL (tl w)).length) && decide ((figsL (tl w)).length ≤ 60)) S := by
    refine q_tbl ?_
    rw [eChain_ap, eK_ap, bind_ap, eB_ap, aCons_ap, eVar_ap]
    simp only [List.getElem?_cons_succ, List.getElem?_cons_zero, bind_ap, aNil_ap]
    rw [ln, bind_ap, q_le, bind_ap]
    by_cases h : (1 : Int) ≤ ((figsL (tl w)).length : Int)
    · rw [decide_eq_true h, decide_eq_true (by omega : 1 ≤ (figsL (tl w)).length)]
      simp only [eK_ap, bind_ap]
      rw [q_le, Bool.true_and]
      congr 2
      exact decide_eq_decide.mpr (by omega)
    · rw [decide_eq_false h, decide_eq_false (by omega : ¬ 1 ≤ (figsL (tl w)).length)]
      rfl
  obtain ⟨g, hg⟩ : ∃ g : Bool, g = (!(decide (1 ≤ (figsL (tl w)).length) && decide ((figsL (tl w)).length ≤ 60)) || (decide ((figsL (tl w)).take 1 = [48]) && !decide (tl w = [48]))) := ⟨_, rfl⟩
  have gd : cOr (cNot (tBl (eChain leV leV (eK (.int 1)) (eB lenV (aCons (eVar 1) aNil)) (eK (.int 60))))) (cAnd (tBl (eBin eqV (eBin getV (eVar 1) (eK (.int 0))) (eK (.str "0")))) (tBl (eBin neV (eVar 0) (eK (.str "0"))))) [some (.str w), some (.str f), none] S = .ok g S := by
    rw [hg]
    have n1 := q_cnot b1
    by_cases h : (decide (1 ≤ (figsL (tl w)).length) && decide ((figsL (tl w)).length ≤ 60)) = true
    · rw [h] at n1 ⊢
      refine q_or0 n1 ?_
      rw [Bool.not_true, Bool.false_or]
      have h1 : 1 ≤ (figsL (tl w)).length := of_decide_eq_true (Bool.and_eq_true_iff.mp h).1
      obtain ⟨c, r, hc⟩ : ∃ c r, figsL (tl w) = c :: r := List.exists_cons_of_length_pos h1
      have hcr : f.cps.toList = c :: r := hf.trans hc
      have g0 : getV (.str f) (.int 0) S = .ok (.str ⟨#[c]⟩) S := by
        unfold getV
        simp only [fz, if_true]
        rw [show atI f.cps.toList 0 = some c from atI_nat (j := 0) (by rw [hcr]; rfl)]
      have e0 : decide ((⟨#[c]⟩ : Str) = "0") = decide ((figsL (tl w)).take 1 = [48]) := decide_eq_decide.mpr (by
        rw [tl_iff, hc, show tl ("0" : Str) = [48] by kernel_rfl]
        rfl)
      have ew : decide (w = "0") = decide (tl w = [48]) := decide_eq_decide.mpr (by rw [tl_iff, show tl ("0" : Str) = [48] by kernel_rfl])
      rw [← e0, ← ew]
      refine q_and (q_tbl (q_bin (q_bin (q_var rfl) q_k g0) q_k q_eqS)) (q_tbl (q_bin (q_var rfl) q_k q_neS))
    · rw [Bool.eq_false_iff.mpr h] at n1 ⊢
      exact q_or1 n1
  have full : isNumL (tl w) = (!g && (figsL (tl w)).all isDig) := by
    rw [hg]
    unfold isNumL
    cases decide (1 ≤ (figsL (tl w)).length) <;> cases decide ((figsL (tl w)).length ≤ 60) <;> cases decide ((figsL (tl w)).take 1 = [48]) <;> cases decide (tl w = [48]) <;> rfl
  refine st_guard g gd (x := .bl false) rfl (fun h => ?_) fun h => ?_
  · rw [full, h]
    exact ⟨rfl, rfl⟩
  rw [full, h, Bool.not_false, Bool.true_and, ← hf]
  refine st_stop (all := TL.signs f) (ck := []) (S1 := S) (x := .bl false) (fun i => isDig ((tl f).getD i 0)) (fun _ ρ => ∃ a, ρ = [some (.str w), some (.str f), a]) rfl (chk_nil S) ⟨none, rfl⟩ ?_ ?_ ?_
  · rintro i y ρ hy ⟨a, rfl⟩
    obtain ⟨c, hc, rfl⟩ := signs_at hy
    have hd : (tl f).getD i 0 = c := by rw [List.getD_eq_getElem?_getD, hc]; rfl
    refine ⟨[some (.str w), some (.str f), some (.str ⟨#[c]⟩)], rfl, ?_⟩
    have t : tBl (eBin ninV (eVar 2) (eK k_FIGURES)) [some (.str w), some (.str f), some (.str ⟨#[c]⟩)] S = .ok (!isDig c) S := by
      rw [← dig_in]
      rfl
    simp only [hd]
    cases m : isDig c with
    | true =>
      refine .inl ⟨rfl, [some (.str w), some (.str f), some (.str ⟨#[c]⟩)], ?_, ⟨_, rfl⟩⟩
      rw [m] at t
      rw [sIf_ap, t]
      rfl
    | false =>
      refine .inr ⟨rfl, ?_⟩
      rw [m] at t
      rw [sIf_ap, t]
      rfl
  · rintro all ρ' ⟨a, rfl⟩
    have : (tl f).all isDig = true := by
      rw [List.all_eq_true]
      intro c hc
      obtain ⟨i, hi, rfl⟩ := List.mem_iff_getElem.mp hc
      have := all i (by rw [signs_length]; exact hi)
      rw [List.getD_eq_getElem?_getD, List.getElem?_eq_getElem hi] at this
      exact this
    rw [this]
    exact ⟨S, rfl, rfl⟩
  · rintro ⟨j, hj, pj⟩
    refine ⟨?_, rfl⟩
    rw [signs_length] at hj
    have : (tl f).all isDig = false := by
      rw [Bool.eq_false_iff]
      intro z
      rw [List.all_eq_true] at z
      have := z _ (List.getElem_mem hj)
      rw [List.getD_eq_getElem?_getD, List.getElem?_eq_getElem hj] at pj
      have pj' : isDig ((tl f)[j]) = false := pj
      rw [this] at pj'
      cases pj'
    rw [this]
/-! numbers' own texts -/
theorem all_dig {cs : List Nat} : cs.all isDig = true ↔ NumText.AllDigits cs := by
  rw [List.all_eq_true]
  exact ⟨fun h c hc => of_decide_eq_true (h c hc), fun h c hc => decide_eq_true (h c hc)⟩
theorem numL_head (n : Nat) : ∀ r, numL n = 48 :: r → n = 0 := by
  induction n using Nat.strongRecOn with
  | _ n ih =>
    intro r h
    by_cases h9 : n < 10
    · rw [numL_lt h9] at h
      have := (List.cons.inj h).1
      omega
    · rw [numL_step (by omega)] at h
      cases e : numL (n / 10) with
      | nil => exact absurd e (numL_ne _)
      | cons c s =>
        rw [e, List.cons_append] at h
        have hc := (List.cons.inj h).1
        rw [hc] at e
        have := ih (n / 10) (by omega) s e
        omega
theorem figs_zL (z : Int) : figsL (zL z) = numL z.natAbs := by
  unfold zL figsL
  split
  · rfl
  · rw [if_neg]
    intro h
    have : 45 ∈ numL z.natAbs := by
      cases e : numL z.natAbs with
      | nil => exact absurd e (numL_ne _)
      | cons c s =>
        rw [e] at h
        rw [(List.cons.inj h).1]
        exact .head _
    exact numL_free (.inl (by decide)) this
theorem isNum_zL {z : Int} (h : z.natAbs < 10 ^ 60) : isNumL (zL z) = true := by
  unfold isNumL
  rw [figs_zL]
  have l1 : 1 ≤ (numL z.natAbs).length := List.length_pos_iff.mpr (numL_ne _)
  have l2 := numL_len (k := 60) (by decide) h
  rw [decide_eq_true l1, decide_eq_true l2, all_dig.mpr (numL_digits _)]
  have : (decide ((numL z.natAbs).take 1 = [48]) && !decide (zL z = [48])) = false := by
    by_cases q : (numL z.natAbs).take 1 = [48]
    · have e : z.natAbs = 0 := by
        cases e : numL z.natAbs with
        | nil => exact absurd e (numL_ne _)
        | cons c s =>
          rw [e] at q
          have hc : c = 48 := (List.cons.inj q).1
          rw [hc] at e
          exact numL_head _ _ e
      have ez : z = 0 := by omega
      rw [ez]
      rfl
    · rw [decide_eq_false q]
      rfl
  rw [this]
  rfl
/-- what a number's text tells -/
theorem int_zL {w : Str} {z : Int} (h : tl w = zL z) (hz : z.natAbs < 10 ^ 60) : PySem.intText? w = some z := by
  have l2 := numL_len (k := 60) (by decide) hz
  have lw : w.length ≤ 4300 := by
    rw [len_tl, h]
    unfold zL
    split
    · rw [List.length_cons]; omega
    · omega
  unfold zL at h
  split at h
  · rename_i n
    rw [PySem.intText_neg h (numL_digits _) (numL_ne _) lw, numL_val]
    congr 1
    omega
  · rename_i n
    rw [PySem.intText_digits (by rw [show w.cps.toList = tl w from rfl, h]; exact numL_digits _) (by rw [show w.cps.toList = tl w from rfl, h]; exact numL_ne _) lw, show w.cps.toList = tl w from rfl, h, numL_val]
    congr 1
    omega
theorem len_zL {z : Int} (hz : z.natAbs < 10 ^ 60) : (zL z).length ≤ 61 := by
  have l2 := numL_len (k := 60) (by decide) hz
  unfold zL
  split
  · rw [List.length_cons]; omega
  · omega
theorem intV_tS {z : Int} (hz : z.natAbs < 10 ^ 60) (S : Store) : intV [.str (tS z)] S = .ok (.int z) S := by
  unfold intV
  simp only [int_zL (tl_zL z) hz]
  rw [if_pos]
  rw [len_tl, tl_zL]
  have := len_zL hz
  omega
theorem strV_tS {z : Int} (hz : z.natAbs < 10 ^ 60) (S : Store) : strV [.int z] S = .ok (.str (tS z)) S := by
  rw [strV_int, if_pos]
  exact Nat.lt_of_lt_of_le (log2_small (k := 200) (Nat.lt_trans hz (by decide +kernel)) (by decide)) (by decide)

end K80

set_option Elab.async false
set_option linter.all false
set_option maxRecDepth 100000
set_option maxHeartbeats 1000000
set_option exponentiation.threshold 40000
namespace K80
open PySem PySem.Spec PyProof.Rows L2 TL
local macro_rules
  | `(tactic| contradiction) => `(tactic| first | with_reducible assumption | ((with_reducible apply q_var); exact rfl) | ((with_reducible apply q_intB1); exact rfl) | ((with_reducible apply q_intB0); exact rfl) | with_reducible (first | apply q_k | apply q_nil | apply q_cons | apply q_bin | apply q_tup | apply q_tbl | apply q_b | apply q_call | apply q_g0 | apply q_gc | apply q_add | apply q_sub | apply q_mod | apply q_eqI | apply q_neI | apply q_lt | apply q_le | apply q_gtI | apply q_ge | apply q_eqS | apply q_neS | apply q_t0 | apply q_t1 | apply q_t2 | apply q_t3 | apply q_t4 | apply q_t5 | apply q_l0 | apply q_l1 | apply q_l2 | apply q_l3 | apply q_l4 | apply q_l5 | apply q_gl | apply q_gt | apply q_slice | apply q_onone | apply q_osome | apply q_slT | apply q_slR | apply q_slO | apply q_lst | apply q_dic | apply q_ttru | apply q_and | apply q_or | apply q_or0 | apply q_cnot | apply q_tgc0 | apply q_tgc1 | apply q_tgc | apply q_gT0 | apply q_gT1 | apply q_gT2 | apply q_gT3 | apply q_if | apply q_i1 | apply q_i0 | apply q_not | apply q_neg | apply q_chain1 | apply q_n1 | apply q_n2 | apply q_n3 | apply q_n4 | apply q_g1 | apply q_g2 | apply q_g3 | apply q_g4 | apply q_mul | apply q_div | apply q_is | apply q_isn | apply q_lenT | apply q_lenR | apply q_lenL | apply q_intB | apply q_any | apply q_itT | apply q_itR | apply q_itL | apply q_listL | apply q_listT | apply q_tupL | apply q_rng | apply q_addL | apply q_addT | apply q_m | apply q_isl | apply q_eand | apply q_eor | apply q_min | apply q_isBv | apply q_isnBv | apply q_app | apply q_clear | apply q_callX | apply get_last | apply get_app | apply q_eqI1 | apply q_eqI0 | apply q_neI1 | apply q_neI0 | apply q_lt1 | apply q_lt0 | apply q_le1 | apply q_le0 | apply q_gt1 | apply q_gt0 | apply q_ge1 | apply q_ge0 | apply q_cnot1 | apply q_cnot0 | apply bndO_l | apply bnd_t | apply bnds_ints | apply bnds_cut | apply q_seq | apply q_sne | apply q_gcf) | ((with_reducible apply lenq); exact rfl) | ((with_reducible apply bleq); exact rfl) | ((with_reducible apply inteq); first | exact rfl | omega) | ((with_reducible apply getq); exact rfl) | ((with_reducible apply bndq); exact rfl) | ((with_reducible apply bndOq); exact rfl) | ((with_reducible apply truq); exact rfl) | ((with_reducible apply bndsq); exact rfl) | ((with_reducible apply neq0); first | decide | omega) | ((with_reducible apply leqN); first | decide | omega | (simp only [List.length_append, List.length_map, List.length_range, List.length_cons, List.length_nil, List.length_take, List.length_reverse, List.length_replicate, List.length_drop]; omega)) | ((with_reducible apply ltI); omega) | ((with_reducible apply neN); first | assumption | omega) | ((with_reducible apply leI); omega) | ((with_reducible apply nltI); omega) | ((with_reducible apply nleI); omega) | (with_reducible exact mulOk_l (by decide)) | (with_reducible exact mulOk_r (by decide)))
/-! ### lists read -/
/-! ### a def that gives a thing or raises -/
/-! ### a loop that may raise -/
def Ex' (c : Str) (Q : Store → Prop) (r : SR) : Prop := ∃ ρ T, r = .exc c none ρ T ∧ Q T
theorem Ex'.seq {c : Str} {Q : Store → Prop} {a b : CS} {ρ : Sl} {S : Store} (h : Ex' c Q (a ρ S)) : Ex' c Q (sSeq a b ρ S) := by
  obtain ⟨x, T, e, q⟩ := h
  exact ⟨x, T, by rw [sSeq_ap, e], q⟩
theorem forN_exc {α : Type} {t : TT'} {b : CS} {ck : Chk} {c : Str} (e : α → PV) (n : Nat) (P : Nat → Sl → Store → Prop) (Q : Store → Prop) (hc : ∀ i ρ S, P i ρ S → chk ck S) : ∀ (xs : List α) (i : Nat) (ρ : Sl) (S : Store), i + xs.length = n →
    (∀ (j : Nat) (x : α) (ρ : Sl) (S : Store), xs[j]? = some x → P (i + j) ρ S → ∃ ρ1, setT t (e x) ρ = some ρ1 ∧ (Nx (P (i + j + 1)) (b ρ1 S) ∨ Ex' c Q (b ρ1 S))) → P i ρ S → Nx (P n) (forN t b ck (xs.map e) ρ S) ∨ Ex' c Q (forN t b ck (xs.map e) ρ S)
  | [], i, ρ, S, hn, _, h => by
    have : i = n := hn
    subst this
    exact .inl ⟨ρ, S, by rw [List.map_nil, forN_nil (hc _ _ _ h)], h⟩
  | x :: xs, i, ρ, S, hn, hs, h => by
    obtain ⟨ρ1, e1, h1⟩ := hs 0 x ρ S rfl h
    rw [List.length_cons] at hn
    rcases h1 with ⟨ρ', S', e2, h2⟩ | ⟨y, S', e2, h2⟩
    · rw [List.map_cons, forN_next (hc _ _ _ h) e1 e2]
      exact forN_exc e n P Q hc xs (i + 1) ρ' S' (by omega) (fun j x ρ S hj hp => by
        have := hs (j + 1) x ρ S hj (by rw [← Nat.add_assoc, Nat.add_right_comm]; exact hp)
        rw [← Nat.add_assoc, Nat.add_right_comm i j 1] at this
        exact this) h2
    · refine .inr ⟨y, S', ?_, h2⟩
      rw [List.map_cons]
      unfold forN
      rw [if_pos (hc _ _ _ h), e1]
      show (match b ρ1 S with
        | .next ρ' S' => forN t b ck (xs.map e) ρ' S'
        | .cont ρ' S' => forN t b ck (xs.map e) ρ' S'
        | .brk ρ' S' => .next ρ' S'
        | r => r) = _
      rw [e2]
theorem for_exc {α : Type} {t : TT'} {b : CS} {c : Str} {it : CE (List PV × Chk)} {ρ : Sl} {S S1 : Store} (e : α → PV) (xs : List α) (ck : Chk) (P : Nat → Sl → Store → Prop) (Q : Store → Prop) (h : it ρ S = .ok (xs.map e, ck) S1) (hc : ∀ i ρ S, P i ρ S → chk ck S)
    (hs : ∀ (i : Nat) (x : α) (ρ : Sl) (S : Store), xs[i]? = some x → P i ρ S → ∃ ρ1, setT t (e x) ρ = some ρ1 ∧ (Nx (P (i + 1)) (b ρ1 S) ∨ Ex' c Q (b ρ1 S))) (h0 : P 0 ρ S1) : Nx (P xs.length) (sFor t it b ρ S) ∨ Ex' c Q (sFor t it b ρ S) := by
  rw [sFor_ap, h, sb_ap]
  exact forN_exc e xs.length P Q hc xs 0 ρ S1 (Nat.zero_add _) (fun j x ρ S hj hp => by
    rw [Nat.zero_add] at hp ⊢
    exact hs j x ρ S hj hp) h0

theorem end_ret {G : SR → Prop} {c : CE PV} {ρ : Sl} {S : Store} (x : PV) (S1 : Store) (h : c ρ S = .ok x S1) (k : G (.ret x S1)) : G (sRet c ρ S) := by
  rw [ret_eq h]
  exact k
theorem st_ret {G : SR → Prop} {c : CE PV} {b : CS} {ρ : Sl} {S : Store} (x : PV) (S1 : Store) (h : c ρ S = .ok x S1) (k : G (.ret x S1)) : G (sSeq (sRet c) b ρ S) := by
  have e : sSeq (sRet c) b ρ S = .ret x S1 := by rw [sSeq_ap, ret_eq h]
  rw [e]
  exact k

def EndO (S : Store) (c : Str) (o : Option PV) (r : SR) : Prop := ∃ J, match o with
  | some x => r = .ret x (S ++ J)
  | none => ∃ ρ, r = .exc c none ρ (S ++ J)
def outO (S : Store) (c : Str) : Option PV → Res PV
  | some x => .ok x S
  | none => .exc c none S
theorem EndO.gc {S : Store} {c : Str} {o : Option PV} {n : Nat} {b : CS} {xs : List PV} (h : EndO S c o (b (startP n xs) S)) (hb : ∀ x, o = some x → bnd S.length x = true) : TL.gc S (runD n b xs S) = outO S c o := by
  obtain ⟨J, h⟩ := h
  cases o with
  | some x =>
    have h : b (startP n xs) S = .ret x (S ++ J) := h
    rw [runD_ap, h]
    exact gc_app (hb x rfl)
  | none =>
    obtain ⟨ρ, h⟩ := h
    rw [runD_ap, h]
    exact gc_xapp
theorem EndO.ret {S : Store} {c : Str} {x : PV} (J : Store) : EndO S c (some x) (.ret x (S ++ J)) := ⟨J, rfl⟩
theorem EndO.exc {S : Store} {c : Str} {ρ : Sl} (J : Store) : EndO S c none (.exc c none ρ (S ++ J)) := ⟨J, ρ, rfl⟩
theorem EndO.ret0 {S : Store} {c : Str} {x : PV} : EndO S c (some x) (.ret x S) := ⟨[], by show SR.ret x S = .ret x (S ++ []); rw [List.append_nil]⟩
theorem EndO.exc0 {S : Store} {c : Str} {ρ : Sl} : EndO S c none (.exc c none ρ S) := ⟨[], ρ, by rw [List.append_nil]⟩
theorem st_raise {G : SR → Prop} {t : CE Bool} {c : Str} {d : CS} {ρ : Sl} {S S1 : Store} (h : t ρ S = .ok true S1) (k : G (.exc c none ρ S1)) : G (sSeq (sIf t (sRaise c) sNext) d ρ S) := by
  have e : sSeq (sIf t (sRaise c) sNext) d ρ S = .exc c none ρ S1 := by rw [sSeq_ap, sIf_ap, h, sb_ap, if_pos rfl, sRaise_ap]
  rw [e]
  exact k
theorem exc_set {i : Nat} {e : CE PV} {c : Str} {ρ : Sl} {S T : Store} (h : e ρ S = .exc c none T) : sSet i e ρ S = .exc c none ρ T := by rw [sSet_ap, h]; rfl
theorem exc_drop {e : CE PV} {c : Str} {ρ : Sl} {S T : Store} (h : e ρ S = .exc c none T) : sDrop e ρ S = .exc c none ρ T := by rw [sDrop_ap, h]; rfl
theorem exc_seq {a b : CS} {c : Str} {ρ ρ' : Sl} {S T : Store} (h : a ρ S = .exc c none ρ' T) : sSeq a b ρ S = .exc c none ρ' T := by rw [sSeq_ap, h]
/-- a call that raises -/
theorem q_callE {n : Nat} {f : DF} {cs : CE (List PV)} {xs : List PV} {c : Str} {ρ : Sl} {S S1 T : Store} (h1 : cs ρ S = .ok xs S1) (hn : xs.length = n) (h2 : gc S1 (f xs S1) = .exc c none T) : eCall n f cs ρ S = .exc c none T := by rw [eCall_ap, h1, bind_ap, if_pos hn, h2]

def numS (p : Str) : Int := (PySem.intText? p).getD 0
theorem isNum_int {p : Str} (h : isNumL (tl p) = true) : PySem.intText? p = some (numS p) ∧ p.length ≤ 61 := by
  unfold isNumL at h
  simp only [Bool.and_eq_true, decide_eq_true_eq] at h
  obtain ⟨⟨⟨h1, h2⟩, _⟩, h3⟩ := h
  have hd := all_dig.mp h3
  have some' : ∃ n, PySem.intText? p = some n ∧ p.length ≤ 61 := by
    unfold figsL at hd h1 h2
    split at hd
    · rename_i q
      rw [if_pos q] at h1 h2
      cases e : tl p with
      | nil => rw [e] at q; cases q
      | cons c r =>
        rw [e] at q hd h1 h2
        have hc : c = 45 := (List.cons.inj q).1
        rw [hc] at e
        have h2 : r.length ≤ 60 := h2
        have h1 : 1 ≤ r.length := h1
        have lp : p.length ≤ 61 := by rw [len_tl, e, List.length_cons]; omega
        exact ⟨_, PySem.intText_neg (cs := r) e hd (fun z => by rw [z] at h1; cases h1) (by omega), lp⟩
    · rename_i q
      rw [if_neg q] at h1 h2
      have lp : p.length ≤ 61 := by rw [len_tl]; omega
      exact ⟨_, PySem.intText_digits hd (fun z => by rw [show tl p = [] from z] at h1; cases h1) (by omega), lp⟩
  obtain ⟨n, e, l⟩ := some'
  unfold numS
  rw [e]
  exact ⟨rfl, l⟩
theorem intV_num {p : Str} (h : isNumL (tl p) = true) (S : Store) : intV [.str p] S = .ok (.int (numS p)) S := by
  obtain ⟨h1, h2⟩ := isNum_int h
  unfold intV
  simp only [h1]
  rw [if_pos (by omega)]
theorem isNum_chars {cs : List Nat} (h : isNumL cs = true) : ∀ c ∈ cs, c = 45 ∨ isDig c = true := by
  unfold isNumL at h
  simp only [Bool.and_eq_true] at h
  have h3 := List.all_eq_true.mp h.2
  intro c hc
  unfold figsL at h3
  split at h3
  · rename_i q
    cases cs with
    | nil => cases hc
    | cons d r =>
      have hd : d = 45 := (List.cons.inj q).1
      rcases List.mem_cons.mp hc with rfl | hc
      · exact .inl hd
      · exact .inr (h3 c hc)
  · exact .inr (h3 c hc)
theorem isNum_ne {cs : List Nat} (h : isNumL cs = true) : cs ≠ [] := fun z => by rw [z] at h; cases h
def partsS (w : Str) : List Str := Txt.split (cutS w (some 1) (some (-1))) ","
def shapeL (w : Str) : Bool := decide ((tl w).take 1 = [91]) && decide ((tl w).drop ((tl w).length - 1) = [93])
def listO (w : Str) : Option (List Int) := if tl w = [91, 93] then some [] else if shapeL w = true then (if (partsS w).all (fun p => isNumL (tl p)) = true then some ((partsS w).map numS) else none) else none
theorem comma_tl : tl ("," : Str) = [44] := by kernel_rfl
theorem split_count : ∀ (cs : List Nat), ∃ ps : List Str, ps ≠ [] ∧ (∀ p ∈ ps, 44 ∉ tl p) ∧ joinL [44] (ps.map tl) = cs ∧ ps.length ≤ cs.length + 1 ∧ ∀ p ∈ ps, p.length ≤ cs.length
  | [] => ⟨[""], by simp, fun p hp => by rw [List.mem_singleton.mp hp]; exact List.not_mem_nil, rfl, by simp, fun p hp => by rw [List.mem_singleton.mp hp]; exact Nat.le_refl _⟩
  | c :: cs => by
    obtain ⟨ps, h1, h2, h3, h4, h5⟩ := split_count cs
    obtain ⟨p, r, rfl⟩ : ∃ p r, ps = p :: r := by
      cases ps with
      | nil => exact absurd rfl h1
      | cons p r => exact ⟨p, r, rfl⟩
    by_cases hc : c = 44
    · refine ⟨"" :: p :: r, by simp, fun q hq => ?_, ?_, by simp at h4 ⊢; omega, fun q hq => ?_⟩
      · rcases List.mem_cons.mp hq with rfl | hq
        · exact List.not_mem_nil
        · exact h2 q hq
      · show tl "" ++ ([44] ++ joinL [44] ((p :: r).map tl)) = _
        rw [h3, hc]
        rfl
      · rcases List.mem_cons.mp hq with rfl | hq
        · exact Nat.zero_le _
        · have := h5 q hq; rw [List.length_cons]; omega
    · obtain ⟨p', hp'⟩ : ∃ p' : Str, tl p' = c :: tl p := ⟨⟨(c :: tl p).toArray⟩, tl_mk _⟩
      refine ⟨p' :: r, by simp, fun q hq => ?_, ?_, by simp at h4 ⊢; omega, fun q hq => ?_⟩
      · rcases List.mem_cons.mp hq with rfl | hq
        · rw [hp']
          intro z
          rcases List.mem_cons.mp z with z | z
          · exact hc z.symm
          · exact h2 p (.head _) z
        · exact h2 q (List.mem_cons_of_mem _ hq)
      · cases r with
        | nil =>
          show tl p' = _
          rw [hp']
          have : tl p = cs := h3
          rw [this]
        | cons q r =>
          have h3 : tl p ++ ([44] ++ joinL [44] ((q :: r).map tl)) = cs := h3
          show tl p' ++ ([44] ++ joinL [44] ((q :: r).map tl)) = _
          rw [hp', List.cons_append, h3]
      · rcases List.mem_cons.mp hq with rfl | hq
        · have := h5 p (.head _)
          rw [len_tl] at this
          rw [len_tl, hp', List.length_cons, List.length_cons]
          omega
        · have := h5 q (List.mem_cons_of_mem _ hq); rw [List.length_cons]; omega
theorem split_cut {w : Str} {ps : List Str} (h1 : ps ≠ []) (h2 : ∀ p ∈ ps, 44 ∉ tl p) (h3 : joinL [44] (ps.map tl) = tl w) : Txt.split w "," = ps := by
  have e : w = Txt.join "," ps := str_ext (by rw [join_eq, tl_join, comma_tl, h3])
  rw [e]
  exact split_join comma_tl (by decide +kernel) h1 h2
theorem parts_cases (w : Str) : ∃ ps : List Str, ps ≠ [] ∧ (∀ p ∈ ps, 44 ∉ tl p) ∧ joinL [44] (ps.map tl) = ((tl w).drop 1).take ((tl w).length - 2) ∧ partsS w = ps ∧ ps.length ≤ w.length + 1 ∧ ∀ p ∈ ps, p.length ≤ w.length := by
  obtain ⟨ps, h1, h2, h3, h4, h5⟩ := split_count (((tl w).drop 1).take ((tl w).length - 2))
  have le : (((tl w).drop 1).take ((tl w).length - 2)).length ≤ w.length := by rw [len_tl, List.length_take, List.length_drop]; omega
  exact ⟨ps, h1, h2, h3, split_cut h1 h2 (by rw [h3, tl_inner]), by omega, fun p hp => Nat.le_trans (h5 p hp) le⟩
theorem strs_bnds (n : Nat) (l : List Str) : bnds n (l.map PV.str) = true := bnds_all.mpr fun x hx => by
  obtain ⟨j, _, rfl⟩ := List.mem_map.mp hx
  rfl
theorem q_ms {f : FM} {co : CE PV} {cs : CE (List PV)} {ρ : Sl} {S S1 S2 S3 : Store} {a : Str} {xs : List PV} {z : PV} (h1 : co ρ S = .ok (.str a) S1) (h2 : cs ρ S1 = .ok xs S2) (h3 : f (.str a) xs S2 = .ok z S3) : eMs f co cs ρ S = .ok z S3 := by
  unfold eMs
  rw [h1, bind_ap]
  simp only
  rw [h2, bind_ap, h3]
theorem list_told_eq (w : Str) (hw : w.length ≤ 900000) (S : Store) : gc S (m_list_told [.str w] S) = outO S "NoValue" ((listO w).map fun zs => .tup (zs.map .int)) := by
  refine EndO.gc ?_ fun x hx => (by
    cases e : listO w with
    | none => rw [e] at hx; cases hx
    | some zs =>
      rw [e] at hx
      cases hx
      exact bnd_t (bnds_ints _ _))
  show EndO S _ _ (b_list_told [some (.str w), none, none] S)
  unfold b_list_told
  have hz : w.length ≤ sizeLine := line2 (by omega)
  have t1 : tBl (eBin eqV (eVar 0) (eK (.str "[]"))) [some (.str w), none, none] S = .ok (decide (tl w = [91, 93])) S := by
    have : decide (w = "[]") = decide (tl w = [91, 93]) := decide_eq_decide.mpr (by rw [tl_iff, show tl ("[]" : Str) = [91, 93] by kernel_rfl])
    rw [← this]
    exact q_tbl (q_bin (q_var rfl) q_k q_eqS)
  by_cases h1 : tl w = [91, 93]
  · rw [decide_eq_true h1] at t1
    unfold listO
    rw [if_pos h1]
    (apply st_yes; · (repeat' (first | with_reducible apply (t1) | contradiction))); (try dsimp only [List.set_cons_succ, List.set_cons_zero])
    (apply st_ret; · (repeat' (first  | contradiction))); (try dsimp only [List.set_cons_succ, List.set_cons_zero])
    exact EndO.ret0
  rw [decide_eq_false h1] at t1
  have lo : listO w = if shapeL w = true then (if (partsS w).all (fun p => isNumL (tl p)) = true then some ((partsS w).map numS) else none) else none := by
    unfold listO
    rw [if_neg h1]
  rw [lo]
  (apply st_no; · (repeat' (first | with_reducible apply (t1) | contradiction))); (try dsimp only [List.set_cons_succ, List.set_cons_zero])
  have c1 : sliceV (.str w) none (some 1) S = .ok (.str (cutS w none (some 1))) S := if_pos hz
  have c2 : sliceV (.str w) (some (-1)) none S = .ok (.str (cutS w (some (-1)) none)) S := if_pos hz
  have c3 : sliceV (.str w) (some 1) (some (-1)) S = .ok (.str (cutS w (some 1) (some (-1)))) S := if_pos hz
  have t2 : tGc (cOr (tBl (eBin neV (eSlice (eVar 0) oNone (oSome (eK (.int 1)))) (eK (.str "[")))) (tBl (eBin neV (eSlice (eVar 0) (oSome (eNeg (eK (.int 1)))) oNone) (eK (.str "]"))))) [some (.str w), none, none] S = .ok (!shapeL w) S := by
    have e1 : decide (cutS w none (some 1) = "[") = decide ((tl w).take 1 = [91]) := decide_eq_decide.mpr (by
      rw [tl_iff, show (1 : Int) = ((1 : Nat) : Int) from rfl, tl_take, show tl ("[" : Str) = [91] by kernel_rfl])
    have e2 : decide (cutS w (some (-1)) none = "]") = decide ((tl w).drop ((tl w).length - 1) = [93]) := decide_eq_decide.mpr (by
      rw [tl_iff, tl_last, show tl ("]" : Str) = [93] by kernel_rfl])
    have o := q_or (q_tbl (q_bin (q_slice (q_var (ρ := [some (.str w), none, none]) (i := 0) rfl) q_onone (q_osome q_k) c1) (q_k (x := .str "[")) q_neS)) (q_tbl (q_bin (q_slice (q_var (i := 0) rfl) (q_osome (q_neg q_k)) q_onone c2) (q_k (x := .str "]")) q_neS))
    rw [e1, e2] at o
    have : (!shapeL w) = ((!decide ((tl w).take 1 = [91])) || !decide ((tl w).drop ((tl w).length - 1) = [93])) := by unfold shapeL; rw [Bool.not_and]
    rw [this]
    exact q_tgc o q_gT0
  cases hs : shapeL w with
  | false =>
    rw [hs, Bool.not_false] at t2
    rw [if_neg Bool.false_ne_true]
    exact st_raise t2 EndO.exc0
  | true =>
  rw [hs, Bool.not_true] at t2
  rw [if_pos rfl]
  (apply st_no; · (repeat' (first | with_reducible apply (t2) | contradiction))); (try dsimp only [List.set_cons_succ, List.set_cons_zero])
  obtain ⟨ps, p1, p2, p3, p4, p5, p6⟩ := parts_cases w
  rw [p4]
  have sp : splitV (.str (cutS w (some 1) (some (-1)))) [.str ","] S = .ok (.obj S.length) (S ++ [.lst (ps.map .str)]) := by
    have lc : (cutS w (some 1) (some (-1))).length ≤ w.length := by
      rw [len_tl, tl_inner, len_tl w, List.length_take, List.length_drop]
      omega
    show (if (("," : Str).length == 0) = false ∧ _ then _ else _) = _
    rw [if_pos ⟨by decide +kernel, Nat.le_trans (Nat.add_le_add_right (Nat.le_trans lc hw) 2) (line2 (by decide))⟩, ← p4]
    rfl
  have s1 : eGc (eMs splitV (eSlice (eVar 0) (oSome (eK (.int 1))) (oSome (eNeg (eK (.int 1))))) (aCons (eK (.str ",")) aNil)) [some (.str w), none, none] S = .ok (.obj S.length) (S ++ [.lst (ps.map .str)]) :=
    q_gc (q_ms (q_slice (q_var rfl) (q_osome q_k) (q_osome (q_neg q_k)) c3) (q_cons q_k q_nil) sp) (q_n1 (strs_bnds _ _))
  (apply st_set; · (repeat' (first | with_reducible apply (s1) | contradiction))); (try dsimp only [List.set_cons_succ, List.set_cons_zero])
  obtain ⟨T, hT⟩ : ∃ T, T = S ++ [PO.lst (ps.map .str)] := ⟨_, rfl⟩
  rw [← hT]
  have eT : T[S.length]? = some (.lst (ps.map .str)) := by rw [hT]; exact get_last
  have num : ∀ {p : Str} {ρ : Sl}, p ∈ ps → ρ[2]? = some (some (.str p)) → cNot (tTru (eCall 1 m_is_number (aCons (eVar 2) aNil))) ρ T = .ok (!isNumL (tl p)) T := fun {p ρ} hp h => by
    have e := is_number_eq p (Nat.le_trans (p6 p hp) (by omega)) T
    exact q_cnot (q_ttru (x := .bl (isNumL (tl p))) (q_call (n := 1) (q_cons (q_var h) q_nil) rfl (by rw [e, gc_self])) rfl)
  have loop := for_exc (t := .name 2) (b := sIf (cNot (tTru (eCall 1 m_is_number (aCons (eVar 2) aNil)))) (sRaise "NoValue") sNext) (c := "NoValue") (it := iAny (eVar 1)) (ρ := [some (.str w), some (.obj S.length), none]) (S := T) PV.str ps [(S.length, .lst (ps.map .str))] (fun i ρ U => (∃ b, ρ = [some (.str w), some (.obj S.length), b]) ∧ U = T ∧ ∀ j p, j < i → ps[j]? = some p → isNumL (tl p) = true) (fun U => U = T ∧ ∃ p ∈ ps, isNumL (tl p) = false) (q_any (q_var rfl) (q_itL eT)) (fun i ρ U h => by
    rw [h.2.1]
    intro q hq
    rw [List.mem_singleton.mp hq]
    exact eT) (fun i p ρ U hp h => by
    obtain ⟨⟨b, rfl⟩, rfl, ha⟩ := h
    refine ⟨[some (.str w), some (.obj S.length), some (.str p)], rfl, ?_⟩
    have t := num (ρ := [some (.str w), some (.obj S.length), some (.str p)]) (List.mem_of_getElem? hp) rfl
    cases hn : isNumL (tl p) with
    | true =>
      rw [hn, Bool.not_true] at t
      refine .inl (nx_no t ⟨⟨_, rfl⟩, rfl, fun j q hj hq => ?_⟩)
      by_cases z : j = i
      · rw [z, hp] at hq
        rw [← Option.some.inj hq]
        exact hn
      · exact ha j q (by omega) hq
    | false =>
      rw [hn, Bool.not_false] at t
      exact .inr ⟨_, _, by rw [sIf_ap, t]; rfl, rfl, p, List.mem_of_getElem? hp, hn⟩) ⟨⟨none, rfl⟩, rfl, fun j p hj => absurd hj (Nat.not_lt_zero _)⟩
  rcases loop with nx | ⟨ρ, U, e, hU, p, hp, hn⟩
  · refine st_nx nx ?_
    rintro ρ U ⟨⟨b, rfl⟩, hU, ha⟩
    rw [hU]
    have all : ps.all (fun p => isNumL (tl p)) = true := List.all_eq_true.mpr fun p hp => by
      obtain ⟨j, hj⟩ := List.getElem?_of_mem hp
      exact ha j p (List.getElem?_eq_some_iff.mp hj).1 hj
    rw [if_pos all]
    have lc := eLc_tm (t := .name 2) (te := eB intV (aCons (eVar 2) aNil)) PV.str (fun p => .int (numS p)) ps [(S.length, .lst (ps.map .str))] (vs := [2]) (it := iAny (eVar 1)) (ρ := [some (.str w), some (.obj S.length), b]) (S := T) (S1 := T) (q_any (q_var rfl) (q_itL eT)) (fun q hq => by rw [List.mem_singleton.mp hq]; exact eT) (by omega) (fun p hp => ⟨_, rfl, fun zs => q_b (q_cons (q_var rfl) q_nil) (intV_num (List.all_eq_true.mp all p hp) _)⟩)
    have tup := q_gc (q_gc (q_b (q_cons lc q_nil) (q_tupL get_last)) (q_g1 (bnd_t (bnds_all.mpr fun x hx => by
      obtain ⟨q, _, rfl⟩ := List.mem_map.mp hx
      rfl)))) q_g0
    refine end_ret _ _ tup ?_
    have e : ps.map (fun p => PV.int (numS p)) = (ps.map numS).map .int := by rw [List.map_map]; rfl
    rw [e, hT]
    exact EndO.ret _
  · have all : ¬ ps.all (fun p => isNumL (tl p)) = true := fun z => by
      have := List.all_eq_true.mp z p hp
      rw [hn] at this
      cases this
    rw [if_neg all, exc_seq e, hU, hT]
    exact EndO.exc _
/-- gives x, whatever lies behind -/
def Rt' (x : PV) (S : Store) (r : SR) : Prop := ∃ J, r = .ret x (S ++ J)
theorem gc_out {n : Nat} {b : CS} {xs : List PV} {S : Store} {x : PV} (h : Rt' x S (b (startP n xs) S)) (hb : bnd S.length x = true) : gc S (runD n b xs S) = .ok x S := by
  obtain ⟨J, e⟩ := h
  rw [runD_ap, e]
  exact gc_app hb
theorem Rt'.here {x : PV} {S : Store} : Rt' x S (.ret x S) := ⟨[], by rw [List.append_nil]⟩
theorem size_list (xs : List PV) (S : Store) : gc S (m_size_of [.str "list", .tup xs] S) = .ok (.int (xs.length : Int)) S := by
  have e1 : ∀ U, eqV (.str "list") (.str "num") U = .ok (.bl false) U := fun U => by rw [q_eqS, show decide (("list" : Str) = "num") = false by kernel_rfl]
  have e2 : ∀ U, eqV (.str "list") (.str "list") U = .ok (.bl true) U := fun U => by rw [q_eqS, decide_eq_true rfl]
  refine gc_out ?_ rfl
  show Rt' _ _ (b_size_of [some (.str "list"), some (.tup xs), none, none, none] S)
  unfold b_size_of
  (apply st_no; · (repeat' (first | with_reducible apply (e1 _) | contradiction))); (try dsimp only [List.set_cons_succ, List.set_cons_zero])
  (apply st_yes; · (repeat' (first | with_reducible apply (e2 _) | contradiction))); (try dsimp only [List.set_cons_succ, List.set_cons_zero])
  (apply st_ret; · (repeat' (first  | contradiction))); (try dsimp only [List.set_cons_succ, List.set_cons_zero])
  exact Rt'.here

end K80

set_option Elab.async false
set_option linter.all false
set_option maxRecDepth 100000
set_option maxHeartbeats 1000000
set_option exponentiation.threshold 40000
namespace K80
open PySem PySem.Spec PyProof.Rows L2 TL
local macro_rules
  | `(tactic| contradiction) => `(tactic| first | with_reducible assumption | ((with_reducible apply q_var); exact rfl) | ((with_reducible apply q_intB1); exact rfl) | ((with_reducible apply q_intB0); exact rfl) | with_reducible (first | apply q_k | apply q_nil | apply q_cons | apply q_bin | apply q_tup | apply q_tbl | apply q_b | apply q_call | apply q_g0 | apply q_gc | apply q_add | apply q_sub | apply q_mod | apply q_eqI | apply q_neI | apply q_lt | apply q_le | apply q_gtI | apply q_ge | apply q_eqS | apply q_neS | apply q_t0 | apply q_t1 | apply q_t2 | apply q_t3 | apply q_t4 | apply q_t5 | apply q_l0 | apply q_l1 | apply q_l2 | apply q_l3 | apply q_l4 | apply q_l5 | apply q_gl | apply q_gt | apply q_slice | apply q_onone | apply q_osome | apply q_slT | apply q_slR | apply q_slO | apply q_lst | apply q_dic | apply q_ttru | apply q_and | apply q_or | apply q_or0 | apply q_cnot | apply q_tgc0 | apply q_tgc1 | apply q_tgc | apply q_gT0 | apply q_gT1 | apply q_gT2 | apply q_gT3 | apply q_if | apply q_i1 | apply q_i0 | apply q_not | apply q_neg | apply q_chain1 | apply q_n1 | apply q_n2 | apply q_n3 | apply q_n4 | apply q_g1 | apply q_g2 | apply q_g3 | apply q_g4 | apply q_mul | apply q_div | apply q_is | apply q_isn | apply q_lenT | apply q_lenR | apply q_lenL | apply q_intB | apply q_any | apply q_itT | apply q_itR | apply q_itL | apply q_listL | apply q_listT | apply q_tupL | apply q_rng | apply q_addL | apply q_addT | apply q_m | apply q_isl | apply q_eand | apply q_eor | apply q_min | apply q_isBv | apply q_isnBv | apply q_app | apply q_clear | apply q_callX | apply get_last | apply get_app | apply q_eqI1 | apply q_eqI0 | apply q_neI1 | apply q_neI0 | apply q_lt1 | apply q_lt0 | apply q_le1 | apply q_le0 | apply q_gt1 | apply q_gt0 | apply q_ge1 | apply q_ge0 | apply q_cnot1 | apply q_cnot0 | apply bndO_l | apply bnd_t | apply bnds_ints | apply bnds_cut | apply q_seq | apply q_sne | apply q_gcf) | ((with_reducible apply lenq); exact rfl) | ((with_reducible apply bleq); exact rfl) | ((with_reducible apply inteq); first | exact rfl | omega) | ((with_reducible apply getq); exact rfl) | ((with_reducible apply bndq); exact rfl) | ((with_reducible apply bndOq); exact rfl) | ((with_reducible apply truq); exact rfl) | ((with_reducible apply bndsq); exact rfl) | ((with_reducible apply neq0); first | decide | omega) | ((with_reducible apply leqN); first | decide | omega | (simp only [List.length_append, List.length_map, List.length_range, List.length_cons, List.length_nil, List.length_take, List.length_reverse, List.length_replicate, List.length_drop]; omega)) | ((with_reducible apply ltI); omega) | ((with_reducible apply neN); first | assumption | omega) | ((with_reducible apply leI); omega) | ((with_reducible apply nltI); omega) | ((with_reducible apply nleI); omega) | (with_reducible exact mulOk_l (by decide)) | (with_reducible exact mulOk_r (by decide)))
/-! ### args read, and refused -/
theorem inst_str (w : Str) (S : Store) : isinstV "str" [.str w, .ty "str"] S = .ok (.bl true) S := by simp [isinstV, tyP, isSub]
theorem outO_bnd {S : Store} {o : Option PV} (h : ∀ x, o = some x → bnd S.length x = true) (c : Str) : gc S (outO S c o) = outO S c o := by
  cases o with
  | none => exact gc_exc S c
  | some x => exact gc_self S x
theorem read_num_eq (w : Str) (hw : w.length ≤ 900000) (S : Store) : gc S (m_read_arg [.str "num", .str w] S) = outO S "NoValue" (if isNumL (tl w) = true then some (.int (numS w)) else none) := by
  have nm := is_number_eq w (by omega) S
  have e1 : ∀ U, eqV (.str "num") (.str "num") U = .ok (.bl true) U := fun U => by rw [q_eqS, decide_eq_true rfl]
  refine EndO.gc ?_ fun x hx => (by
    split at hx
    · cases hx; rfl
    · cases hx)
  show EndO S _ _ (b_read_arg ([some (.str "num"), some (.str w), none] : Sl) S)
  unfold b_read_arg
  have t0 : cNot (tTru (eB (isinstV "str") (aCons (eVar 1) (aCons (eK (.ty "str")) aNil)))) ([some (.str "num"), some (.str w), none] : Sl) S = .ok false S := q_cnot0 (q_ttru (x := .bl true) (q_b (q_cons (q_var rfl) (q_cons q_k q_nil)) (inst_str w S)) rfl)
  (apply st_no; · (repeat' (first | with_reducible apply (t0) | contradiction))); (try dsimp only [List.set_cons_succ, List.set_cons_zero])
  (apply st_yes; · (repeat' (first | with_reducible apply (e1 _) | contradiction))); (try dsimp only [List.set_cons_succ, List.set_cons_zero])
  have t1 : cNot (tTru (eCall 1 m_is_number (aCons (eVar 1) aNil))) ([some (.str "num"), some (.str w), none] : Sl) S = .ok (!isNumL (tl w)) S := q_cnot (q_ttru (x := .bl (isNumL (tl w))) (q_call (n := 1) (q_cons (q_var rfl) q_nil) rfl (by rw [nm, gc_self])) rfl)
  cases hn : isNumL (tl w) with
  | true =>
    rw [hn, Bool.not_true] at t1
    rw [if_pos rfl]
    refine st_assoc ?_
    (apply st_no; · (repeat' (first | with_reducible apply (t1) | contradiction))); (try dsimp only [List.set_cons_succ, List.set_cons_zero])
    (apply st_ret; · (repeat' (first | with_reducible apply (intV_num hn _) | contradiction))); (try dsimp only [List.set_cons_succ, List.set_cons_zero])
    exact EndO.ret0
  | false =>
    rw [hn, Bool.not_false] at t1
    rw [if_neg Bool.false_ne_true]
    refine st_assoc ?_
    exact st_raise t1 EndO.exc0
theorem read_list_eq (w : Str) (hw : w.length ≤ 900000) (S : Store) : gc S (m_read_arg [.str "list", .str w] S) = outO S "NoValue" ((listO w).bind fun zs => if zs.length ≤ 40 then some (.tup (zs.map .int)) else none) := by
  have e1 : ∀ U, eqV (.str "list") (.str "num") U = .ok (.bl false) U := fun U => by rw [q_eqS, show decide (("list" : Str) = "num") = false by kernel_rfl]
  have e2 : ∀ U, eqV (.str "list") (.str "list") U = .ok (.bl true) U := fun U => by rw [q_eqS, decide_eq_true rfl]
  have lt := list_told_eq w hw S
  refine EndO.gc ?_ fun x hx => (by
    cases e : listO w with
    | none => rw [e] at hx; cases hx
    | some zs =>
      rw [e] at hx
      have hx : (if zs.length ≤ 40 then some (PV.tup (zs.map .int)) else none) = some x := hx
      split at hx
      · cases hx; exact bnd_t (bnds_ints _ _)
      · cases hx)
  show EndO S _ _ (b_read_arg ([some (.str "list"), some (.str w), none] : Sl) S)
  unfold b_read_arg
  have t0 : cNot (tTru (eB (isinstV "str") (aCons (eVar 1) (aCons (eK (.ty "str")) aNil)))) ([some (.str "list"), some (.str w), none] : Sl) S = .ok false S := q_cnot0 (q_ttru (x := .bl true) (q_b (q_cons (q_var rfl) (q_cons q_k q_nil)) (inst_str w S)) rfl)
  (apply st_no; · (repeat' (first | with_reducible apply (t0) | contradiction))); (try dsimp only [List.set_cons_succ, List.set_cons_zero])
  (apply st_no; · (repeat' (first | with_reducible apply (e1 _) | contradiction))); (try dsimp only [List.set_cons_succ, List.set_cons_zero])
  (apply st_yes; · (repeat' (first | with_reducible apply (e2 _) | contradiction))); (try dsimp only [List.set_cons_succ, List.set_cons_zero])
  cases e : listO w with
  | none =>
    rw [e] at lt
    have c1 : eCall 1 m_list_told (aCons (eVar 1) aNil) ([some (.str "list"), some (.str w), none] : Sl) S = .exc "NoValue" none S := q_callE (n := 1) (q_cons (q_var rfl) q_nil) rfl lt
    rw [exc_seq (exc_set c1)]
    exact EndO.exc0
  | some zs =>
    rw [e] at lt
    have lt : gc S (m_list_told [.str w] S) = .ok (.tup (zs.map .int)) S := lt
    (apply st_set; · (repeat' (first | with_reducible apply (lt) | contradiction))); (try dsimp only [List.set_cons_succ, List.set_cons_zero])
    have sz := size_list (zs.map .int) S
    rw [List.length_map] at sz
    have t2 : tBl (eBin gtV (eCall 2 m_size_of (aCons (eVar 0) (aCons (eVar 2) aNil))) (eK k_MOST)) [some (.str "list"), some (.str w), some (.tup (zs.map .int))] S = .ok (decide ((40 : Int) < (zs.length : Int))) S := q_tbl (q_bin (q_call (n := 2) (q_cons (q_var rfl) (q_cons (q_var rfl) q_nil)) rfl sz) (q_k (x := k_MOST)) (q_gtI (l := 40)))
    show EndO S _ (if zs.length ≤ 40 then some (PV.tup (zs.map .int)) else none) _
    by_cases h : zs.length ≤ 40
    · rw [decide_eq_false (by omega)] at t2
      rw [if_pos h]
      (apply st_no; · (repeat' (first | with_reducible apply (t2) | contradiction))); (try dsimp only [List.set_cons_succ, List.set_cons_zero])
      (apply end_ret; · (repeat' (first  | contradiction))); (try dsimp only [List.set_cons_succ, List.set_cons_zero])
      exact EndO.ret0
    · rw [decide_eq_true (by omega)] at t2
      rw [if_neg h]
      exact st_raise t2 EndO.exc0
/-- what is no text is refused, whatever the shape -/
theorem read_bad {sh : Str} {x : PV} {S : Store} {t : String} (ht : tyP x S = some t) (hs : t ≠ "str") : gc S (m_read_arg [.str sh, x] S) = .exc "NoValue" none S := by
  have main : EndO S "NoValue" none (b_read_arg [some (.str sh), some x, none] S) := by
    unfold b_read_arg
    have i0 : isinstV "str" [x, .ty "str"] S = .ok (.bl false) S := by
      have : isSub t "str" = false := by
        unfold isSub
        simp [hs]
      simp [isinstV, ht, this]
    have t0 : cNot (tTru (eB (isinstV "str") (aCons (eVar 1) (aCons (eK (.ty "str")) aNil)))) [some (.str sh), some x, none] S = .ok true S := q_cnot1 (q_ttru (x := .bl false) (q_b (q_cons (q_var rfl) (q_cons q_k q_nil)) i0) rfl)
    exact st_raise t0 EndO.exc0
  have := EndO.gc (n := 3) (xs := [.str sh, x]) main fun x hx => (by cases hx)
  exact this
theorem isE_at {ρ : Sl} {i : Nat} {a : Addr} {r : Bool} {S : Store} (h : ρ[i]? = some (some (.fn a))) : eIsE i a r ρ S = .ok (.bl r) S := by
  unfold eIsE
  rw [h]
  exact if_pos rfl
theorem refused_no {sh : Str} {x : PV} {S : Store} (h : gc S (m_read_arg [.str sh, x] S) = .exc "NoValue" none S) : gc S (m_law_refused [.str sh, x] S) = .ok (.bl true) S := by
  refine gc_out ?_ rfl
  show Rt' _ _ (b_law_refused [some (.str sh), some x, none, none] S)
  unfold b_law_refused
  (apply st_set; · (repeat' (first  | contradiction))); (try dsimp only [List.set_cons_succ, List.set_cons_zero])
  have body : (sDrop (eCall 2 m_read_arg (aCons (eVar 0) (aCons (eVar 1) aNil))) : CS) [some (.str sh), some x, some (.bl false), none] S = .exc "NoValue" none [some (.str sh), some x, some (.bl false), none] S := exc_drop (q_callE (n := 2) (q_cons (q_var rfl) (q_cons (q_var rfl) q_nil)) rfl h)
  refine st_next (ρ' := [some (.str sh), some x, some (.bl true), none]) (S' := S) ?_ ?_
  · unfold sTryAs
    rw [body]
    simp only
    rw [if_pos (show (("NoValue" : Str) ∈ exNames) by decide +kernel), if_pos (show exSub "NoValue" "TollError" = true by decide +kernel)]
    refine same0_eq fun a => ?_
    have b1 : exSub "NoValue" "NoValue" = true := by decide +kernel
    have b2 : exSub "NoValue" "NoText" = false := by decide +kernel
    have b3 : exSub "NoValue" "NoRow" = false := by decide +kernel
    have b4 : exSub "NoValue" "NoFunction" = false := by decide +kernel
    rw [b1, b2, b3, b4]
    have q1 : eAnd (eIsE 3 a true) (eIsE 3 a true) [some (.str sh), some x, some (.bl false), some (.fn a)] S = .ok (.bl true) S := q_eand (k := true) (k' := true) (isE_at rfl) (isE_at rfl)
    have n0 : ∀ {ρ : Sl}, ρ[3]? = some (some (.fn a)) → eNot (eIsE 3 a false) ρ S = .ok (.bl true) S := fun {ρ} h => by rw [eNot_ap, isE_at h]; rfl
    have q2 : eAnd (eVar 2) (eAnd (eNot (eIsE 3 a false)) (eAnd (eNot (eIsE 3 a false)) (eNot (eIsE 3 a false)))) [some (.str sh), some x, some (.bl true), some (.fn a)] S = .ok (.bl true) S := q_eand (k := true) (k' := true) (q_var rfl) (q_eand (k := true) (k' := true) (n0 rfl) (q_eand (k := true) (k' := true) (n0 rfl) (n0 rfl)))
    show suiteS 3 ((sSeq _ _) [some (.str sh), some x, some (.bl false), some (.fn a)] S) = _
    rw [sSeq_ap, sSet_ap, q1, sb_ap]
    simp only [List.set_cons_succ, List.set_cons_zero]
    rw [sSet_ap, q2, sb_ap]
    rfl
  · (apply end_ret; · (repeat' (first  | contradiction))); (try dsimp only [List.set_cons_succ, List.set_cons_zero])
    exact Rt'.here

end K80

set_option Elab.async false
set_option linter.all false
set_option maxRecDepth 100000
set_option maxHeartbeats 1000000
set_option exponentiation.threshold 40000
namespace K80
open PySem PySem.Spec PyProof.Rows L2 TL
local macro_rules
  | `(tactic| contradiction) => `(tactic| first | with_reducible assumption | ((with_reducible apply q_var); exact rfl) | ((with_reducible apply q_intB1); exact rfl) | ((with_reducible apply q_intB0); exact rfl) | with_reducible (first | apply q_k | apply q_nil | apply q_cons | apply q_bin | apply q_tup | apply q_tbl | apply q_b | apply q_call | apply q_g0 | apply q_gc | apply q_add | apply q_sub | apply q_mod | apply q_eqI | apply q_neI | apply q_lt | apply q_le | apply q_gtI | apply q_ge | apply q_eqS | apply q_neS | apply q_t0 | apply q_t1 | apply q_t2 | apply q_t3 | apply q_t4 | apply q_t5 | apply q_l0 | apply q_l1 | apply q_l2 | apply q_l3 | apply q_l4 | apply q_l5 | apply q_gl | apply q_gt | apply q_slice | apply q_onone | apply q_osome | apply q_slT | apply q_slR | apply q_slO | apply q_lst | apply q_dic | apply q_ttru | apply q_and | apply q_or | apply q_or0 | apply q_cnot | apply q_tgc0 | apply q_tgc1 | apply q_tgc | apply q_gT0 | apply q_gT1 | apply q_gT2 | apply q_gT3 | apply q_if | apply q_i1 | apply q_i0 | apply q_not | apply q_neg | apply q_chain1 | apply q_n1 | apply q_n2 | apply q_n3 | apply q_n4 | apply q_g1 | apply q_g2 | apply q_g3 | apply q_g4 | apply q_mul | apply q_div | apply q_is | apply q_isn | apply q_lenT | apply q_lenR | apply q_lenL | apply q_intB | apply q_any | apply q_itT | apply q_itR | apply q_itL | apply q_listL | apply q_listT | apply q_tupL | apply q_rng | apply q_addL | apply q_addT | apply q_m | apply q_isl | apply q_eand | apply q_eor | apply q_min | apply q_isBv | apply q_isnBv | apply q_app | apply q_clear | apply q_callX | apply get_last | apply get_app | apply q_eqI1 | apply q_eqI0 | apply q_neI1 | apply q_neI0 | apply q_lt1 | apply q_lt0 | apply q_le1 | apply q_le0 | apply q_gt1 | apply q_gt0 | apply q_ge1 | apply q_ge0 | apply q_cnot1 | apply q_cnot0 | apply bndO_l | apply bnd_t | apply bnds_ints | apply bnds_cut | apply q_seq | apply q_sne | apply q_gcf) | ((with_reducible apply lenq); exact rfl) | ((with_reducible apply bleq); exact rfl) | ((with_reducible apply inteq); first | exact rfl | omega) | ((with_reducible apply getq); exact rfl) | ((with_reducible apply bndq); exact rfl) | ((with_reducible apply bndOq); exact rfl) | ((with_reducible apply truq); exact rfl) | ((with_reducible apply bndsq); exact rfl) | ((with_reducible apply neq0); first | decide | omega) | ((with_reducible apply leqN); first | decide | omega | (simp only [List.length_append, List.length_map, List.length_range, List.length_cons, List.length_nil, List.length_take, List.length_reverse, List.length_replicate, List.length_drop]; omega)) | ((with_reducible apply ltI); omega) | ((with_reducible apply neN); first | assumption | omega) | ((with_reducible apply leI); omega) | ((with_reducible apply nltI); omega) | ((with_reducible apply nleI); omega) | (with_reducible exact mulOk_l (by decide)) | (with_reducible exact mulOk_r (by decide)))
theorem md (c n : Nat) (h : n ≠ 0) (U : Store) : modV (.int (c : Int)) (.int (n : Int)) U = .ok (.int ((c % n : Nat) : Int)) U := by
  rw [q_mod (by omega)]
  have : (c : Int).fmod (n : Int) = ((c % n : Nat) : Int) := by
    rw [Int.fmod_eq_emod_of_nonneg _ (by omega)]
    rfl
  rw [this]
theorem dvn (c n : Nat) (h : n ≠ 0) (hb : n < 2 ^ 60) (U : Store) : fdivV (.int (c : Int)) (.int (n : Int)) U = .ok (.int ((c / n : Nat) : Int)) U := by
  rw [q_div (divOk_s (by omega) (by omega))]
  have : (c : Int).fdiv (n : Int) = ((c / n : Nat) : Int) := by
    rw [Int.fdiv_eq_ediv_of_nonneg _ (by omega)]
    rfl
  rw [this]

/-! ### the law's numbers, odd words, lines -/
theorem add_s {x y : Str} (hx : x.length ≤ 100000) (hy : y.length ≤ 100000) (S : Store) : addV (.str x) (.str y) S = .ok (.str (x ++ y)) S := by
  rw [addV_str, if_pos (line2 (by omega))]
theorem str_app_len (x y : Str) : (x ++ y).length = x.length + y.length := by rw [len_tl, tl_append, List.length_append, ← len_tl, ← len_tl]
theorem number_eq (c : Int) (S : Store) : ∃ z : Int, z.natAbs < 10 ^ 60 ∧ gc S (m_law_number [.int c] S) = .ok (.int z) S := by
  obtain ⟨n, hn⟩ : ∃ n : Nat, c.fmod (10 ^ 62) = (n : Int) := ⟨_, (Int.toNat_of_nonneg (Int.fmod_nonneg_of_pos _ (by decide))).symm⟩
  have m62 : ∀ U, modV (.int c) (.int (10 ^ 62)) U = .ok (.int (n : Int)) U := fun U => by rw [← hn]; exact q_mod (by decide)
  have p62 : ∀ U, powV (.int 10) (.int 62) U = .ok (.int (10 ^ 62)) U := fun U => rfl
  have p60 : ∀ U, powV (.int 10) (.int 60) U = .ok (.int (10 ^ 60)) U := fun U => rfl
  obtain ⟨b, hb⟩ : ∃ b, b = n / 2 := ⟨_, rfl⟩
  obtain ⟨d, hd, d3⟩ : ∃ d, b % 3 = d ∧ d < 3 := ⟨_, rfl, Nat.mod_lt _ (by decide)⟩
  obtain ⟨e, he, e2⟩ : ∃ e, n % 2 = e ∧ e < 2 := ⟨_, rfl, Nat.mod_lt _ (by decide)⟩
  have d2 : ∀ U, fdivV (.int (n : Int)) (.int 2) U = .ok (.int (b : Int)) U := fun U => by rw [hb]; exact dvn n 2 (by decide) (by decide) U
  have m3 : ∀ U, modV (.int (b : Int)) (.int 3) U = .ok (.int (d : Int)) U := fun U => by rw [← hd]; exact md b 3 (by decide) U
  have m2 : ∀ U, modV (.int (n : Int)) (.int 2) U = .ok (.int (e : Int)) U := fun U => by rw [← he]; exact md n 2 (by decide) U
  obtain ⟨M, hM⟩ : ∃ M : Nat, M = if d = 2 then 12 else 10 ^ 60 := ⟨_, rfl⟩
  have M0 : M ≠ 0 ∧ M ≤ 10 ^ 60 := by
    rw [hM]
    split
    · exact ⟨by decide, by decide⟩
    · exact ⟨by decide, Nat.le_refl _⟩
  have mM : ∀ U, modV (.int (b : Int)) (.int (M : Int)) U = .ok (.int ((b % M : Nat) : Int)) U := fun U => md b M M0.1 U
  obtain ⟨sg, hsg⟩ : ∃ sg : Int, sg = if e = 0 then 1 else -1 := ⟨_, rfl⟩
  refine ⟨sg * ((b % M : Nat) : Int), ?_, ?_⟩
  · have := Nat.mod_lt b (Nat.pos_of_ne_zero M0.1)
    have h : (sg * ((b % M : Nat) : Int)).natAbs = b % M := by
      rw [hsg]
      split <;> omega
    rw [h]
    exact Nat.lt_of_lt_of_le this M0.2
  refine gc_out ?_ rfl
  show Rt' _ _ (b_law_number [some (.int c)] S)
  unfold b_law_number
  (apply st_set; · (repeat' (first | with_reducible apply (p62 _) | with_reducible apply (m62 _) | contradiction))); (try dsimp only [List.set_cons_succ, List.set_cons_zero])
  obtain ⟨T, hT⟩ : ∃ T, T = S ++ [PO.lst [.int 1, .int (-1)]] := ⟨_, rfl⟩
  have l1 : eLst (aCons (eK (.int 1)) (aCons (eNeg (eK (.int 1))) aNil)) [some (.int (n : Int))] S = .ok (.obj S.length) T := by rw [hT]; exact q_lst (q_cons q_k (q_cons (q_neg q_k) q_nil)) rfl
  have g1 : getV (.obj S.length) (.int (e : Int)) T = .ok (.int sg) T := q_gl (by rw [hT]; exact get_last) (by
    rw [hsg]
    match e, e2 with
    | 0, _ => rfl
    | 1, _ => rfl)
  have l2 : eLst (aCons (eBin powV (eK (.int 10)) (eK (.int 60))) (aCons (eBin powV (eK (.int 10)) (eK (.int 60))) (aCons (eK (.int 12)) aNil))) [some (.int (n : Int))] T = .ok (.obj T.length) (T ++ [.lst [.int (10 ^ 60), .int (10 ^ 60), .int 12]]) := q_lst (q_cons (q_bin q_k q_k (p60 _)) (q_cons (q_bin q_k q_k (p60 _)) (q_cons q_k q_nil))) rfl
  have g2 : getV (.obj T.length) (.int (d : Int)) (T ++ [.lst [.int (10 ^ 60), .int (10 ^ 60), .int 12]]) = .ok (.int (M : Int)) (T ++ [.lst [.int (10 ^ 60), .int (10 ^ 60), .int 12]]) := q_gl get_last (by
    rw [hM]
    match d, d3 with
    | 0, _ => rfl
    | 1, _ => rfl
    | 2, _ => rfl)
  have mo : ∀ U, mulV (.int sg) (.int ((b % M : Nat) : Int)) U = .ok (.int (sg * ((b % M : Nat) : Int))) U := fun U => q_mul (mulOk_l (by rw [hsg]; split <;> decide))
  have r := q_gc (q_bin (q_bin l1 (q_bin (q_var (i := 0) rfl) (q_k (x := .int 2)) (m2 _)) g1) (q_bin (q_bin (q_var (i := 0) rfl) (q_k (x := .int 2)) (d2 _)) (q_bin l2 (q_bin (q_bin (q_var (i := 0) rfl) (q_k (x := .int 2)) (d2 _)) (q_k (x := .int 3)) (m3 _)) g2) (mM _)) (mo _)) (x := .int (sg * ((b % M : Nat) : Int))) (y := .int (sg * ((b % M : Nat) : Int))) (S := S) (S2 := S) (by rw [hT]; exact q_g2 rfl)
  refine end_ret _ _ r Rt'.here
/-! odd words -/
theorem isNum_bad {cs : List Nat} {c : Nat} (hc : c ∈ cs) (h : c ≠ 45 ∧ isDig c = false) : isNumL cs = false := by
  cases e : isNumL cs with
  | false => rfl
  | true =>
    rcases isNum_chars e c hc with z | z
    · exact absurd z h.1
    · rw [h.2] at z
      cases z
theorem isNum_nought {cs r : List Nat} (h : figsL cs = 48 :: r) (hn : cs ≠ [48]) : isNumL cs = false := by
  unfold isNumL
  rw [h]
  rw [show decide ((48 :: r).take 1 = [48]) = true from rfl, decide_eq_false hn]
  cases decide (1 ≤ (48 :: r).length) <;> cases decide ((48 :: r).length ≤ 60) <;> rfl
def oddL (N : List Nat) : List (List Nat) := [[], [45], [45, 48], [48, 48], 48 :: N, 45 :: 48 :: N, 43 :: N, N ++ [97], 49 :: List.replicate 60 48, 45 :: 50 :: List.replicate 60 55, 32 :: N, N ++ [32], N ++ [46], 45 :: 45 :: N, [120], [49, 95, 48]]
theorem odd_bad {n i : Nat} {cs : List Nat} (h : (oddL (numL n))[i]? = some cs) : isNumL cs = false ∧ 44 ∉ cs := by
  have hN : ∀ c, c < 48 ∨ 57 < c → c ∉ numL n := fun c h => numL_free h
  have N44 := hN 44 (by decide)
  have ne := numL_ne n
  have hm := List.mem_of_getElem? h
  unfold oddL at hm
  simp only [List.mem_cons, List.not_mem_nil, or_false] at hm
  rcases hm with rfl | rfl | rfl | rfl | rfl | rfl | rfl | rfl | rfl | rfl | rfl | rfl | rfl | rfl | rfl | rfl
  · exact ⟨rfl, by decide⟩
  · exact ⟨rfl, by decide⟩
  · exact ⟨rfl, by decide⟩
  · exact ⟨rfl, by decide⟩
  · refine ⟨isNum_nought (r := numL n) rfl fun z => ne (List.cons.inj z).2, by simp [N44]⟩
  · exact ⟨isNum_nought (r := numL n) rfl fun z => (by cases z), by simp [N44]⟩
  · exact ⟨isNum_bad (c := 43) (by simp) (by decide), by simp [N44]⟩
  · exact ⟨isNum_bad (c := 97) (by simp) (by decide), by simp [N44]⟩
  · exact ⟨by decide +kernel, by decide +kernel⟩
  · exact ⟨by decide +kernel, by decide +kernel⟩
  · exact ⟨isNum_bad (c := 32) (by simp) (by decide), by simp [N44]⟩
  · exact ⟨isNum_bad (c := 32) (by simp) (by decide), by simp [N44]⟩
  · exact ⟨isNum_bad (c := 46) (by simp) (by decide), by simp [N44]⟩
  · refine ⟨?_, by simp [N44]⟩
    have hf : figsL (45 :: 45 :: numL n) = 45 :: numL n := rfl
    unfold isNumL
    rw [hf, List.all_cons, show isDig 45 = false by decide, Bool.false_and, Bool.and_false]
  · exact ⟨rfl, by decide⟩
  · exact ⟨rfl, by decide⟩
theorem odd_eq (c : Nat) (S : Store) : ∃ w : Str, gc S (m_law_odd [.int (c : Int)] S) = .ok (.str w) S ∧ isNumL (tl w) = false ∧ 44 ∉ tl w ∧ w.length ≤ 100 := by
  obtain ⟨k, hk⟩ : ∃ k, k = c / 16 % 10 ^ 50 := ⟨_, rfl⟩
  have kl : k < 10 ^ 50 := by rw [hk]; exact Nat.mod_lt _ (by decide)
  have d16 : ∀ U, fdivV (.int (c : Int)) (.int 16) U = .ok (.int ((c / 16 : Nat) : Int)) U := fun U => dvn c 16 (by decide) (by decide) U
  have p50 : ∀ U, powV (.int 10) (.int 50) U = .ok (.int (10 ^ 50)) U := fun U => rfl
  have m50 : ∀ U, modV (.int ((c / 16 : Nat) : Int)) (.int (10 ^ 50)) U = .ok (.int (k : Int)) U := fun U => by
    have := md (c / 16) (10 ^ 50) (by decide) U
    rw [← hk] at this
    exact this
  have kz : ((k : Int)).natAbs < 10 ^ 60 := by rw [Int.natAbs_natCast]; exact Nat.lt_of_lt_of_le kl (by decide +kernel)
  obtain ⟨N, hN⟩ : ∃ N, N = tS (k : Int) := ⟨_, rfl⟩
  have tN : tl N = numL k := by rw [hN]; exact tl_num k
  have lN : N.length ≤ 60 := by
    rw [len_tl, tN]
    exact numL_len (by decide) (Nat.lt_of_lt_of_le kl (by decide +kernel))
  have sv : ∀ U, strV [.int (k : Int)] U = .ok (.str N) U := fun U => by rw [hN]; exact strV_tS kz U
  obtain ⟨L1, hL1⟩ : ∃ L : List Str, L = ([("" : Str), "-", "-0", "00", ("0" : Str) ++ N, ("-0" : Str) ++ N, ("+" : Str) ++ N, N ++ ("a" : Str), ("1" : Str) ++ repS "0" 60] : List Str) := ⟨_, rfl⟩
  obtain ⟨L2, hL2⟩ : ∃ L : List Str, L = ([("-2" : Str) ++ repS "7" 60, (" " : Str) ++ N, N ++ (" " : Str), N ++ ("." : Str), ("--" : Str) ++ N, "x", "1_0"] : List Str) := ⟨_, rfl⟩
  have cod : (L1 ++ L2).map tl = oddL (numL k) := by
    rw [hL1, hL2]
    simp only [List.map_append, List.map_cons, List.map_nil, tl_append, tN, tl_rep]
    unfold oddL
    rw [show tl ("" : Str) = [] by kernel_rfl, show tl ("-" : Str) = [45] by kernel_rfl, show tl ("-0" : Str) = [45, 48] by kernel_rfl, show tl ("00" : Str) = [48, 48] by kernel_rfl, show tl ("0" : Str) = [48] by kernel_rfl, show tl ("+" : Str) = [43] by kernel_rfl, show tl ("a" : Str) = [97] by kernel_rfl, show tl ("1" : Str) = [49] by kernel_rfl, show tl ("-2" : Str) = [45, 50] by kernel_rfl, show tl ("7" : Str) = [55] by kernel_rfl, show tl (" " : Str) = [32] by kernel_rfl, show tl ("." : Str) = [46] by kernel_rfl, show tl ("--" : Str) = [45, 45] by kernel_rfl, show tl ("x" : Str) = [120] by kernel_rfl, show tl ("1_0" : Str) = [49, 95, 48] by kernel_rfl]
    rfl
  have l16 : (L1 ++ L2).length = 16 := by rw [hL1, hL2]; rfl
  obtain ⟨i, hi, i16⟩ : ∃ i, c % 16 = i ∧ i < 16 := ⟨_, rfl, Nat.mod_lt _ (by decide)⟩
  obtain ⟨w, hw⟩ : ∃ w, (L1 ++ L2)[i]? = some w := ⟨_, List.getElem?_eq_getElem (by omega)⟩
  have hcs : (oddL (numL k))[i]? = some (tl w) := by rw [← cod, List.getElem?_map, hw]; rfl
  obtain ⟨b1, b2⟩ := odd_bad hcs
  have wl : w.length ≤ 100 := by
    rw [len_tl]
    have l := len_tl N
    rw [tN] at l
    have hm := List.mem_of_getElem? hcs
    unfold oddL at hm
    simp only [List.mem_cons, List.not_mem_nil, or_false] at hm
    rcases hm with h | h | h | h | h | h | h | h | h | h | h | h | h | h | h | h <;> rw [h] <;> simp <;> omega
  refine ⟨w, ?_, b1, b2, wl⟩
  refine gc_out ?_ rfl
  show Rt' _ _ (b_law_odd ([some (.int (c : Int)), none, none] : Sl) S)
  unfold b_law_odd
  (apply st_set; · (repeat' (first | with_reducible apply (d16 _) | with_reducible apply (p50 _) | with_reducible apply (m50 _) | with_reducible apply (sv _) | contradiction))); (try dsimp only [List.set_cons_succ, List.set_cons_zero])
  have c1 : ∀ {x : Str}, x.length ≤ 1000 → ∀ U, addV (.str x) (.str N) U = .ok (.str (x ++ N)) U := fun h U => add_s (by omega) (by omega) U
  have c2 : ∀ {x : Str}, x.length ≤ 1000 → ∀ U, addV (.str N) (.str x) U = .ok (.str (N ++ x)) U := fun h U => add_s (by omega) (by omega) U
  have r0 : ∀ U, mulSV (.str "0") (.int 60) U = .ok (.str (repS "0" 60)) U := fun U => (by unfold mulSV; simp only; exact if_pos ⟨by decide, by decide, by decide +kernel, by decide +kernel⟩)
  have r7 : ∀ U, mulSV (.str "7") (.int 60) U = .ok (.str (repS "7" 60)) U := fun U => (by unfold mulSV; simp only; exact if_pos ⟨by decide, by decide, by decide +kernel, by decide +kernel⟩)
  have a0 : ∀ U, addV (.str "1") (.str (repS "0" 60)) U = .ok (.str ("1" ++ repS "0" 60)) U := fun U => add_s (by decide +kernel) (by rw [len_rep]; decide +kernel) U
  have a7 : ∀ U, addV (.str "-2") (.str (repS "7" 60)) U = .ok (.str ("-2" ++ repS "7" 60)) U := fun U => add_s (by decide +kernel) (by rw [len_rep]; decide +kernel) U
  have s2 : eLst (aCons (eK (.str "")) (aCons (eK (.str "-")) (aCons (eK (.str "-0")) (aCons (eK (.str "00")) (aCons (eBin addV (eK (.str "0")) (eVar 1)) (aCons (eBin addV (eK (.str "-0")) (eVar 1)) (aCons (eBin addV (eK (.str "+")) (eVar 1)) (aCons (eBin addV (eVar 1) (eK (.str "a"))) (aCons (eBin addV (eK (.str "1")) (eBin mulSV (eK (.str "0")) (eK (.int 60)))) aNil))))))))) ([some (.int (c : Int)), some (.str N), none] : Sl) S = .ok (.obj S.length) (S ++ [.lst (L1.map .str)]) := by
    rw [hL1]
    exact q_lst (q_cons q_k (q_cons q_k (q_cons q_k (q_cons q_k (q_cons (q_bin q_k (q_var rfl) (c1 (by decide +kernel) _)) (q_cons (q_bin q_k (q_var rfl) (c1 (by decide +kernel) _)) (q_cons (q_bin q_k (q_var rfl) (c1 (by decide +kernel) _)) (q_cons (q_bin (q_var rfl) q_k (c2 (by decide +kernel) _)) (q_cons (q_bin q_k (q_bin q_k q_k (r0 _)) (a0 _)) q_nil))))))))) rfl
  (apply st_set; · (repeat' (first | with_reducible apply (s2) | contradiction))); (try dsimp only [List.set_cons_succ, List.set_cons_zero])
  obtain ⟨T, hT⟩ : ∃ T, T = S ++ [PO.lst (L1.map .str)] := ⟨_, rfl⟩
  rw [← hT]
  have eT : T[S.length]? = some (.lst (L1.map .str)) := by rw [hT]; exact get_last
  have s3 : eLst (aCons (eBin addV (eK (.str "-2")) (eBin mulSV (eK (.str "7")) (eK (.int 60)))) (aCons (eBin addV (eK (.str " ")) (eVar 1)) (aCons (eBin addV (eVar 1) (eK (.str " "))) (aCons (eBin addV (eVar 1) (eK (.str "."))) (aCons (eBin addV (eK (.str "--")) (eVar 1)) (aCons (eK (.str "x")) (aCons (eK (.str "1_0")) aNil))))))) ([some (.int (c : Int)), some (.str N), some (.obj S.length)] : Sl) T = .ok (.obj T.length) (T ++ [.lst (L2.map .str)]) := by
    rw [hL2]
    exact q_lst (q_cons (q_bin q_k (q_bin q_k q_k (r7 _)) (a7 _)) (q_cons (q_bin q_k (q_var rfl) (c1 (by decide +kernel) _)) (q_cons (q_bin (q_var rfl) q_k (c2 (by decide +kernel) _)) (q_cons (q_bin (q_var rfl) q_k (c2 (by decide +kernel) _)) (q_cons (q_bin q_k (q_var rfl) (c1 (by decide +kernel) _)) (q_cons q_k (q_cons q_k q_nil))))))) rfl
  have s4 := q_gc (q_bin (q_var (ρ := ([some (.int (c : Int)), some (.str N), some (.obj S.length)] : Sl)) (i := 2) rfl) s3 (q_addL (get_app eT) get_last (by rw [List.length_map, List.length_map, hL1, hL2]; exact Nat.le_of_ble_eq_true rfl))) (q_n2 (by rw [← List.map_append]; exact strs_bnds _ _))
  rw [← List.map_append] at s4
  (apply st_set; · (repeat' (first | with_reducible apply (s4) | contradiction))); (try dsimp only [List.set_cons_succ, List.set_cons_zero])
  have m16 : ∀ U, modV (.int (c : Int)) (.int 16) U = .ok (.int (i : Int)) U := fun U => by rw [← hi]; exact md c 16 (by decide) U
  have gi : getV (.obj T.length) (.int (i : Int)) (T ++ [.lst ((L1 ++ L2).map .str)]) = .ok (.str w) (T ++ [.lst ((L1 ++ L2).map .str)]) := q_gl get_last (by rw [List.getElem?_map, hw]; rfl)
  (apply end_ret; · (repeat' (first | with_reducible apply (m16 _) | with_reducible apply (gi) | contradiction))); (try dsimp only [List.set_cons_succ, List.set_cons_zero])
  exact ⟨[.lst (L1.map .str), .lst ((L1 ++ L2).map .str)], by rw [hT, List.append_assoc]; rfl⟩
/-! a line of words -/
def lineW (ws : List Str) : Str := ("[" ++ Txt.join "," ws) ++ "]"
theorem tl_lineW (ws : List Str) : tl (lineW ws) = 91 :: (joinL [44] (ws.map tl) ++ [93]) := by
  unfold lineW
  rw [tl_append, tl_append, join_eq, tl_join, comma_tl, show tl ("[" : Str) = [91] by kernel_rfl, show tl ("]" : Str) = [93] by kernel_rfl]
  rfl
theorem joinL_len (S : List Nat) : ∀ ps : List (List Nat), (joinL S ps).length ≤ (ps.map (·.length)).sum + ps.length * S.length
  | [] => Nat.zero_le _
  | [p] => by show p.length ≤ p.length + 0 + 1 * _; omega
  | p :: q :: r => by
    have := joinL_len S (q :: r)
    show (p ++ (S ++ joinL S (q :: r))).length ≤ _
    rw [List.length_append, List.length_append, List.map_cons, List.sum_cons, List.length_cons, Nat.add_mul]
    omega
theorem len_lineW {ws : List Str} (h : (ws.map (·.length)).sum + ws.length ≤ 50000) : (lineW ws).length ≤ 50002 := by
  rw [len_tl, tl_lineW, List.length_cons, List.length_append]
  have := joinL_len [44] (ws.map tl)
  rw [List.map_map, List.length_map] at this
  have e : ((fun x : List Nat => x.length) ∘ tl) = fun x : Str => x.length := by funext x; exact (len_tl x).symm
  rw [e] at this
  show _ + 1 + 1 ≤ _
  simp at this ⊢
  omega
theorem listed_eq {q : Nat} {ws : List Str} {S : Store} (e : S[q]? = some (.lst (ws.map .str))) (h : (ws.map (·.length)).sum + ws.length ≤ 50000) : gc S (m_law_listed [.obj q] S) = .ok (.str (lineW ws)) S := by
  refine gc_out ?_ rfl
  show Rt' _ _ (b_law_listed [some (.obj q)] S)
  unfold b_law_listed
  have jn : eJoin (eK (.str ",")) (eVar 0) [some (.obj q)] S = .ok (.str (Txt.join "," ws)) S := by
    rw [eJoin_ap, eK_ap, bind_ap]
    simp only [eVar_ap, List.getElem?_cons_zero, bind_ap]
    unfold joinV lstOf
    simp only [e]
    rw [strsOf_map]
    simp only
    rw [if_pos (by rw [show ("," : Str).length = 1 by decide +kernel]; omega)]
  have jl : (Txt.join "," ws).length ≤ 50000 := by
    have := len_lineW h
    rw [len_tl, tl_lineW] at this
    rw [len_tl, join_eq, tl_join, comma_tl]
    rw [List.length_cons, List.length_append] at this
    simp at this ⊢
    omega
  have a1 : addV (.str "[") (.str (Txt.join "," ws)) S = .ok (.str ("[" ++ Txt.join "," ws)) S := add_s (by decide +kernel) (by omega) S
  have a2 : addV (.str ("[" ++ Txt.join "," ws)) (.str "]") S = .ok (.str (lineW ws)) S := add_s (by rw [str_app_len, show ("[" : Str).length = 1 by decide +kernel]; omega) (by decide +kernel) S
  (apply end_ret; · (repeat' (first | with_reducible apply (jn) | with_reducible apply (a1) | with_reducible apply (a2) | contradiction))); (try dsimp only [List.set_cons_succ, List.set_cons_zero])
  exact Rt'.here
theorem shape_lineW (ws : List Str) : shapeL (lineW ws) = true := by
  unfold shapeL
  rw [tl_lineW, Bool.and_eq_true]
  refine ⟨rfl, decide_eq_true ?_⟩
  rw [List.length_cons, Nat.add_sub_cancel]
  have : (91 :: (joinL [44] (ws.map tl) ++ [93])) = (91 :: joinL [44] (ws.map tl)) ++ [93] := rfl
  rw [this, List.length_append]
  show List.drop (_ + 1) _ = _
  rw [show (joinL [44] (ws.map tl)).length + 1 = (91 :: joinL [44] (ws.map tl)).length from rfl, List.drop_left]
theorem inner_lineW (ws : List Str) : ((tl (lineW ws)).drop 1).take ((tl (lineW ws)).length - 2) = joinL [44] (ws.map tl) := by
  rw [tl_lineW]
  show (joinL [44] (ws.map tl) ++ [93]).take _ = _
  rw [List.length_cons, List.length_append]
  rw [show (joinL [44] (ws.map tl)).length + [93].length + 1 - 2 = (joinL [44] (ws.map tl)).length from by simp, List.take_left]
/-- what a line of words tells -/
theorem listO_line {ws : List Str} (h0 : ws ≠ []) (h1 : ∀ w ∈ ws, 44 ∉ tl w) (h2 : joinL [44] (ws.map tl) ≠ []) : listO (lineW ws) = if ws.all (fun p => isNumL (tl p)) = true then some (ws.map numS) else none := by
  have ps : partsS (lineW ws) = ws := split_cut h0 h1 (by rw [tl_inner, inner_lineW])
  unfold listO
  rw [if_neg, if_pos (shape_lineW ws), ps]
  rw [tl_lineW]
  intro z
  have z := (List.cons.inj z).2
  cases e : joinL [44] (ws.map tl) with
  | nil => exact h2 e
  | cons c r =>
    rw [e] at z
    have := congrArg List.length z
    simp at this
theorem listO_nil : listO (lineW []) = some [] := if_pos (tl_lineW [])
/-- which signs a line has that is taken -/
theorem listO_count {w : Str} {zs : List Int} (h : listO w = some zs) : (tl w).count 91 = 1 ∧ (tl w).count 93 = 1 ∧ ∀ c ∈ tl w, c = 91 ∨ c = 93 ∨ c = 44 ∨ c = 45 ∨ isDig c = true := by
  unfold listO at h
  split at h
  · rename_i e
    rw [e]
    exact ⟨rfl, rfl, by decide⟩
  · rename_i ne
    split at h
    · rename_i sh
      split at h
      · rename_i al
        obtain ⟨ps, p1, p2, p3, p4, _⟩ := parts_cases w
        rw [p4] at al
        unfold shapeL at sh
        obtain ⟨s1, s2⟩ := Bool.and_eq_true_iff.mp sh
        have s1 := of_decide_eq_true s1
        have s2 := of_decide_eq_true s2
        obtain ⟨I, hI⟩ : ∃ I, I = ((tl w).drop 1).take ((tl w).length - 2) := ⟨_, rfl⟩
        have form : tl w = 91 :: (I ++ [93]) := by
          cases e : tl w with
          | nil => rw [e] at s1; cases s1
          | cons a r =>
            rw [e] at s1 s2 hI
            have ha : a = 91 := (List.cons.inj s1).1
            cases r with
            | nil => rw [ha] at s2; cases s2
            | cons b r =>
              have s2 : (b :: r).drop r.length = [93] := by
                have : (a :: b :: r).drop ((a :: b :: r).length - 1) = (b :: r).drop r.length := by simp
                rw [← this]
                exact s2
              have hI : I = (b :: r).take r.length := by rw [hI]; rfl
              rw [ha, hI, ← s2, List.take_append_drop]
        rw [← hI] at p3
        have ok : ∀ c ∈ I, c = 44 ∨ c = 45 ∨ isDig c = true := by
          rw [← p3]
          have gen : ∀ qs : List (List Nat), (∀ q ∈ qs, ∀ c ∈ q, c = 45 ∨ isDig c = true) → ∀ c ∈ joinL [44] qs, c = 44 ∨ c = 45 ∨ isDig c = true := by
            intro qs
            induction qs with
            | nil => intro _ c hc; cases hc
            | cons q qs ih =>
              intro hq c hc
              cases qs with
              | nil => exact .inr (hq q (.head _) c hc)
              | cons q2 qs =>
                have hc : c ∈ q ++ ([44] ++ joinL [44] (q2 :: qs)) := hc
                rcases List.mem_append.mp hc with hc | hc
                · exact .inr (hq q (.head _) c hc)
                · rcases List.mem_append.mp hc with hc | hc
                  · exact .inl (List.mem_singleton.mp hc)
                  · exact ih (fun q' h' => hq q' (List.mem_cons_of_mem _ h')) c hc
          refine gen _ fun q hq c hc => ?_
          obtain ⟨p, hp, rfl⟩ := List.mem_map.mp hq
          exact isNum_chars (List.all_eq_true.mp al p hp) c hc
        have n91 : I.count 91 = 0 := List.count_eq_zero.mpr fun z => by
          rcases ok 91 z with z | z | z <;> revert z <;> decide
        have n93 : I.count 93 = 0 := List.count_eq_zero.mpr fun z => by
          rcases ok 93 z with z | z | z <;> revert z <;> decide
        rw [form]
        refine ⟨?_, ?_, fun c hc => ?_⟩
        · rw [List.count_cons_self, List.count_append, n91]; rfl
        · rw [List.count_cons_of_ne (by decide), List.count_append, n93]; rfl
        · rcases List.mem_cons.mp hc with rfl | hc
          · exact .inl rfl
          · rcases List.mem_append.mp hc with hc | hc
            · exact .inr (.inr (ok c hc))
            · exact .inr (.inl (List.mem_singleton.mp hc))
      · cases h
    · cases h

end K80

set_option Elab.async false
set_option linter.all false
set_option maxRecDepth 100000
set_option maxHeartbeats 1000000
set_option exponentiation.threshold 40000
namespace K80
open PySem PySem.Spec PyProof.Rows L2 TL
local macro_rules
  | `(tactic| contradiction) => `(tactic| first | with_reducible assumption | ((with_reducible apply q_var); exact rfl) | ((with_reducible apply q_intB1); exact rfl) | ((with_reducible apply q_intB0); exact rfl) | with_reducible (first | apply q_k | apply q_nil | apply q_cons | apply q_bin | apply q_tup | apply q_tbl | apply q_b | apply q_call | apply q_g0 | apply q_gc | apply q_add | apply q_sub | apply q_mod | apply q_eqI | apply q_neI | apply q_lt | apply q_le | apply q_gtI | apply q_ge | apply q_eqS | apply q_neS | apply q_t0 | apply q_t1 | apply q_t2 | apply q_t3 | apply q_t4 | apply q_t5 | apply q_l0 | apply q_l1 | apply q_l2 | apply q_l3 | apply q_l4 | apply q_l5 | apply q_gl | apply q_gt | apply q_slice | apply q_onone | apply q_osome | apply q_slT | apply q_slR | apply q_slO | apply q_lst | apply q_dic | apply q_ttru | apply q_and | apply q_or | apply q_or0 | apply q_cnot | apply q_tgc0 | apply q_tgc1 | apply q_tgc | apply q_gT0 | apply q_gT1 | apply q_gT2 | apply q_gT3 | apply q_if | apply q_i1 | apply q_i0 | apply q_not | apply q_neg | apply q_chain1 | apply q_n1 | apply q_n2 | apply q_n3 | apply q_n4 | apply q_g1 | apply q_g2 | apply q_g3 | apply q_g4 | apply q_mul | apply q_div | apply q_is | apply q_isn | apply q_lenT | apply q_lenR | apply q_lenL | apply q_intB | apply q_any | apply q_itT | apply q_itR | apply q_itL | apply q_listL | apply q_listT | apply q_tupL | apply q_rng | apply q_addL | apply q_addT | apply q_m | apply q_isl | apply q_eand | apply q_eor | apply q_min | apply q_isBv | apply q_isnBv | apply q_app | apply q_clear | apply q_callX | apply get_last | apply get_app | apply q_eqI1 | apply q_eqI0 | apply q_neI1 | apply q_neI0 | apply q_lt1 | apply q_lt0 | apply q_le1 | apply q_le0 | apply q_gt1 | apply q_gt0 | apply q_ge1 | apply q_ge0 | apply q_cnot1 | apply q_cnot0 | apply bndO_l | apply bnd_t | apply bnds_ints | apply bnds_cut | apply q_seq | apply q_sne | apply q_gcf) | ((with_reducible apply lenq); exact rfl) | ((with_reducible apply bleq); exact rfl) | ((with_reducible apply inteq); first | exact rfl | omega) | ((with_reducible apply getq); exact rfl) | ((with_reducible apply bndq); exact rfl) | ((with_reducible apply bndOq); exact rfl) | ((with_reducible apply truq); exact rfl) | ((with_reducible apply bndsq); exact rfl) | ((with_reducible apply neq0); first | decide | omega) | ((with_reducible apply leqN); first | decide | omega | (simp only [List.length_append, List.length_map, List.length_range, List.length_cons, List.length_nil, List.length_take, List.length_reverse, List.length_replicate, List.length_drop]; omega)) | ((with_reducible apply ltI); omega) | ((with_reducible apply neN); first | assumption | omega) | ((with_reducible apply leI); omega) | ((with_reducible apply nltI); omega) | ((with_reducible apply nleI); omega) | (with_reducible exact mulOk_l (by decide)) | (with_reducible exact mulOk_r (by decide)))
/-! ### lines spoiled -/
def BadW (w : Str) : Prop := w.length ≤ 900000 ∧ ∀ zs, listO w = some zs → 40 < zs.length
def SpR (S : Store) (r : Res PV) : Prop := (∃ w, r = .ok (.str w) S ∧ BadW w) ∨ (∃ x t, r = .ok x S ∧ (∀ T, tyP x T = some t) ∧ t ≠ "str") ∨ r = .ok (.obj S.length) (S ++ [.lst [.str "[]"]])
theorem bad_none {w : Str} (hl : w.length ≤ 900000) (h : listO w = none) : BadW w := ⟨hl, fun zs e => by rw [h] at e; cases e⟩
theorem none_of {w : Str} (h : ∀ zs, listO w = some zs → False) : listO w = none := by
  cases e : listO w with
  | none => rfl
  | some zs => exact (h zs e).elim
/-- a line in which a word is no number -/
theorem bad_line {ws : List Str} (h1 : ∀ w ∈ ws, 44 ∉ tl w) (h2 : joinL [44] (ws.map tl) ≠ []) (hl : (ws.map (·.length)).sum + ws.length ≤ 50000) {w : Str} (hw : w ∈ ws) (hn : isNumL (tl w) = false) : BadW (lineW ws) := by
  refine bad_none (by have := len_lineW hl; omega) ?_
  rw [listO_line (fun z => by rw [z] at hw; cases hw) h1 h2, if_neg]
  intro z
  have := List.all_eq_true.mp z w hw
  rw [hn] at this
  cases this
theorem joinL_ne : ∀ {ps : List (List Nat)} {p : List Nat}, p ∈ ps → p ≠ [] → joinL [44] ps ≠ []
  | [q], p, h, hn => by rw [List.mem_singleton.mp h] at hn; exact hn
  | q :: r :: ps, p, h, hn => fun z => by
    have z : q ++ ([44] ++ joinL [44] (r :: ps)) = [] := z
    have := congrArg List.length z
    simp at this
theorem joinL_two {ps : List (List Nat)} (h : 2 ≤ ps.length) : joinL [44] ps ≠ [] := by
  match ps, h with
  | q :: r :: ps, _ =>
    intro z
    have z : q ++ ([44] ++ joinL [44] (r :: ps)) = [] := z
    have := congrArg List.length z
    simp at this
/-- words of numbers -/
structure Wd (ws : List Str) : Prop where
  num : ∀ w ∈ ws, isNumL (tl w) = true
  len : ws.length ≤ 40
theorem Wd.free {ws : List Str} (h : Wd ws) : ∀ w ∈ ws, 44 ∉ tl w := fun w hw z => by
  rcases isNum_chars (h.num w hw) 44 z with q | q <;> revert q <;> decide
theorem isNum_len {w : Str} (h : isNumL (tl w) = true) : w.length ≤ 61 := (isNum_int h).2
theorem sum_le {ws : List Str} {k : Nat} (h : ∀ w ∈ ws, w.length ≤ k) : (ws.map (·.length)).sum ≤ ws.length * k := by
  induction ws with
  | nil => exact Nat.zero_le _
  | cons w ws ih =>
    rw [List.map_cons, List.sum_cons, List.length_cons, Nat.add_mul, Nat.one_mul]
    have a := h w (.head _)
    have b := ih fun v hv => h v (List.mem_cons_of_mem _ hv)
    omega
theorem small_of {ws : List Str} (h : ∀ w ∈ ws, w.length ≤ 100) (hl : ws.length ≤ 100) : (ws.map (·.length)).sum + ws.length ≤ 50000 := by
  have a := sum_le h
  have b : ws.length * 100 ≤ 100 * 100 := Nat.mul_le_mul_right _ hl
  omega
theorem Wd.small {ws : List Str} (h : Wd ws) : (ws.map (·.length)).sum + ws.length ≤ 50000 := small_of (fun w hw => Nat.le_trans (isNum_len (h.num w hw)) (by decide)) (Nat.le_trans h.len (by decide))
theorem num_chars {ws : List Str} (h : ∀ w ∈ ws, isNumL (tl w) = true) : ∀ c ∈ joinL [44] (ws.map tl), c = 44 ∨ c = 45 ∨ isDig c = true := by
  have gen : ∀ qs : List (List Nat), (∀ q ∈ qs, ∀ c ∈ q, c = 45 ∨ isDig c = true) → ∀ c ∈ joinL [44] qs, c = 44 ∨ c = 45 ∨ isDig c = true := by
    intro qs
    induction qs with
    | nil => intro _ c hc; cases hc
    | cons q qs ih =>
      intro hq c hc
      cases qs with
      | nil => exact .inr (hq q (.head _) c hc)
      | cons q2 qs =>
        have hc : c ∈ q ++ ([44] ++ joinL [44] (q2 :: qs)) := hc
        rcases List.mem_append.mp hc with hc | hc
        · exact .inr (hq q (.head _) c hc)
        · rcases List.mem_append.mp hc with hc | hc
          · exact .inl (List.mem_singleton.mp hc)
          · exact ih (fun q' h' => hq q' (List.mem_cons_of_mem _ h')) c hc
  refine gen _ fun q hq c hc => ?_
  obtain ⟨p, hp, rfl⟩ := List.mem_map.mp hq
  exact isNum_chars (h p hp) c hc
/-- an inner part that has numbers' signs and commas alone -/
theorem inner_free {I : List Nat} (h : ∀ c ∈ I, c = 44 ∨ c = 45 ∨ isDig c = true) : I.count 91 = 0 ∧ I.count 93 = 0 :=
  ⟨List.count_eq_zero.mpr fun z => (by rcases h 91 z with z | z | z <;> revert z <;> decide), List.count_eq_zero.mpr fun z => (by rcases h 93 z with z | z | z <;> revert z <;> decide)⟩
theorem bad_count {w : Str} (hl : w.length ≤ 900000) (h : (tl w).count 91 ≠ 1 ∨ (tl w).count 93 ≠ 1 ∨ ∃ c ∈ tl w, c ≠ 91 ∧ c ≠ 93 ∧ c ≠ 44 ∧ c ≠ 45 ∧ isDig c = false) : BadW w := by
  refine bad_none hl (none_of fun zs e => ?_)
  obtain ⟨a, b, d⟩ := listO_count e
  rcases h with h | h | ⟨c, hc, h1, h2, h3, h4, h5⟩
  · exact h a
  · exact h b
  · rcases d c hc with z | z | z | z | z
    · exact h1 z
    · exact h2 z
    · exact h3 z
    · exact h4 z
    · rw [h5] at z; cases z
theorem count_ins (L : List Nat) (k c x : Nat) : (L.take k ++ [x] ++ L.drop k).count c = L.count c + [x].count c := by
  have := congrArg (List.count c) (List.take_append_drop k L)
  rw [List.count_append] at this
  rw [List.count_append, List.count_append]
  omega
def sgnK : List Str := ["[", "]", " ", "(", "a", ";", "\n", "+"]
theorem sgnK_codes : sgnK.map tl = [[91], [93], [32], [40], [97], [59], [10], [43]] := by kernel_rfl
theorem eqL_nil {q : Nat} {ws : List Str} {S : Store} (hw : Wd ws) (e : S[q]? = some (.lst (ws.map .str))) : eqV (.obj q) (.obj S.length) (S ++ [.lst []]) = .ok (.bl (decide (ws = []))) (S ++ [.lst []]) := by
  have okw : (ws.map PV.str).all (okV 0) = true := List.all_eq_true.mpr fun x hx => by
    obtain ⟨w, hw', rfl⟩ := List.mem_map.mp hx
    show PySem.PyData.strOk w = true
    unfold PySem.PyData.strOk
    rw [Array.all_eq_true']
    intro c hc
    have hc : c ∈ tl w := Array.mem_toList_iff.mpr hc
    have := isNum_chars (hw.num w hw') c hc
    have : c < 0x110000 := by
      rcases this with h | h
      · omega
      · have := of_decide_eq_true h; omega
    exact decide_eq_true this
  have := eqG_lst (k := 0) id (by decide) (get_app (J := [PO.lst []]) e) (get_last (S := S) (o := PO.lst [])) okw rfl
  have d : decide (ws.map PV.str = []) = decide (ws = []) := decide_eq_decide.mpr ⟨fun h => List.map_eq_nil_iff.mp h, fun h => by rw [h]; rfl⟩
  rw [d] at this
  exact this
/-- the ways behind the first -/
noncomputable def spRest : CS := (sSeq (sIf (tBl (eBin ltV (eBin modV (eVar 1) (eK (.int 8))) (eK (.int 3)))) (sSeq (sSet 5 (eBin modV (eVar 4) (eB lenV (aCons (eVar 0) aNil))))
    (sSeq (sSet 6 (eCall 1 m_law_odd (aCons (eBin fdivV (eVar 4) (eK (.int 41))) aNil)))
    (sSeq (sIf (cAnd (tBl (eBin eqV (eVar 6) (eK (.str "")))) (tBl (eBin eqV (eB lenV (aCons (eVar 0) aNil)) (eK (.int 1))))) (sSet 6 (eK (.str "x"))) sNext)
    (sRet (eGc (eCall 1 m_law_listed (aCons (eGc (eBin addV (eBin addV (eSlice (eVar 0) oNone (oSome (eVar 5))) (eLst (aCons (eVar 6) aNil))) (eSlice (eVar 0) (oSome (eBin addV (eVar 5) (eK (.int 1)))) oNone))) aNil))))))) sNext)
    (sSeq (sIf (tBl (eBin eqV (eBin modV (eVar 1) (eK (.int 8))) (eK (.int 3)))) (sRet (eGc (eBin addV (eBin addV (eSlice (eVar 2) oNone (oSome (eVar 3))) (eBin getV (eLst (aCons (eK (.str "[")) (aCons (eK (.str "]")) (aCons (eK (.str " ")) (aCons (eK (.str "(")) (aCons (eK (.str "a")) (aCons (eK (.str ";")) (aCons (eK (.str "\n")) (aCons (eK (.str "+")) aNil))))))))) (eBin modV (eBin fdivV (eVar 4) (eK (.int 7))) (eK (.int 8))))) (eSlice (eVar 2) (oSome (eVar 3)) oNone)))) sNext)
    (sSeq (sIf (tBl (eBin eqV (eBin modV (eVar 1) (eK (.int 8))) (eK (.int 4)))) (sRet (eGc (eBin getV (eLst (aCons (eSlice (eVar 2) (oSome (eK (.int 1))) oNone) (aCons (eSlice (eVar 2) oNone (oSome (eNeg (eK (.int 1))))) (aCons (eSlice (eVar 2) (oSome (eK (.int 1))) (oSome (eNeg (eK (.int 1))))) (aCons (eBin addV (eK (.str "(")) (eSlice (eVar 2) (oSome (eK (.int 1))) oNone)) (aCons (eBin addV (eSlice (eVar 2) oNone (oSome (eNeg (eK (.int 1))))) (eK (.str ")"))) aNil)))))) (eBin modV (eVar 4) (eK (.int 5)))))) sNext)
    (sSeq (sIf (tBl (eBin eqV (eBin modV (eVar 1) (eK (.int 8))) (eK (.int 5)))) (sRet (eGc (eCall 1 m_law_listed (aCons (eGc (eBin addV (eVar 0) (eBin mulV (eLst (aCons (eK (.str "7")) aNil)) (eBin addV (eBin subV (eK (.int 41)) (eB lenV (aCons (eVar 0) aNil))) (eBin modV (eVar 4) (eK (.int 3))))))) aNil)))) sNext)
    (sSeq (sIf (tBl (eBin eqV (eBin modV (eVar 1) (eK (.int 8))) (eK (.int 6)))) (sRet (eGc (eBin getV (eLst (aCons (eK (.str ".")) (aCons (eK (.str "(.,5,.)")) (aCons (eK (.str "nil")) (aCons (eK (.str "")) (aCons (eK (.str "[.]")) (aCons (eK (.str "[[]]")) aNil))))))) (eBin modV (eVar 4) (eK (.int 6)))))) sNext)
    (sRet (eGc (eBin getV (eLst (aCons (eK .non) (aCons (eK (.int 7)) (aCons (eTup (aCons (eK (.str "[]")) aNil)) (aCons (eLst (aCons (eK (.str "[]")) aNil)) (aCons (eK (.bl true)) (aCons (eTup aNil) aNil))))))) (eBin modV (eVar 4) (eK (.int 6)))))))))))
noncomputable def spRest3 : CS := (sSeq (sIf (tBl (eBin eqV (eBin modV (eVar 1) (eK (.int 8))) (eK (.int 3)))) (sRet (eGc (eBin addV (eBin addV (eSlice (eVar 2) oNone (oSome (eVar 3))) (eBin getV (eLst (aCons (eK (.str "[")) (aCons (eK (.str "]")) (aCons (eK (.str " ")) (aCons (eK (.str "(")) (aCons (eK (.str "a")) (aCons (eK (.str ";")) (aCons (eK (.str "\n")) (aCons (eK (.str "+")) aNil))))))))) (eBin modV (eBin fdivV (eVar 4) (eK (.int 7))) (eK (.int 8))))) (eSlice (eVar 2) (oSome (eVar 3)) oNone)))) sNext)
    (sSeq (sIf (tBl (eBin eqV (eBin modV (eVar 1) (eK (.int 8))) (eK (.int 4)))) (sRet (eGc (eBin getV (eLst (aCons (eSlice (eVar 2) (oSome (eK (.int 1))) oNone) (aCons (eSlice (eVar 2) oNone (oSome (eNeg (eK (.int 1))))) (aCons (eSlice (eVar 2) (oSome (eK (.int 1))) (oSome (eNeg (eK (.int 1))))) (aCons (eBin addV (eK (.str "(")) (eSlice (eVar 2) (oSome (eK (.int 1))) oNone)) (aCons (eBin addV (eSlice (eVar 2) oNone (oSome (eNeg (eK (.int 1))))) (eK (.str ")"))) aNil)))))) (eBin modV (eVar 4) (eK (.int 5)))))) sNext)
    (sSeq (sIf (tBl (eBin eqV (eBin modV (eVar 1) (eK (.int 8))) (eK (.int 5)))) (sRet (eGc (eCall 1 m_law_listed (aCons (eGc (eBin addV (eVar 0) (eBin mulV (eLst (aCons (eK (.str "7")) aNil)) (eBin addV (eBin subV (eK (.int 41)) (eB lenV (aCons (eVar 0) aNil))) (eBin modV (eVar 4) (eK (.int 3))))))) aNil)))) sNext)
    (sSeq (sIf (tBl (eBin eqV (eBin modV (eVar 1) (eK (.int 8))) (eK (.int 6)))) (sRet (eGc (eBin getV (eLst (aCons (eK (.str ".")) (aCons (eK (.str "(.,5,.)")) (aCons (eK (.str "nil")) (aCons (eK (.str "")) (aCons (eK (.str "[.]")) (aCons (eK (.str "[[]]")) aNil))))))) (eBin modV (eVar 4) (eK (.int 6)))))) sNext)
    (sRet (eGc (eBin getV (eLst (aCons (eK .non) (aCons (eK (.int 7)) (aCons (eTup (aCons (eK (.str "[]")) aNil)) (aCons (eLst (aCons (eK (.str "[]")) aNil)) (aCons (eK (.bl true)) (aCons (eTup aNil) aNil))))))) (eBin modV (eVar 4) (eK (.int 6))))))))))
theorem cut_take (xs : List PV) (c : Nat) : cutP xs none (some (c : Int)) = xs.take c := by
  unfold cutP
  rw [HT.sIx_nat]
  show (xs.drop 0).take (min c xs.length - 0) = _
  rw [List.drop_zero, Nat.sub_zero]
  rw [List.take_eq_take_iff]
  omega
theorem cut_drop (xs : List PV) (c : Nat) : cutP xs (some (c : Int)) none = xs.drop c := by
  unfold cutP
  rw [HT.sIx_nat]
  show (xs.drop (min c xs.length)).take (xs.length - min c xs.length) = _
  rw [List.take_of_length_le (by rw [List.length_drop]; omega)]
  by_cases h : c ≤ xs.length
  · rw [Nat.min_eq_left h]
  · rw [Nat.min_eq_right (by omega), List.drop_length, List.drop_eq_nil_of_le (by omega)]
theorem addV_lsts {S : Store} {i j : Nat} {xs ys : List PV} (h1 : S[i]? = some (.lst xs)) (h2 : S[j]? = some (.lst ys)) (hl : xs.length + ys.length ≤ 1000000) : addV (.obj i) (.obj j) S = .ok (.obj S.length) (S ++ [.lst (xs ++ ys)]) := by
  have l := line2 hl
  unfold addV
  simp only [h1, h2]
  rw [if_pos l]
theorem slice_obj {S : Store} {i : Nat} {xs : List PV} {lo hi : Option Int} (h : S[i]? = some (.lst xs)) : sliceV (.obj i) lo hi S = .ok (.obj S.length) (S ++ [.lst (cutP xs lo hi)]) := by
  unfold sliceV
  simp only [h]

theorem slice_take {i j q k : Nat} {ws : List Str} {ρ : Sl} {T : Store} (hi : ρ[i]? = some (some (.obj q))) (hj : ρ[j]? = some (some (.int (k : Int)))) (e : T[q]? = some (.lst (ws.map .str))) : eSlice (eVar i) oNone (oSome (eVar j)) ρ T = .ok (.obj T.length) (T ++ [.lst ((ws.take k).map .str)]) := by
  rw [List.map_take, ← cut_take]
  exact q_slice (q_var hi) q_onone (q_osome (q_var hj)) (q_slO e)
theorem slice_drop {i q k : Nat} {ce : CE PV} {ws : List Str} {ρ : Sl} {T : Store} (hi : ρ[i]? = some (some (.obj q))) (hj : ce ρ T = .ok (.int (k : Int)) T) (e : T[q]? = some (.lst (ws.map .str))) : eSlice (eVar i) (oSome ce) oNone ρ T = .ok (.obj T.length) (T ++ [.lst ((ws.drop k).map .str)]) := by
  rw [List.map_drop, ← cut_drop]
  exact q_slice (q_var hi) (q_osome hj) q_onone (q_slO e)
theorem add_lines {a b : CE PV} {ρ : Sl} {S T U : Store} {xs ys : List Str} {i : Nat} (h1 : a ρ S = .ok (.obj i) T) (e : U[i]? = some (.lst (xs.map .str))) (h2 : b ρ T = .ok (.obj T.length) U) (hU : U = T ++ [.lst (ys.map .str)]) (hl : xs.length + ys.length ≤ 1000) : eBin addV a b ρ S = .ok (.obj U.length) (U ++ [.lst ((xs ++ ys).map .str)]) := by
  rw [List.map_append]
  exact q_bin h1 h2 (q_addL e (by rw [hU]; exact get_last) (by rw [List.length_map, List.length_map]; omega))
theorem gc_deep {S J : Store} {i : Nat} {ws : List Str} (hi : S.length ≤ i) (e : (S ++ J)[i]? = some (.lst (ws.map .str))) : gc S (.ok (.obj i) (S ++ J)) = .ok (.obj S.length) (S ++ [.lst (ws.map .str)]) := gc_new hi e (strs_bnds _ _)
set_option maxHeartbeats 4000000 in
theorem spoiled_eq {q c : Nat} {ws : List Str} {S : Store} (hw : Wd ws) (e : S[q]? = some (.lst (ws.map .str))) : SpR S (gc S (m_law_spoiled [.obj q, .int (c : Int)] S)) := by
  obtain ⟨n, hn⟩ : ∃ n, n = ws.length := ⟨_, rfl⟩
  have n40 : n ≤ 40 := by rw [hn]; exact hw.len
  obtain ⟨L, hL⟩ : ∃ L, L = lineW ws := ⟨_, rfl⟩
  have li : ∀ {T : Store}, T[q]? = some (.lst (ws.map .str)) → gc T (m_law_listed [.obj q] T) = .ok (.str L) T := fun {T} h => by rw [hL]; exact listed_eq h hw.small
  have lL : L.length ≤ 50002 := by rw [hL]; exact len_lineW hw.small
  obtain ⟨I, hI⟩ : ∃ I, I = joinL [44] (ws.map tl) := ⟨_, rfl⟩
  have tL : tl L = 91 :: (I ++ [93]) := by rw [hL, tl_lineW, hI]
  have okI : ∀ x ∈ I, x = 44 ∨ x = 45 ∨ isDig x = true := by rw [hI]; exact num_chars hw.num
  obtain ⟨i91, i93⟩ := inner_free okI
  obtain ⟨k, hk, k8⟩ : ∃ k, c % 8 = k ∧ k < 8 := ⟨_, rfl, Nat.mod_lt _ (by decide)⟩
  obtain ⟨m, hm⟩ : ∃ m, m = c / 8 := ⟨_, rfl⟩
  obtain ⟨at_, hat, atl⟩ : ∃ a, m % (L.length + 1) = a ∧ a < L.length + 1 := ⟨_, rfl, Nat.mod_lt _ (by omega)⟩
  have d8 : ∀ U, fdivV (.int (c : Int)) (.int 8) U = .ok (.int (m : Int)) U := fun U => by rw [hm]; exact dvn c 8 (by decide) (by decide) U
  have m8 : ∀ U, modV (.int (c : Int)) (.int 8) U = .ok (.int (k : Int)) U := fun U => by rw [← hk]; exact md c 8 (by decide) U
  have lLe : ∀ U, lenV [.str L] U = .ok (.int (L.length : Int)) U := fun U => if_pos (line2 (by omega))
  have ma : ∀ U, modV (.int (m : Int)) (.int ((L.length : Int) + 1)) U = .ok (.int (at_ : Int)) U := fun U => by
    have e : ((L.length : Int) + 1) = ((L.length + 1 : Nat) : Int) := by push_cast; rfl
    rw [e, ← hat]
    exact md m _ (by omega) U
  have lq : ∀ {T : Store}, T[q]? = some (.lst (ws.map .str)) → lenV [.obj q] T = .ok (.int (n : Int)) T := fun h => by rw [q_lenL h, List.length_map, hn]
  have eqk : ∀ (j : Int) {ρ : Sl} {T : Store}, ρ[1]? = some (some (.int (c : Int))) → tBl (eBin eqV (eBin modV (eVar 1) (eK (.int 8))) (eK (.int j))) ρ T = .ok (decide ((k : Int) = j)) T := fun j {ρ T} h => q_tbl (q_bin (q_bin (q_var h) q_k (m8 _)) q_k q_eqI)
  have no : ∀ (j : Int) {ρ : Sl} {T : Store}, ρ[1]? = some (some (.int (c : Int))) → (k : Int) ≠ j → tBl (eBin eqV (eBin modV (eVar 1) (eK (.int 8))) (eK (.int j))) ρ T = .ok false T := fun j {ρ T} h h2 => by rw [eqk j h, decide_eq_false h2]
  have yes : ∀ (j : Int) {ρ : Sl} {T : Store}, ρ[1]? = some (some (.int (c : Int))) → (k : Int) = j → tBl (eBin eqV (eBin modV (eVar 1) (eK (.int 8))) (eK (.int j))) ρ T = .ok true T := fun j {ρ T} h h2 => by rw [eqk j h, decide_eq_true h2]
  have text : ∀ {w : Str} {J : Store}, b_law_spoiled ([some (.obj q), some (.int (c : Int)), none, none, none, none, none] : Sl) S = .ret (.str w) (S ++ J) → BadW w → SpR S (gc S (m_law_spoiled [.obj q, .int (c : Int)] S)) := fun {w J} h hb => .inl ⟨w, by
    show gc S (outS (b_law_spoiled ([some (.obj q), some (.int (c : Int)), none, none, none, none, none] : Sl) S)) = _
    rw [h]
    exact gc_app rfl, hb⟩
  have tex : ∀ {w : Str}, Rt' (.str w) S (b_law_spoiled ([some (.obj q), some (.int (c : Int)), none, none, none, none, none] : Sl) S) → BadW w → SpR S (gc S (m_law_spoiled [.obj q, .int (c : Int)] S)) := fun {w} ⟨J, h⟩ hb => text h hb
  -- the head of each way
  have head : ∀ {G : SR → Prop}, G ((sSeq (sIf (tGc (cOr (tBl (eBin eqV (eBin modV (eVar 1) (eK (.int 8))) (eK (.int 0)))) (tBl (eBin eqV (eVar 0) (eLst aNil))))) (sSeq (sSet 5 (eBin modV (eVar 4) (eBin addV (eB lenV (aCons (eVar 0) aNil)) (eK (.int 1)))))
    (sSeq (sSet 0 (eGc (eBin addV (eBin addV (eSlice (eVar 0) oNone (oSome (eVar 5))) (eLst (aCons (eCall 1 m_law_odd (aCons (eBin fdivV (eVar 4) (eK (.int 41))) aNil)) aNil))) (eSlice (eVar 0) (oSome (eVar 5)) oNone))))
    (sRet (eGc (eCall 1 m_law_listed (aCons (eGc (eBin addV (eVar 0) (eLst (aCons (eK (.str "x")) aNil)))) aNil)))))) sNext) spRest) ([some (.obj q), some (.int (c : Int)), some (.str L), some (.int (at_ : Int)), some (.int (m : Int)), none, none] : Sl) S) → G (b_law_spoiled ([some (.obj q), some (.int (c : Int)), none, none, none, none, none] : Sl) S) := fun {G} g => by
    unfold b_law_spoiled
    (apply st_set; · (repeat' (first | with_reducible apply (li e) | contradiction))); (try dsimp only [List.set_cons_succ, List.set_cons_zero])
    (apply st_set; · (repeat' (first | with_reducible apply (d8 _) | with_reducible apply (lLe _) | with_reducible apply (ma _) | contradiction))); (try dsimp only [List.set_cons_succ, List.set_cons_zero])
    (apply st_set; · (repeat' (first | with_reducible apply (d8 _) | contradiction))); (try dsimp only [List.set_cons_succ, List.set_cons_zero])
    exact g
  have nw : ∀ {p : Nat} {w : Str}, 44 ∉ tl w → w.length ≤ 100 → (∀ v ∈ ws.take p ++ [w] ++ ws.drop p, 44 ∉ tl v ∧ v.length ≤ 100) := fun {p w} h1 h2 v hv => by
    rcases List.mem_append.mp hv with hv | hv
    · rcases List.mem_append.mp hv with hv | hv
      · exact ⟨hw.free v (List.mem_of_mem_take hv), Nat.le_trans (isNum_len (hw.num v (List.mem_of_mem_take hv))) (by decide)⟩
      · rw [List.mem_singleton.mp hv]; exact ⟨h1, h2⟩
    · exact ⟨hw.free v (List.mem_of_mem_drop hv), Nat.le_trans (isNum_len (hw.num v (List.mem_of_mem_drop hv))) (by decide)⟩
  have d41 : ∀ U, fdivV (.int (m : Int)) (.int 41) U = .ok (.int ((m / 41 : Nat) : Int)) U := fun U => dvn m 41 (by decide) (by decide) U
  by_cases first : k = 0 ∨ ws = []
  · have t1 : tGc (cOr (tBl (eBin eqV (eBin modV (eVar 1) (eK (.int 8))) (eK (.int 0)))) (tBl (eBin eqV (eVar 0) (eLst aNil)))) ([some (.obj q), some (.int (c : Int)), some (.str L), some (.int (at_ : Int)), some (.int (m : Int)), none, none] : Sl) S = .ok true S := by
      by_cases h0 : k = 0
      · exact q_tgc (q_or1 (yes 0 rfl (by omega))) q_gT0
      · have hnil : ws = [] := first.elim (fun z => absurd z h0) id
        have el := eqL_nil hw e
        rw [decide_eq_true hnil] at el
        exact q_tgc (q_or0 (no 0 rfl (by omega)) (q_tbl (q_bin (q_var rfl) (q_lst q_nil rfl) el))) q_gT1
    obtain ⟨p, hp, pl⟩ : ∃ p, m % (n + 1) = p ∧ p < n + 1 := ⟨_, rfl, Nat.mod_lt _ (by omega)⟩
    have mp : ∀ U, modV (.int (m : Int)) (.int ((n : Int) + 1)) U = .ok (.int (p : Int)) U := fun U => by
      have e : ((n : Int) + 1) = ((n + 1 : Nat) : Int) := by push_cast; rfl
      rw [e, ← hp]
      exact md m _ (by omega) U
    obtain ⟨T1, hT1⟩ : ∃ T, T = S ++ [PO.lst ((ws.take p).map .str)] := ⟨_, rfl⟩
    obtain ⟨w, ow, w1, w2, w3⟩ := odd_eq (m / 41) T1
    obtain ⟨T2, hT2⟩ : ∃ T, T = T1 ++ [PO.lst ([w].map .str)] := ⟨_, rfl⟩
    obtain ⟨T3, hT3⟩ : ∃ T, T = T2 ++ [PO.lst ((ws.take p ++ [w]).map .str)] := ⟨_, rfl⟩
    obtain ⟨T4, hT4⟩ : ∃ T, T = T3 ++ [PO.lst ((ws.drop p).map .str)] := ⟨_, rfl⟩
    obtain ⟨V, hV⟩ : ∃ V, V = ws.take p ++ [w] ++ ws.drop p := ⟨_, rfl⟩
    have lV : V.length = n + 1 := by rw [hV, List.length_append, List.length_append, List.length_take, List.length_drop, ← hn]; show min p n + 1 + (n - p) = n + 1; omega
    have okV' := nw (p := p) w2 w3
    rw [← hV] at okV'
    have e3 : T3[q]? = some (.lst (ws.map .str)) := by rw [hT3, hT2, hT1]; exact get_app (get_app (get_app e))
    have st := slice_take (i := 0) (j := 5) (ρ := ([some (.obj q), some (.int (c : Int)), some (.str L), some (.int (at_ : Int)), some (.int (m : Int)), some (.int (p : Int)), none] : Sl)) (k := p) rfl rfl e
    rw [← hT1] at st
    have so : eLst (aCons (eCall 1 m_law_odd (aCons (eBin fdivV (eVar 4) (eK (.int 41))) aNil)) aNil) ([some (.obj q), some (.int (c : Int)), some (.str L), some (.int (at_ : Int)), some (.int (m : Int)), some (.int (p : Int)), none] : Sl) T1 = .ok (.obj T1.length) T2 := by
      rw [hT2]
      exact q_lst (q_cons (q_call (n := 1) (q_cons (q_bin (q_var rfl) q_k (d41 _)) q_nil) rfl ow) q_nil) rfl
    have a1 := add_lines (xs := ws.take p) (ys := [w]) st (by rw [hT2, hT1]; exact get_app get_last) so hT2 (by rw [List.length_take]; show _ + 1 ≤ 1000; omega)
    rw [← hT3] at a1
    have sd := slice_drop (i := 0) (k := p) (ce := eVar 5) (ρ := ([some (.obj q), some (.int (c : Int)), some (.str L), some (.int (at_ : Int)), some (.int (m : Int)), some (.int (p : Int)), none] : Sl)) rfl (q_var rfl) e3
    rw [← hT4] at sd
    have a2 := add_lines (xs := ws.take p ++ [w]) (ys := ws.drop p) (i := T2.length) a1 (by rw [hT4, hT3]; exact get_app get_last) sd hT4 (by rw [List.length_append, List.length_take, List.length_drop]; show _ + 1 + _ ≤ 1000; omega)
    rw [← hV] at a2
    have J5 : ∃ J, T4 = S ++ J := ⟨_, by rw [hT4, hT3, hT2, hT1, List.append_assoc, List.append_assoc, List.append_assoc]⟩
    obtain ⟨J, hJ⟩ := J5
    have s0 := q_gc a2 (show gc S (.ok (.obj T4.length) (T4 ++ [.lst (V.map .str)])) = .ok (.obj S.length) (S ++ [.lst (V.map .str)]) by
      rw [hJ, List.append_assoc]
      exact gc_deep (by rw [List.length_append]; omega) (by rw [← List.append_assoc]; exact get_last))
    obtain ⟨T5, hT5⟩ : ∃ T, T = S ++ [PO.lst (V.map .str)] := ⟨_, rfl⟩
    rw [← hT5] at s0
    have e5 : T5[S.length]? = some (.lst (V.map .str)) := by rw [hT5]; exact get_last
    have sx : eLst (aCons (eK (.str "x")) aNil) ([some (.obj S.length), some (.int (c : Int)), some (.str L), some (.int (at_ : Int)), some (.int (m : Int)), some (.int (p : Int)), none] : Sl) T5 = .ok (.obj T5.length) (T5 ++ [.lst ((["x"] : List Str).map .str)]) := q_lst (q_cons q_k q_nil) rfl
    have a3 := add_lines (a := eVar 0) (xs := V) (ys := (["x"] : List Str)) (q_var (ρ := [some (.obj S.length), some (.int (c : Int)), some (.str L), some (.int (at_ : Int)), some (.int (m : Int)), some (.int (p : Int)), none]) (i := 0) rfl) (get_app e5) sx rfl (by rw [lV]; show _ + 1 ≤ 1000; omega)
    have s6 := q_gc a3 (q_n2 (S := T5) (strs_bnds _ (V ++ (["x"] : List Str))))
    have sm : ((V ++ (["x"] : List Str)).map (·.length)).sum + (V ++ (["x"] : List Str)).length ≤ 50000 := small_of (fun v hv => by
      rcases List.mem_append.mp hv with hv | hv
      · exact (okV' v hv).2
      · rw [List.mem_singleton.mp hv]; decide +kernel) (by rw [List.length_append, lV]; show _ + 1 ≤ 100; omega)
    have lx := listed_eq (q := T5.length) (ws := V ++ (["x"] : List Str)) (S := T5 ++ [.lst ((V ++ (["x"] : List Str)).map .str)]) get_last sm
    have rx := q_gc (q_call (n := 1) (q_cons s6 q_nil) rfl lx) (q_g1 (S := T5) rfl)
    refine tex (w := lineW (V ++ (["x"] : List Str))) ?_ (bad_line (fun v hv => by
      rcases List.mem_append.mp hv with hv | hv
      · exact (okV' v hv).1
      · rw [List.mem_singleton.mp hv]; decide +kernel) (joinL_two (by rw [List.length_map, List.length_append, lV]; show 2 ≤ _ + 1 + 1; omega)) sm (w := "x") (List.mem_append_right _ (.head _)) (by decide +kernel))
    refine head ?_
    (apply st_yes; · (repeat' (first | with_reducible apply (t1) | contradiction))); (try dsimp only [List.set_cons_succ, List.set_cons_zero])
    refine st_assoc ?_
    (apply st_set; · (repeat' (first | with_reducible apply (lq e) | with_reducible apply (mp _) | contradiction))); (try dsimp only [List.set_cons_succ, List.set_cons_zero])
    refine st_assoc ?_
    (apply st_set; · (repeat' (first | with_reducible apply (s0) | contradiction))); (try dsimp only [List.set_cons_succ, List.set_cons_zero])
    refine st_ret _ _ rx ?_
    exact ⟨_, by rw [hT5]⟩
  · have h0 : k ≠ 0 := fun z => first (.inl z)
    have hne : ws ≠ [] := fun z => first (.inr z)
    have n1 : 1 ≤ n := by rw [hn]; exact List.length_pos_iff.mpr hne
    have t1 : tGc (cOr (tBl (eBin eqV (eBin modV (eVar 1) (eK (.int 8))) (eK (.int 0)))) (tBl (eBin eqV (eVar 0) (eLst aNil)))) ([some (.obj q), some (.int (c : Int)), some (.str L), some (.int (at_ : Int)), some (.int (m : Int)), none, none] : Sl) S = .ok false S := by
      have el := eqL_nil hw e
      rw [decide_eq_false hne] at el
      exact q_tgc (q_or0 (no 0 rfl (by omega)) (q_tbl (q_bin (q_var rfl) (q_lst q_nil rfl) el))) q_gT1
    have head2 : ∀ {G : SR → Prop}, G (spRest ([some (.obj q), some (.int (c : Int)), some (.str L), some (.int (at_ : Int)), some (.int (m : Int)), none, none] : Sl) S) → G (b_law_spoiled ([some (.obj q), some (.int (c : Int)), none, none, none, none, none] : Sl) S) := fun {G} g => by
      refine head ?_
      (apply st_no; · (repeat' (first | with_reducible apply (t1) | contradiction))); (try dsimp only [List.set_cons_succ, List.set_cons_zero])
      exact g
    have I0 : I ≠ [] := by
      rw [hI]
      obtain ⟨w, r, hwr⟩ := List.exists_cons_of_ne_nil hne
      exact joinL_ne (p := tl w) (by rw [hwr]; exact .head _) (isNum_ne (hw.num w (by rw [hwr]; exact .head _)))
    have lt3 : ∀ {ρ : Sl} {T : Store}, ρ[1]? = some (some (.int (c : Int))) → tBl (eBin ltV (eBin modV (eVar 1) (eK (.int 8))) (eK (.int 3))) ρ T = .ok (decide ((k : Int) < 3)) T := fun {ρ T} h => q_tbl (q_bin (q_bin (q_var h) q_k (m8 _)) q_k q_lt)
    by_cases k3 : k < 3
    · -- another word in a number's place
      have t2 := lt3 (ρ := ([some (.obj q), some (.int (c : Int)), some (.str L), some (.int (at_ : Int)), some (.int (m : Int)), none, none] : Sl)) (T := S) rfl
      rw [decide_eq_true (by omega)] at t2
      obtain ⟨p, hp, pl⟩ : ∃ p, m % n = p ∧ p < n := ⟨_, rfl, Nat.mod_lt _ (by omega)⟩
      have mp : ∀ U, modV (.int (m : Int)) (.int (n : Int)) U = .ok (.int (p : Int)) U := fun U => by rw [← hp]; exact md m _ (by omega) U
      obtain ⟨w0, ow, w1, w2, w3⟩ := odd_eq (m / 41) S
      obtain ⟨w, hwd⟩ : ∃ w : Str, w = if w0 = "" ∧ n = 1 then ("x" : Str) else w0 := ⟨_, rfl⟩
      have wf : isNumL (tl w) = false ∧ 44 ∉ tl w ∧ w.length ≤ 100 ∧ (n = 1 → tl w ≠ []) := by
        rw [hwd]
        split
        · exact ⟨by decide +kernel, by decide +kernel, by decide +kernel, fun _ => by decide +kernel⟩
        · rename_i h
          exact ⟨w1, w2, w3, fun h1 z => h ⟨str_ext (by rw [z]; rfl), h1⟩⟩
      obtain ⟨f1, f2, f3, f4⟩ := wf
      obtain ⟨T1, hT1⟩ : ∃ T, T = S ++ [PO.lst ((ws.take p).map .str)] := ⟨_, rfl⟩
      obtain ⟨T2, hT2⟩ : ∃ T, T = T1 ++ [PO.lst ([w].map .str)] := ⟨_, rfl⟩
      obtain ⟨T3, hT3⟩ : ∃ T, T = T2 ++ [PO.lst ((ws.take p ++ [w]).map .str)] := ⟨_, rfl⟩
      obtain ⟨T4, hT4⟩ : ∃ T, T = T3 ++ [PO.lst ((ws.drop (p + 1)).map .str)] := ⟨_, rfl⟩
      obtain ⟨V, hV⟩ : ∃ V, V = ws.take p ++ [w] ++ ws.drop (p + 1) := ⟨_, rfl⟩
      have lV : V.length = n := by rw [hV, List.length_append, List.length_append, List.length_take, List.length_drop, ← hn]; show min p n + 1 + (n - (p + 1)) = n; omega
      have okV' : ∀ v ∈ V, 44 ∉ tl v ∧ v.length ≤ 100 := fun v hv => by
        rw [hV] at hv
        rcases List.mem_append.mp hv with hv | hv
        · exact nw (p := p) f2 f3 v (List.mem_append_left _ hv)
        · exact ⟨hw.free v (List.mem_of_mem_drop hv), Nat.le_trans (isNum_len (hw.num v (List.mem_of_mem_drop hv))) (by decide)⟩
      have e3 : T3[q]? = some (.lst (ws.map .str)) := by rw [hT3, hT2, hT1]; exact get_app (get_app (get_app e))
      have st := slice_take (i := 0) (j := 5) (ρ := ([some (.obj q), some (.int (c : Int)), some (.str L), some (.int (at_ : Int)), some (.int (m : Int)), some (.int (p : Int)), some (.str w)] : Sl)) (k := p) rfl rfl e
      rw [← hT1] at st
      have so : eLst (aCons (eVar 6) aNil) ([some (.obj q), some (.int (c : Int)), some (.str L), some (.int (at_ : Int)), some (.int (m : Int)), some (.int (p : Int)), some (.str w)] : Sl) T1 = .ok (.obj T1.length) T2 := by
        rw [hT2]
        exact q_lst (q_cons (q_var rfl) q_nil) rfl
      have a1 := add_lines (xs := ws.take p) (ys := [w]) st (by rw [hT2, hT1]; exact get_app get_last) so hT2 (by rw [List.length_take]; show _ + 1 ≤ 1000; omega)
      rw [← hT3] at a1
      have ap : addV (.int (p : Int)) (.int 1) T3 = .ok (.int ((p + 1 : Nat) : Int)) T3 := by
        rw [q_add]
        have : (p : Int) + 1 = ((p + 1 : Nat) : Int) := by push_cast; rfl
        rw [this]
      have sd := slice_drop (i := 0) (k := p + 1) (ce := eBin addV (eVar 5) (eK (.int 1))) (ρ := ([some (.obj q), some (.int (c : Int)), some (.str L), some (.int (at_ : Int)), some (.int (m : Int)), some (.int (p : Int)), some (.str w)] : Sl)) rfl (q_bin (q_var rfl) q_k ap) e3
      rw [← hT4] at sd
      have a2 := add_lines (xs := ws.take p ++ [w]) (ys := ws.drop (p + 1)) (i := T2.length) a1 (by rw [hT4, hT3]; exact get_app get_last) sd hT4 (by rw [List.length_append, List.length_take, List.length_drop]; show _ + 1 + _ ≤ 1000; omega)
      rw [← hV] at a2
      obtain ⟨J, hJ⟩ : ∃ J, T4 = S ++ J := ⟨_, by rw [hT4, hT3, hT2, hT1, List.append_assoc, List.append_assoc, List.append_assoc]⟩
      have s0 := q_gc a2 (show gc S (.ok (.obj T4.length) (T4 ++ [.lst (V.map .str)])) = .ok (.obj S.length) (S ++ [.lst (V.map .str)]) by
        rw [hJ, List.append_assoc]
        exact gc_deep (by rw [List.length_append]; omega) (by rw [← List.append_assoc]; exact get_last))
      have sm : (V.map (·.length)).sum + V.length ≤ 50000 := small_of (fun v hv => (okV' v hv).2) (by omega)
      have lx := listed_eq (q := S.length) (ws := V) (S := S ++ [.lst (V.map .str)]) get_last sm
      have rx := q_gc (q_call (n := 1) (q_cons s0 q_nil) rfl lx) (q_g1 (S := S) rfl)
      have jn : joinL [44] (V.map tl) ≠ [] := by
        by_cases h1 : n = 1
        · exact joinL_ne (p := tl w) (List.mem_map.mpr ⟨w, by rw [hV]; exact List.mem_append_left _ (List.mem_append_right _ (.head _)), rfl⟩) (f4 h1)
        · exact joinL_two (by rw [List.length_map, lV]; omega)
      refine tex (w := lineW V) ?_ (bad_line (fun v hv => (okV' v hv).1) jn sm (w := w) (by rw [hV]; exact List.mem_append_left _ (List.mem_append_right _ (.head _))) f1)
      refine head2 ?_
      unfold spRest
      (apply st_yes; · (repeat' (first | with_reducible apply (t2) | contradiction))); (try dsimp only [List.set_cons_succ, List.set_cons_zero])
      refine st_assoc ?_
      (apply st_set; · (repeat' (first | with_reducible apply (lq e) | with_reducible apply (mp _) | contradiction))); (try dsimp only [List.set_cons_succ, List.set_cons_zero])
      refine st_assoc ?_
      (apply st_set; · (repeat' (first | with_reducible apply (d41 _) | with_reducible apply (ow) | contradiction))); (try dsimp only [List.set_cons_succ, List.set_cons_zero])
      refine st_assoc ?_
      have t3 : cAnd (tBl (eBin eqV (eVar 6) (eK (.str "")))) (tBl (eBin eqV (eB lenV (aCons (eVar 0) aNil)) (eK (.int 1)))) ([some (.obj q), some (.int (c : Int)), some (.str L), some (.int (at_ : Int)), some (.int (m : Int)), some (.int (p : Int)), some (.str w0)] : Sl) S = .ok (decide (w0 = "") && decide ((n : Int) = 1)) S := q_and (q_tbl (q_bin (q_var rfl) q_k q_eqS)) (q_tbl (q_bin (q_b (q_cons (q_var rfl) q_nil) (lq e)) q_k q_eqI))
      refine st_nx (P := fun ρ T => ρ = ([some (.obj q), some (.int (c : Int)), some (.str L), some (.int (at_ : Int)), some (.int (m : Int)), some (.int (p : Int)), some (.str w)] : Sl) ∧ T = S) (nx_if t3 (fun h => nx_set _ _ q_k ⟨?_, rfl⟩) fun h => ⟨_, _, rfl, ?_, rfl⟩) ?_
      · obtain ⟨h1, h2⟩ := Bool.and_eq_true_iff.mp h
        rw [hwd, if_pos ⟨of_decide_eq_true h1, by have := of_decide_eq_true h2; omega⟩]
        rfl
      · rw [hwd, if_neg]
        rintro ⟨h1, h2⟩
        rw [decide_eq_true h1, decide_eq_true (by omega)] at h
        cases h
      rintro ρ T ⟨rfl, hT⟩
      rw [hT]
      exact st_ret _ _ rx Rt'.here
    · have t2 := lt3 (ρ := ([some (.obj q), some (.int (c : Int)), some (.str L), some (.int (at_ : Int)), some (.int (m : Int)), none, none] : Sl)) (T := S) rfl
      rw [decide_eq_false (by omega)] at t2
      have zL : L.length ≤ sizeLine := line2 (by omega)
      have head3 : ∀ {G : SR → Prop}, G (spRest3 ([some (.obj q), some (.int (c : Int)), some (.str L), some (.int (at_ : Int)), some (.int (m : Int)), none, none] : Sl) S) → G (b_law_spoiled ([some (.obj q), some (.int (c : Int)), none, none, none, none, none] : Sl) S) := fun {G} g => by
        refine head2 ?_
        unfold spRest
        (apply st_no; · (repeat' (first | with_reducible apply (t2) | contradiction))); (try dsimp only [List.set_cons_succ, List.set_cons_zero])
        exact g
      have cL91 : (tl L).count 91 = 1 := by rw [tL, List.count_cons_self, List.count_append, i91]; rfl
      have cL93 : (tl L).count 93 = 1 := by rw [tL, List.count_cons_of_ne (by decide), List.count_append, i93]; rfl
      have lt1 : ∀ (w : Str), (∃ a b, tl w = ((tl L).drop a).take b) → w.length ≤ 50002 := fun w ⟨a, b, h⟩ => by
        rw [len_tl, h, List.length_take, List.length_drop]
        rw [len_tl] at lL
        omega
      obtain ⟨A, hA⟩ : ∃ A, A = cutS L none (some (at_ : Int)) := ⟨_, rfl⟩
      obtain ⟨B, hB⟩ : ∃ B, B = cutS L (some (at_ : Int)) none := ⟨_, rfl⟩
      have tA : tl A = (tl L).take at_ := by rw [hA, tl_take]
      have tB : tl B = (tl L).drop at_ := by rw [hB, tl_drop]
      have lA : A.length ≤ 50002 := lt1 A ⟨0, at_, tA⟩
      have lB : B.length ≤ 50002 := lt1 B ⟨at_, (tl L).length, by rw [tB, List.take_of_length_le (by rw [List.length_drop]; omega)]⟩
      have sA : ∀ T, sliceV (.str L) none (some (at_ : Int)) T = .ok (.str A) T := fun T => by rw [hA]; exact if_pos zL
      have sB : ∀ T, sliceV (.str L) (some (at_ : Int)) none T = .ok (.str B) T := fun T => by rw [hB]; exact if_pos zL
      obtain k3 | k4 | k5 | k6 | k7 : k = 3 ∨ k = 4 ∨ k = 5 ∨ k = 6 ∨ k = 7 := by omega
      · -- a sign more
        obtain ⟨j, hj, j8⟩ : ∃ j, m / 7 % 8 = j ∧ j < 8 := ⟨_, rfl, Nat.mod_lt _ (by decide)⟩
        have d7 : ∀ U, fdivV (.int (m : Int)) (.int 7) U = .ok (.int ((m / 7 : Nat) : Int)) U := fun U => dvn m 7 (by decide) (by decide) U
        have mj : ∀ U, modV (.int ((m / 7 : Nat) : Int)) (.int 8) U = .ok (.int (j : Int)) U := fun U => by rw [← hj]; exact md _ 8 (by decide) U
        obtain ⟨sg, hsg⟩ : ∃ sg, sgnK[j]? = some sg := ⟨_, List.getElem?_eq_getElem (by exact j8)⟩
        have cs : ([[91], [93], [32], [40], [97], [59], [10], [43]] : List (List Nat))[j]? = some (tl sg) := by rw [← sgnK_codes, List.getElem?_map, hsg]; rfl
        have lsg : sg.length = 1 := by
          rw [len_tl]
          have := List.mem_of_getElem? cs
          simp only [List.mem_cons, List.not_mem_nil, or_false] at this
          rcases this with h | h | h | h | h | h | h | h <;> rw [h] <;> rfl
        obtain ⟨T1, hT1⟩ : ∃ T, T = S ++ [PO.lst (sgnK.map .str)] := ⟨_, rfl⟩
        have el : eLst (aCons (eK (.str "[")) (aCons (eK (.str "]")) (aCons (eK (.str " ")) (aCons (eK (.str "(")) (aCons (eK (.str "a")) (aCons (eK (.str ";")) (aCons (eK (.str "\n")) (aCons (eK (.str "+")) aNil)))))))) ([some (.obj q), some (.int (c : Int)), some (.str L), some (.int (at_ : Int)), some (.int (m : Int)), none, none] : Sl) S = .ok (.obj S.length) T1 := by
          rw [hT1]
          exact q_lst (q_cons q_k (q_cons q_k (q_cons q_k (q_cons q_k (q_cons q_k (q_cons q_k (q_cons q_k (q_cons q_k q_nil)))))))) rfl
        have gs : getV (.obj S.length) (.int (j : Int)) T1 = .ok (.str sg) T1 := q_gl (by rw [hT1]; exact get_last) (by rw [List.getElem?_map, hsg]; rfl)
        have a1 : addV (.str A) (.str sg) T1 = .ok (.str (A ++ sg)) T1 := add_s (by omega) (by omega) T1
        have a2 : addV (.str (A ++ sg)) (.str B) T1 = .ok (.str ((A ++ sg) ++ B)) T1 := add_s (by rw [str_app_len]; omega) (by omega) T1
        have rx := q_gc (q_bin (q_bin (q_slice (q_var (ρ := ([some (.obj q), some (.int (c : Int)), some (.str L), some (.int (at_ : Int)), some (.int (m : Int)), none, none] : Sl)) (i := 2) rfl) q_onone (q_osome (q_var (i := 3) rfl)) (sA _)) (q_bin el (q_bin (q_bin (q_var (i := 4) rfl) (q_k (x := .int 7)) (d7 _)) (q_k (x := .int 8)) (mj _)) gs) a1) (q_slice (q_var (i := 2) rfl) (q_osome (q_var (i := 3) rfl)) q_onone (sB _)) a2) (show gc S (.ok (.str ((A ++ sg) ++ B)) T1) = .ok (.str ((A ++ sg) ++ B)) S by rw [hT1]; exact q_g1 rfl)
        have tw : tl ((A ++ sg) ++ B) = (tl L).take at_ ++ tl sg ++ (tl L).drop at_ := by rw [tl_append, tl_append, tA, tB]
        refine tex (w := (A ++ sg) ++ B) ?_ (bad_count (by rw [str_app_len, str_app_len]; omega) ?_)
        · refine head3 ?_
          unfold spRest3
          (apply st_yes; · (repeat' (first | with_reducible apply (yes 3 rfl (by omega)) | contradiction))); (try dsimp only [List.set_cons_succ, List.set_cons_zero])
          exact st_ret _ _ rx Rt'.here
        · rw [tw]
          have := List.mem_of_getElem? cs
          simp only [List.mem_cons, List.not_mem_nil, or_false] at this
          rcases this with h | h | h | h | h | h | h | h <;> rw [h]
          · exact .inl (by rw [count_ins, cL91]; decide)
          · exact .inr (.inl (by rw [count_ins, cL93]; decide))
          all_goals exact .inr (.inr ⟨_, List.mem_append_left _ (List.mem_append_right _ (.head _)), by decide⟩)
      · -- a bracket left out
        obtain ⟨j, hj, j5⟩ : ∃ j, m % 5 = j ∧ j < 5 := ⟨_, rfl, Nat.mod_lt _ (by decide)⟩
        have mj : ∀ U, modV (.int (m : Int)) (.int 5) U = .ok (.int (j : Int)) U := fun U => by rw [← hj]; exact md _ 5 (by decide) U
        obtain ⟨w1, hw1⟩ : ∃ w, w = cutS L (some 1) none := ⟨_, rfl⟩
        obtain ⟨w2, hw2⟩ : ∃ w, w = cutS L none (some (-1)) := ⟨_, rfl⟩
        obtain ⟨w3, hw3⟩ : ∃ w, w = cutS L (some 1) (some (-1)) := ⟨_, rfl⟩
        have t1 : tl w1 = I ++ [93] := by rw [hw1, show (1 : Int) = ((1 : Nat) : Int) from rfl, tl_drop, tL]; rfl
        have t2' : tl w2 = 91 :: I := by
          rw [hw2, tl_init, tL]
          show (91 :: (I ++ [93])).take ((I ++ [93]).length + 1 - 1) = _
          rw [Nat.add_sub_cancel, show (I ++ [93] : List Nat).length = (91 :: I).length by simp]
          exact List.take_left (l₁ := 91 :: I) (l₂ := [93])
        have t3 : tl w3 = I := by
          rw [hw3, tl_inner, tL]
          show (I ++ [93]).take _ = _
          rw [show (91 :: (I ++ [93])).length - 2 = I.length by simp, List.take_left]
        have lI : I.length ≤ 50002 := by
          rw [len_tl, tL, List.length_cons] at lL
          rw [List.length_append] at lL
          omega
        have l1 : w1.length ≤ 50003 := by rw [len_tl, t1, List.length_append]; show _ + 1 ≤ _; omega
        have l2 : w2.length ≤ 50003 := by rw [len_tl, t2', List.length_cons]; omega
        have l3 : w3.length ≤ 50003 := by rw [len_tl, t3]; omega
        obtain ⟨V, hV⟩ : ∃ V : List Str, V = ([w1, w2, w3, ("(" : Str) ++ w1, w2 ++ (")" : Str)] : List Str) := ⟨_, rfl⟩
        have s1 : ∀ T, sliceV (.str L) (some 1) none T = .ok (.str w1) T := fun T => by rw [hw1]; exact if_pos zL
        have s2 : ∀ T, sliceV (.str L) none (some (-1)) T = .ok (.str w2) T := fun T => by rw [hw2]; exact if_pos zL
        have s3 : ∀ T, sliceV (.str L) (some 1) (some (-1)) T = .ok (.str w3) T := fun T => by rw [hw3]; exact if_pos zL
        have a1 : ∀ T, addV (.str "(") (.str w1) T = .ok (.str ("(" ++ w1)) T := fun T => add_s (by decide +kernel) (by omega) T
        have a2 : ∀ T, addV (.str w2) (.str ")") T = .ok (.str (w2 ++ ")")) T := fun T => add_s (by omega) (by decide +kernel) T
        have v2 : ∀ {T : Store}, (eVar 2 : CE PV) ([some (.obj q), some (.int (c : Int)), some (.str L), some (.int (at_ : Int)), some (.int (m : Int)), none, none] : Sl) T = .ok (.str L) T := fun {T} => q_var rfl
        have el : eLst (aCons (eSlice (eVar 2) (oSome (eK (.int 1))) oNone) (aCons (eSlice (eVar 2) oNone (oSome (eNeg (eK (.int 1))))) (aCons (eSlice (eVar 2) (oSome (eK (.int 1))) (oSome (eNeg (eK (.int 1))))) (aCons (eBin addV (eK (.str "(")) (eSlice (eVar 2) (oSome (eK (.int 1))) oNone)) (aCons (eBin addV (eSlice (eVar 2) oNone (oSome (eNeg (eK (.int 1))))) (eK (.str ")"))) aNil))))) ([some (.obj q), some (.int (c : Int)), some (.str L), some (.int (at_ : Int)), some (.int (m : Int)), none, none] : Sl) S = .ok (.obj S.length) (S ++ [.lst (V.map .str)]) := by
          rw [hV]
          exact q_lst (q_cons (q_slice v2 (q_osome q_k) q_onone (s1 _)) (q_cons (q_slice v2 q_onone (q_osome (q_neg q_k)) (s2 _)) (q_cons (q_slice v2 (q_osome q_k) (q_osome (q_neg q_k)) (s3 _)) (q_cons (q_bin q_k (q_slice v2 (q_osome q_k) q_onone (s1 _)) (a1 _)) (q_cons (q_bin (q_slice v2 q_onone (q_osome (q_neg q_k)) (s2 _)) q_k (a2 _)) q_nil))))) rfl
        have lV : V.length = 5 := by rw [hV]; rfl
        obtain ⟨w, hwj⟩ : ∃ w, V[j]? = some w := ⟨_, List.getElem?_eq_getElem (by omega)⟩
        have gj : getV (.obj S.length) (.int (j : Int)) (S ++ [.lst (V.map .str)]) = .ok (.str w) (S ++ [.lst (V.map .str)]) := q_gl get_last (by rw [List.getElem?_map, hwj]; rfl)
        have rx := q_gc (q_bin el (q_bin (q_var (i := 4) rfl) (q_k (x := .int 5)) (mj _)) gj) (q_g1 (S := S) rfl)
        have hm5 := List.mem_of_getElem? hwj
        have wb : BadW w := by
          rw [hV] at hm5
          simp only [List.mem_cons, List.not_mem_nil, or_false] at hm5
          rcases hm5 with h | h | h | h | h <;> rw [h]
          · exact bad_count (by omega) (.inl (by rw [t1, List.count_append, i91]; decide))
          · exact bad_count (by omega) (.inr (.inl (by rw [t2', List.count_cons_of_ne (by decide), i93]; decide)))
          · exact bad_count (by omega) (.inl (by rw [t3, i91]; decide))
          · refine bad_count (by rw [str_app_len, show ("(" : Str).length = 1 by decide +kernel]; omega) (.inl ?_)
            rw [tl_append, t1, show tl ("(" : Str) = [40] by kernel_rfl, List.count_append, List.count_append, i91]
            decide
          · refine bad_count (by rw [str_app_len, show (")" : Str).length = 1 by decide +kernel]; omega) (.inr (.inl ?_))
            rw [tl_append, t2', show tl (")" : Str) = [41] by kernel_rfl, List.count_append, List.count_cons_of_ne (by decide), i93]
            decide
        refine tex (w := w) ?_ wb
        refine head3 ?_
        unfold spRest3
        (apply st_no; · (repeat' (first | with_reducible apply (no 3 rfl (by omega)) | contradiction))); (try dsimp only [List.set_cons_succ, List.set_cons_zero])
        (apply st_yes; · (repeat' (first | with_reducible apply (yes 4 rfl (by omega)) | contradiction))); (try dsimp only [List.set_cons_succ, List.set_cons_zero])
        exact st_ret _ _ rx Rt'.here
      · -- too many
        obtain ⟨r, hr, r3⟩ : ∃ r, m % 3 = r ∧ r < 3 := ⟨_, rfl, Nat.mod_lt _ (by decide)⟩
        have mr : ∀ U, modV (.int (m : Int)) (.int 3) U = .ok (.int (r : Int)) U := fun U => by rw [← hr]; exact md _ 3 (by decide) U
        obtain ⟨z, hz⟩ : ∃ z, z = 41 - n + r := ⟨_, rfl⟩
        have sb : ∀ U, subV (.int 41) (.int (n : Int)) U = .ok (.int ((41 - n : Nat) : Int)) U := fun U => by
          rw [q_sub]
          have : (41 : Int) - (n : Int) = ((41 - n : Nat) : Int) := by omega
          rw [this]
        have ad : ∀ U, addV (.int ((41 - n : Nat) : Int)) (.int (r : Int)) U = .ok (.int (z : Int)) U := fun U => by
          rw [q_add, hz]
          have : ((41 - n : Nat) : Int) + (r : Int) = ((41 - n + r : Nat) : Int) := by push_cast; rfl
          rw [this]
        obtain ⟨T1, hT1⟩ : ∃ T, T = S ++ [PO.lst ((["7"] : List Str).map .str)] := ⟨_, rfl⟩
        have e1 : T1[q]? = some (.lst (ws.map .str)) := by rw [hT1]; exact get_app e
        have fl : ∀ k : Nat, (List.replicate k ((["7"] : List Str).map PV.str)).flatten = (List.replicate k ("7" : Str)).map .str := fun k => by
          induction k with
          | zero => rfl
          | succ k ih => rw [List.replicate_succ, List.flatten_cons, ih]; rfl
        have mu : mulV (.obj S.length) (.int (z : Int)) T1 = .ok (.obj T1.length) (T1 ++ [.lst ((List.replicate z ("7" : Str)).map .str)]) := by
          unfold mulV
          have g : T1[S.length]? = some (.lst ((["7"] : List Str).map .str)) := by rw [hT1]; exact get_last
          simp only [g]
          rw [if_pos ⟨by omega, by omega, line2 (by show 1 * (z : Int).toNat ≤ _; rw [Int.toNat_natCast]; omega)⟩, Int.toNat_natCast, fl]
        have es : eBin mulV (eLst (aCons (eK (.str "7")) aNil)) (eBin addV (eBin subV (eK (.int 41)) (eB lenV (aCons (eVar 0) aNil))) (eBin modV (eVar 4) (eK (.int 3)))) ([some (.obj q), some (.int (c : Int)), some (.str L), some (.int (at_ : Int)), some (.int (m : Int)), none, none] : Sl) S = .ok (.obj T1.length) (T1 ++ [.lst ((List.replicate z ("7" : Str)).map .str)]) := by
          refine q_bin (x := .obj S.length) (S1 := T1) (by rw [hT1]; exact q_lst (q_cons q_k q_nil) rfl) (q_bin (q_bin q_k (q_b (q_cons (q_var rfl) q_nil) (lq e1)) (sb _)) (q_bin (q_var rfl) q_k (mr _)) (ad _)) mu
        have a1 : eBin addV (eVar 0) (eBin mulV (eLst (aCons (eK (.str "7")) aNil)) (eBin addV (eBin subV (eK (.int 41)) (eB lenV (aCons (eVar 0) aNil))) (eBin modV (eVar 4) (eK (.int 3))))) ([some (.obj q), some (.int (c : Int)), some (.str L), some (.int (at_ : Int)), some (.int (m : Int)), none, none] : Sl) S = .ok (.obj (T1 ++ [PO.lst ((List.replicate z ("7" : Str)).map .str)]).length) (T1 ++ [.lst ((List.replicate z ("7" : Str)).map .str)] ++ [.lst ((ws ++ List.replicate z ("7" : Str)).map .str)]) := by
          rw [List.map_append]
          exact q_bin (q_var rfl) es (q_addL (get_app e1) get_last (by rw [List.length_map, List.length_map, List.length_replicate]; omega))
        have s0 := q_gc a1 (show gc S (.ok (.obj (T1 ++ [PO.lst ((List.replicate z ("7" : Str)).map .str)]).length) (T1 ++ [.lst ((List.replicate z ("7" : Str)).map .str)] ++ [.lst ((ws ++ List.replicate z ("7" : Str)).map .str)])) = .ok (.obj S.length) (S ++ [.lst ((ws ++ List.replicate z ("7" : Str)).map .str)]) by
          rw [hT1]
          exact q_n3 (strs_bnds _ _))
        obtain ⟨V, hV⟩ : ∃ V, V = ws ++ List.replicate z ("7" : Str) := ⟨_, rfl⟩
        rw [← hV] at s0
        have wV : ∀ v ∈ V, isNumL (tl v) = true := fun v hv => by
          rw [hV] at hv
          rcases List.mem_append.mp hv with hv | hv
          · exact hw.num v hv
          · rw [(List.mem_replicate.mp hv).2]; decide +kernel
        have lV : V.length = n + z := by rw [hV, List.length_append, List.length_replicate, hn]
        have sm : (V.map (·.length)).sum + V.length ≤ 50000 := small_of (fun v hv => Nat.le_trans (isNum_len (wV v hv)) (by decide)) (by omega)
        have lx := listed_eq (q := S.length) (ws := V) (S := S ++ [.lst (V.map .str)]) get_last sm
        have rx := q_gc (q_call (n := 1) (q_cons s0 q_nil) rfl lx) (q_g1 (S := S) rfl)
        have tell := listO_line (ws := V) (fun z => by rw [z] at lV; simp at lV; omega) (fun v hv c => by
          rcases isNum_chars (wV v hv) 44 c with q | q <;> revert q <;> decide) (joinL_two (by rw [List.length_map, lV]; omega))
        rw [if_pos (List.all_eq_true.mpr wV)] at tell
        refine tex (w := lineW V) ?_ ⟨by have := len_lineW sm; omega, fun zs e => by
          rw [tell] at e
          rw [← Option.some.inj e, List.length_map, lV]
          omega⟩
        refine head3 ?_
        unfold spRest3
        (apply st_no; · (repeat' (first | with_reducible apply (no 3 rfl (by omega)) | contradiction))); (try dsimp only [List.set_cons_succ, List.set_cons_zero])
        (apply st_no; · (repeat' (first | with_reducible apply (no 4 rfl (by omega)) | contradiction))); (try dsimp only [List.set_cons_succ, List.set_cons_zero])
        (apply st_yes; · (repeat' (first | with_reducible apply (yes 5 rfl (by omega)) | contradiction))); (try dsimp only [List.set_cons_succ, List.set_cons_zero])
        exact st_ret _ _ rx Rt'.here
      · -- texts of another shape
        obtain ⟨j, hj, j6⟩ : ∃ j, m % 6 = j ∧ j < 6 := ⟨_, rfl, Nat.mod_lt _ (by decide)⟩
        have mj : ∀ U, modV (.int (m : Int)) (.int 6) U = .ok (.int (j : Int)) U := fun U => by rw [← hj]; exact md _ 6 (by decide) U
        obtain ⟨V, hV⟩ : ∃ V : List Str, V = ([".", "(.,5,.)", "nil", "", "[.]", "[[]]"] : List Str) := ⟨_, rfl⟩
        have el : eLst (aCons (eK (.str ".")) (aCons (eK (.str "(.,5,.)")) (aCons (eK (.str "nil")) (aCons (eK (.str "")) (aCons (eK (.str "[.]")) (aCons (eK (.str "[[]]")) aNil)))))) ([some (.obj q), some (.int (c : Int)), some (.str L), some (.int (at_ : Int)), some (.int (m : Int)), none, none] : Sl) S = .ok (.obj S.length) (S ++ [.lst (V.map .str)]) := by
          rw [hV]
          exact q_lst (q_cons q_k (q_cons q_k (q_cons q_k (q_cons q_k (q_cons q_k (q_cons q_k q_nil)))))) rfl
        have lV : V.length = 6 := by rw [hV]; rfl
        obtain ⟨w, hwj⟩ : ∃ w, V[j]? = some w := ⟨_, List.getElem?_eq_getElem (by omega)⟩
        have gj : getV (.obj S.length) (.int (j : Int)) (S ++ [.lst (V.map .str)]) = .ok (.str w) (S ++ [.lst (V.map .str)]) := q_gl get_last (by rw [List.getElem?_map, hwj]; rfl)
        have rx := q_gc (q_bin el (q_bin (q_var (i := 4) rfl) (q_k (x := .int 6)) (mj _)) gj) (q_g1 (S := S) rfl)
        have hm6 := List.mem_of_getElem? hwj
        have wb : BadW w := by
          rw [hV] at hm6
          simp only [List.mem_cons, List.not_mem_nil, or_false] at hm6
          rcases hm6 with h | h | h | h | h | h <;> rw [h]
          · exact bad_count (by decide +kernel) (.inl (by decide +kernel))
          · exact bad_count (by decide +kernel) (.inl (by decide +kernel))
          · exact bad_count (by decide +kernel) (.inl (by decide +kernel))
          · exact bad_count (by decide +kernel) (.inl (by decide +kernel))
          · exact bad_count (by decide +kernel) (.inr (.inr ⟨46, by decide +kernel, by decide⟩))
          · exact bad_count (by decide +kernel) (.inl (by decide +kernel))
        refine tex (w := w) ?_ wb
        refine head3 ?_
        unfold spRest3
        (apply st_no; · (repeat' (first | with_reducible apply (no 3 rfl (by omega)) | contradiction))); (try dsimp only [List.set_cons_succ, List.set_cons_zero])
        (apply st_no; · (repeat' (first | with_reducible apply (no 4 rfl (by omega)) | contradiction))); (try dsimp only [List.set_cons_succ, List.set_cons_zero])
        (apply st_no; · (repeat' (first | with_reducible apply (no 5 rfl (by omega)) | contradiction))); (try dsimp only [List.set_cons_succ, List.set_cons_zero])
        (apply st_yes; · (repeat' (first | with_reducible apply (yes 6 rfl (by omega)) | contradiction))); (try dsimp only [List.set_cons_succ, List.set_cons_zero])
        exact st_ret _ _ rx Rt'.here
      · -- no texts
        obtain ⟨j, hj, j6⟩ : ∃ j, m % 6 = j ∧ j < 6 := ⟨_, rfl, Nat.mod_lt _ (by decide)⟩
        have mj : ∀ U, modV (.int (m : Int)) (.int 6) U = .ok (.int (j : Int)) U := fun U => by rw [← hj]; exact md _ 6 (by decide) U
        obtain ⟨V, hV⟩ : ∃ V : List PV, V = [.non, .int 7, .tup [.str "[]"], .obj S.length, .bl true, .tup []] := ⟨_, rfl⟩
        have el : eLst (aCons (eK .non) (aCons (eK (.int 7)) (aCons (eTup (aCons (eK (.str "[]")) aNil)) (aCons (eLst (aCons (eK (.str "[]")) aNil)) (aCons (eK (.bl true)) (aCons (eTup aNil) aNil)))))) ([some (.obj q), some (.int (c : Int)), some (.str L), some (.int (at_ : Int)), some (.int (m : Int)), none, none] : Sl) S = .ok (.obj (S ++ [PO.lst [.str "[]"]]).length) (S ++ [.lst [.str "[]"]] ++ [.lst V]) := by
          rw [hV]
          exact q_lst (q_cons q_k (q_cons q_k (q_cons (q_tup (q_cons q_k q_nil) rfl) (q_cons (q_lst (q_cons q_k q_nil) rfl) (q_cons q_k (q_cons (q_tup q_nil rfl) q_nil)))))) rfl
        have ev : ∀ {x : PV}, V[j]? = some x → eBin getV (eLst (aCons (eK .non) (aCons (eK (.int 7)) (aCons (eTup (aCons (eK (.str "[]")) aNil)) (aCons (eLst (aCons (eK (.str "[]")) aNil)) (aCons (eK (.bl true)) (aCons (eTup aNil) aNil))))))) (eBin modV (eVar 4) (eK (.int 6))) ([some (.obj q), some (.int (c : Int)), some (.str L), some (.int (at_ : Int)), some (.int (m : Int)), none, none] : Sl) S = .ok x (S ++ [.lst [.str "[]"]] ++ [.lst V]) := fun {x} h => q_bin el (q_bin (q_var (i := 4) rfl) (q_k (x := .int 6)) (mj _)) (q_gl get_last h)
        have fin : ∀ {x : PV} {T : Store}, V[j]? = some x → gc S (.ok x (S ++ [.lst [.str "[]"]] ++ [.lst V])) = .ok x T → gc S (m_law_spoiled [.obj q, .int (c : Int)] S) = gc S (.ok x T) := fun {x T} h1 h2 => by
          have : b_law_spoiled ([some (.obj q), some (.int (c : Int)), none, none, none, none, none] : Sl) S = .ret x T := by
            refine head3 (G := fun r => r = .ret x T) ?_
            unfold spRest3
            refine st_no (G := fun r => r = .ret x T) S (no 3 (ρ := ([some (.obj q), some (.int (c : Int)), some (.str L), some (.int (at_ : Int)), some (.int (m : Int)), none, none] : Sl)) rfl (by omega)) ?_
            refine st_no (G := fun r => r = .ret x T) S (no 4 (ρ := ([some (.obj q), some (.int (c : Int)), some (.str L), some (.int (at_ : Int)), some (.int (m : Int)), none, none] : Sl)) rfl (by omega)) ?_
            refine st_no (G := fun r => r = .ret x T) S (no 5 (ρ := ([some (.obj q), some (.int (c : Int)), some (.str L), some (.int (at_ : Int)), some (.int (m : Int)), none, none] : Sl)) rfl (by omega)) ?_
            refine st_no (G := fun r => r = .ret x T) S (no 6 (ρ := ([some (.obj q), some (.int (c : Int)), some (.str L), some (.int (at_ : Int)), some (.int (m : Int)), none, none] : Sl)) rfl (by omega)) ?_
            exact end_ret (G := fun r => r = .ret x T) _ _ (q_gc (ev h1) h2) rfl
          show gc S (outS (b_law_spoiled ([some (.obj q), some (.int (c : Int)), none, none, none, none, none] : Sl) S)) = _
          rw [this]
          rfl
        have flat : ∀ {x : PV} {t : String}, V[j]? = some x → (∀ T, tyP x T = some t) → t ≠ "str" → bnd S.length x = true → SpR S (gc S (m_law_spoiled [.obj q, .int (c : Int)] S)) := fun {x t} h1 h2 h3 hb => .inr (.inl ⟨x, t, by rw [fin h1 (q_g2 hb), gc_self], h2, h3⟩)
        obtain h | h | h | h | h | h : j = 0 ∨ j = 1 ∨ j = 2 ∨ j = 3 ∨ j = 4 ∨ j = 5 := by omega
        · exact flat (x := .non) (t := "NoneType") (by rw [h, hV]; rfl) (fun T => rfl) (by decide) rfl
        · exact flat (x := .int 7) (t := "int") (by rw [h, hV]; rfl) (fun T => rfl) (by decide) rfl
        · exact flat (x := .tup [.str "[]"]) (t := "tuple") (by rw [h, hV]; rfl) (fun T => rfl) (by decide) rfl
        · have g := fin (x := .obj S.length) (T := S ++ [.lst [.str "[]"]]) (by rw [h, hV]; rfl) (by rw [List.append_assoc]; exact gc_new (Nat.le_refl _) (by rw [← List.append_assoc]; exact get_app get_last) rfl)
          exact .inr (.inr (by rw [g]; exact q_n1 rfl))
        · exact flat (x := .bl true) (t := "bool") (by rw [h, hV]; rfl) (fun T => rfl) (by decide) rfl
        · exact flat (x := .tup []) (t := "tuple") (by rw [h, hV]; rfl) (fun T => rfl) (by decide) rfl

end K80

set_option Elab.async false
set_option linter.all false
set_option maxRecDepth 100000
set_option maxHeartbeats 1000000
set_option exponentiation.threshold 40000
namespace K80
open PySem PySem.Spec PyProof.Rows L2 TL
local macro_rules
  | `(tactic| contradiction) => `(tactic| first | with_reducible assumption | ((with_reducible apply q_var); exact rfl) | ((with_reducible apply q_intB1); exact rfl) | ((with_reducible apply q_intB0); exact rfl) | with_reducible (first | apply q_k | apply q_nil | apply q_cons | apply q_bin | apply q_tup | apply q_tbl | apply q_b | apply q_call | apply q_g0 | apply q_gc | apply q_add | apply q_sub | apply q_mod | apply q_eqI | apply q_neI | apply q_lt | apply q_le | apply q_gtI | apply q_ge | apply q_eqS | apply q_neS | apply q_t0 | apply q_t1 | apply q_t2 | apply q_t3 | apply q_t4 | apply q_t5 | apply q_l0 | apply q_l1 | apply q_l2 | apply q_l3 | apply q_l4 | apply q_l5 | apply q_gl | apply q_gt | apply q_slice | apply q_onone | apply q_osome | apply q_slT | apply q_slR | apply q_slO | apply q_lst | apply q_dic | apply q_ttru | apply q_and | apply q_or | apply q_or0 | apply q_cnot | apply q_tgc0 | apply q_tgc1 | apply q_tgc | apply q_gT0 | apply q_gT1 | apply q_gT2 | apply q_gT3 | apply q_if | apply q_i1 | apply q_i0 | apply q_not | apply q_neg | apply q_chain1 | apply q_n1 | apply q_n2 | apply q_n3 | apply q_n4 | apply q_g1 | apply q_g2 | apply q_g3 | apply q_g4 | apply q_mul | apply q_div | apply q_is | apply q_isn | apply q_lenT | apply q_lenR | apply q_lenL | apply q_intB | apply q_any | apply q_itT | apply q_itR | apply q_itL | apply q_listL | apply q_listT | apply q_tupL | apply q_rng | apply q_addL | apply q_addT | apply q_m | apply q_isl | apply q_eand | apply q_eor | apply q_min | apply q_isBv | apply q_isnBv | apply q_app | apply q_clear | apply q_callX | apply get_last | apply get_app | apply q_eqI1 | apply q_eqI0 | apply q_neI1 | apply q_neI0 | apply q_lt1 | apply q_lt0 | apply q_le1 | apply q_le0 | apply q_gt1 | apply q_gt0 | apply q_ge1 | apply q_ge0 | apply q_cnot1 | apply q_cnot0 | apply bndO_l | apply bnd_t | apply bnds_ints | apply bnds_cut | apply q_seq | apply q_sne | apply q_gcf) | ((with_reducible apply lenq); exact rfl) | ((with_reducible apply bleq); exact rfl) | ((with_reducible apply inteq); first | exact rfl | omega) | ((with_reducible apply getq); exact rfl) | ((with_reducible apply bndq); exact rfl) | ((with_reducible apply bndOq); exact rfl) | ((with_reducible apply truq); exact rfl) | ((with_reducible apply bndsq); exact rfl) | ((with_reducible apply neq0); first | decide | omega) | ((with_reducible apply leqN); first | decide | omega | (simp only [List.length_append, List.length_map, List.length_range, List.length_cons, List.length_nil, List.length_take, List.length_reverse, List.length_replicate, List.length_drop]; omega)) | ((with_reducible apply ltI); omega) | ((with_reducible apply neN); first | assumption | omega) | ((with_reducible apply leI); omega) | ((with_reducible apply nltI); omega) | ((with_reducible apply nleI); omega) | (with_reducible exact mulOk_l (by decide)) | (with_reducible exact mulOk_r (by decide)))
/-! ### args shown -/
theorem show_list {zs : List Int} (hz : ∀ z ∈ zs, z.natAbs < 10 ^ 60) (hl : zs.length ≤ 50) (j : Nat) (S : Store) : gc S (m_show_arg (j + 1) [.str "list", .tup (zs.map .int)] S) = .ok (.str (lineW (zs.map tS))) S := by
  have e1 : ∀ U, eqV (.str "list") (.str "num") U = .ok (.bl false) U := fun U => by rw [q_eqS, show decide (("list" : Str) = "num") = false by kernel_rfl]
  have e2 : ∀ U, eqV (.str "list") (.str "list") U = .ok (.bl true) U := fun U => by rw [q_eqS, decide_eq_true rfl]
  refine gc_out (b := b_show_arg (m_show_arg j)) (n := 4) ?_ rfl
  show Rt' _ _ (b_show_arg (m_show_arg j) [some (.str "list"), some (.tup (zs.map .int)), none, none] S)
  unfold b_show_arg
  (apply st_no; · (repeat' (first | with_reducible apply (e1 _) | contradiction))); (try dsimp only [List.set_cons_succ, List.set_cons_zero])
  (apply st_yes; · (repeat' (first | with_reducible apply (e2 _) | contradiction))); (try dsimp only [List.set_cons_succ, List.set_cons_zero])
  have sm : (((zs.map tS).map (·.length)).sum + (zs.map tS).length) ≤ 50000 := by
    refine small_of (fun w hw => ?_) (by rw [List.length_map]; omega)
    obtain ⟨z, hz', rfl⟩ := List.mem_map.mp hw
    rw [len_tl, tl_zL]
    have := len_zL (hz z hz')
    omega
  have lc := eLc_tm (t := .name 3) (te := eB strV (aCons (eVar 3) aNil)) PV.int (fun z => .str (tS z)) zs [] (vs := [3]) (it := iAny (eVar 1)) (ρ := [some (.str "list"), some (.tup (zs.map .int)), none, none]) (S := S) (S1 := S) (q_any (q_var rfl) q_itT) (chk_nil _) (by omega) (fun z hz' => ⟨_, rfl, fun zs' => q_b (q_cons (q_var rfl) q_nil) (strV_tS (hz z hz') _)⟩)
  have mm : zs.map (fun z => PV.str (tS z)) = (zs.map tS).map .str := by rw [List.map_map]; rfl
  rw [mm] at lc
  have jn : eGc (eJoin (eK (.str ",")) (eLc (.name 3) (iAny (eVar 1)) tYes' (eB strV (aCons (eVar 3) aNil)) [3])) [some (.str "list"), some (.tup (zs.map .int)), none, none] S = .ok (.str (Txt.join "," (zs.map tS))) S := by
    refine q_gc (x := .str (Txt.join "," (zs.map tS))) (S1 := S ++ [.lst ((zs.map tS).map .str)]) ?_ (q_g1 rfl)
    rw [eJoin_ap, eK_ap, bind_ap]
    simp only
    rw [lc, bind_ap]
    unfold joinV lstOf
    simp only [get_last]
    rw [strsOf_map]
    simp only
    rw [if_pos (by rw [show ("," : Str).length = 1 by decide +kernel]; omega)]
  have jl : (Txt.join "," (zs.map tS)).length ≤ 50000 := by
    have := len_lineW sm
    rw [len_tl, tl_lineW] at this
    rw [len_tl, join_eq, tl_join, comma_tl]
    rw [List.length_cons, List.length_append] at this
    simp at this ⊢
    omega
  have a1 : addV (.str "[") (.str (Txt.join "," (zs.map tS))) S = .ok (.str ("[" ++ Txt.join "," (zs.map tS))) S := add_s (by decide +kernel) (by omega) S
  have a2 : addV (.str ("[" ++ Txt.join "," (zs.map tS))) (.str "]") S = .ok (.str (lineW (zs.map tS))) S := add_s (by rw [str_app_len, show ("[" : Str).length = 1 by decide +kernel]; omega) (by decide +kernel) S
  exact st_ret _ _ (q_gc (q_bin (q_bin q_k jn a1) q_k a2) q_g0) Rt'.here
theorem show_num {z : Int} (hz : z.natAbs < 10 ^ 60) (j : Nat) (S : Store) : gc S (m_show_arg (j + 1) [.str "num", .int z] S) = .ok (.str (tS z)) S := by
  have e1 : ∀ U, eqV (.str "num") (.str "num") U = .ok (.bl true) U := fun U => by rw [q_eqS, decide_eq_true rfl]
  refine gc_out (b := b_show_arg (m_show_arg j)) (n := 4) ?_ rfl
  show Rt' _ _ (b_show_arg (m_show_arg j) [some (.str "num"), some (.int z), none, none] S)
  unfold b_show_arg
  (apply st_yes; · (repeat' (first | with_reducible apply (e1 _) | contradiction))); (try dsimp only [List.set_cons_succ, List.set_cons_zero])
  (apply st_ret; · (repeat' (first | with_reducible apply (strV_tS hz _) | contradiction))); (try dsimp only [List.set_cons_succ, List.set_cons_zero])
  exact Rt'.here

def cellI (ns : List Int) (k : Nat) : Int := (ns.getD k 0).fmod (10 ^ 62)
theorem cellI_bd (ns : List Int) (k : Nat) : 0 ≤ cellI ns k ∧ cellI ns k < 10 ^ 62 := ⟨Int.fmod_nonneg_of_pos _ (by omega), Int.fmod_lt_of_pos _ (by omega)⟩
theorem cell_eq (ns : List Int) (k : Nat) (S : Store) (hl : ns.length ≤ 63) : m_law_cell_at [.rol (ns.map .int), .int k] S = .ok (.int (cellI ns k)) S := by
  simp only [m_law_cell_at, b_law_cell_at, runD_ap, startP_nil]
  by_cases h : k < ns.length
  · have h' : (k : Int) < (ns.length : Int) := by omega
    have g : atI (ns.map PV.int) (k : Int) = some (.int (ns.getD k 0)) := atI_nat (by
      rw [List.getElem?_map, List.getElem?_eq_getElem h]
      simp [List.getD, List.getElem?_eq_getElem h])
    simp [lenV, h', getV, g, cellI]
  · have h' : ¬ (k : Int) < (ns.length : Int) := by omega
    have g : cellI ns k = 0 := by simp [cellI, List.getD, List.getElem?_eq_none_iff.mpr (Nat.not_lt.mp h)]
    simp [lenV, h', g]

/-! ### a comprehension whose elements are known by a property alone -/
theorem lcN_ex {β : Type} {t : TT'} {te : CE PV} {ck : Chk} {d : Nat} {ρ : Sl} {S : Store} (g : β → PV) (P : Nat → β → Prop) (hd : d < S.length) (hck : ∀ zs, chk ck (S.set d (.lst zs))) :
    ∀ (xs acc : List PV) (n : Nat), acc.length + xs.length ≤ sizeLine → (∀ i x, xs[i]? = some x → ∃ ρ1, setT t x ρ = some ρ1 ∧ ∀ zs, ∃ y, P (n + i) y ∧ te ρ1 (S.set d (.lst zs)) = .ok (g y) (S.set d (.lst zs))) →
    ∃ ys : List β, ys.length = xs.length ∧ (∀ i y, ys[i]? = some y → P (n + i) y) ∧ lcN t tYes' te ck d ρ xs (S.set d (.lst acc)) = .ok (.obj d) (S.set d (.lst (acc ++ ys.map g)))
  | [], acc, n, _, _ => by
    refine ⟨[], rfl, fun i y h => by simp at h, ?_⟩
    unfold lcN
    rw [if_pos (hck acc)]
    simp
  | x :: xs, acc, n, hl, h => by
    obtain ⟨ρ1, e0, e1'⟩ := h 0 x rfl
    obtain ⟨y, py, e1⟩ := e1' acc
    obtain ⟨ys, l, p, ih⟩ := lcN_ex g P hd hck xs (acc ++ [g y]) (n + 1) (by simp at hl ⊢; omega) fun i z hz => by
      obtain ⟨ρ1, a, b⟩ := h (i + 1) z (by simpa using hz)
      exact ⟨ρ1, a, fun zs => by rw [show n + 1 + i = n + (i + 1) by omega]; exact b zs⟩
    refine ⟨y :: ys, by simp [l], fun i z hz => ?_, ?_⟩
    · cases i with
      | zero => simp at hz; subst hz; exact py
      | succ i => have := p i z (by simpa using hz); rw [show n + (i + 1) = n + 1 + i by omega]; exact this
    have e2 : (S.set d (.lst acc))[d]? = some (.lst acc) := List.getElem?_set_self hd
    have hz : acc.length < sizeLine := by simp at hl; omega
    unfold lcN
    rw [if_pos (hck acc), e0]
    show (match (Res.ok true (S.set d (.lst acc)) : Res Bool) with
      | .ok q S1 => if q = true then match te ρ1 S1 with
        | .ok y S2 => match S2[d]? with
          | some (.lst acc) => if acc.length < sizeLine then lcN t tYes' te ck d ρ xs (S2.set d (.lst (acc ++ [y]))) else .stuck
          | _ => .stuck
        | _ => .stuck
        else lcN t tYes' te ck d ρ xs S1
      | _ => .stuck) = _
    simp only [e1, e2, if_true, hz, List.set_set]
    rw [ih]
    simp
theorem eLc_ex {β : Type} {t : TT'} {te : CE PV} (g : β → PV) (P : Nat → β → Prop) {vs : List Nat} {it : CE (List PV × Chk)} {ρ : Sl} {S S1 : Store} {xs : List PV} {ck : Chk} (hi : it ρ S = .ok (xs, ck) S1) (hck : chk ck S1) (hl : xs.length ≤ 1000000)
    (h : ∀ i x, xs[i]? = some x → ∃ ρ1, setT t x (wipeP ρ vs) = some ρ1 ∧ ∀ zs, ∃ y, P i y ∧ te ρ1 (S1 ++ [.lst zs]) = .ok (g y) (S1 ++ [.lst zs])) : ∃ ys : List β, ys.length = xs.length ∧ (∀ i y, ys[i]? = some y → P i y) ∧ eLc t it tYes' te vs ρ S = .ok (.obj S1.length) (S1 ++ [.lst (ys.map g)]) := by
  obtain ⟨ys, l, p, e⟩ := lcN_ex (t := t) (te := te) (ck := ck) (d := S1.length) (ρ := wipeP ρ vs) (S := S1 ++ [.lst []]) g P (by simp) (by
    intro zs
    rw [set_top]
    exact fun p hp => get_app (hck p hp)) xs [] 0 (by have := line2 hl; simpa using this) (by
    intro i x hx
    obtain ⟨ρ1, e0, e1⟩ := h i x hx
    exact ⟨ρ1, e0, fun zs => by rw [set_top, Nat.zero_add]; exact e1 zs⟩)
  refine ⟨ys, l, fun i y hy => by have := p i y hy; rw [Nat.zero_add] at this; exact this, ?_⟩
  unfold eLc
  rw [hi]
  show lcN t tYes' te ck S1.length (wipeP ρ vs) xs (S1 ++ [.lst []]) = _
  rw [set_top, set_top] at e
  rw [e]
  simp

theorem whole_ok (i : Int) (S : Store) : m_law_whole [.int i] S = .ok (.bl true) S := by
  simp only [m_law_whole, b_law_whole, runD_ap, startP_nil]
  simp [isinstV, tyP, isSub]
/-! ### the law -/
theorem cellg (ns : List Int) (hl : ns.length ≤ 63) (k : Nat) (S : Store) : gc S (m_law_cell_at [.rol (ns.map .int), .int k] S) = .ok (.int (cellI ns k)) S := by rw [cell_eq ns k S hl, gc_self]
theorem wd_nums {zs : List Int} (hz : ∀ z ∈ zs, z.natAbs < 10 ^ 60) (hl : zs.length ≤ 40) : Wd (zs.map tS) := ⟨fun w hw => by
  obtain ⟨z, hz', rfl⟩ := List.mem_map.mp hw
  rw [tl_zL]
  exact isNum_zL (hz z hz'), by rw [List.length_map]; exact hl⟩
theorem numS_tS {z : Int} (hz : z.natAbs < 10 ^ 60) : numS (tS z) = z := by
  unfold numS
  rw [int_zL (tl_zL z) hz]
  rfl
theorem listO_nums {zs : List Int} (hz : ∀ z ∈ zs, z.natAbs < 10 ^ 60) (hl : zs.length ≤ 40) : listO (lineW (zs.map tS)) = some zs := by
  have wd := wd_nums hz hl
  cases zs with
  | nil => exact listO_nil
  | cons z zs =>
    rw [listO_line (by simp) wd.free (joinL_ne (p := tl (tS z)) (.head _) (isNum_ne (wd.num _ (.head _)))), if_pos (List.all_eq_true.mpr wd.num)]
    have : ((z :: zs).map tS).map numS = z :: zs := by
      rw [List.map_map]
      have h : ∀ y ∈ z :: zs, (numS ∘ tS) y = id y := fun y hy => numS_tS (hz y hy)
      rw [List.map_congr_left h, List.map_id]
    rw [this]
theorem eq_ints (g : Bool → Bool) (xs ys : List Int) (S : Store) : eqG g (.tup (xs.map .int)) (.tup (ys.map .int)) S = .ok (.bl (g (decide (xs = ys)))) S := by
  have := eqG_ok (k := 1) g (S := S) (by decide) (okV_tints xs) (okV_tints ys)
  rw [this]
  have : decide (PV.tup (xs.map .int) = .tup (ys.map .int)) = decide (xs = ys) := decide_eq_decide.mpr ⟨fun h => by
    have h := PV.tup.inj h
    exact (List.map_inj_right (fun a b h => PV.int.inj h)).mp h, fun h => by rw [h]⟩
  rw [this]
theorem refused_text {sh w : Str} {S : Store} (h : gc S (m_read_arg [.str sh, .str w] S) = outO S "NoValue" none) : gc S (m_law_refused [.str sh, .str w] S) = .ok (.bl true) S := refused_no h
theorem bad_refused {w : Str} (h : BadW w) (S : Store) : gc S (m_read_arg [.str "list", .str w] S) = .exc "NoValue" none S := by
  rw [read_list_eq w h.1 S]
  cases e : listO w with
  | none => rfl
  | some zs =>
    have := h.2 zs e
    show outO S "NoValue" (if zs.length ≤ 40 then _ else none) = _
    rw [if_neg (by omega)]
    rfl
theorem num_refused {w : Str} (hl : w.length ≤ 900000) (h : isNumL (tl w) = false) (S : Store) : gc S (m_read_arg [.str "num", .str w] S) = .exc "NoValue" none S := by
  rw [read_num_eq w hl S, h]
  rfl
set_option maxHeartbeats 4000000 in
theorem law_pure : ∀ ns : List Int, ns.length ≤ 63 → ∃ S, m_law [.rol (ns.map .int)] [] = .ok (.bl true) S := by
  intro ns hl
  refine Rt.out ?_
  show Rt (b_law ([some (.rol (ns.map .int)), none, none, none, none, none, none, none, none] : Sl) [])
  unfold b_law
  have cg : ∀ (k : Nat) U, gc U (m_law_cell_at [.rol (ns.map .int), .int (k : Int)] U) = .ok (.int (cellI ns k)) U := fun k U => cellg ns hl k U
  obtain ⟨x0, hx0⟩ := Int.eq_ofNat_of_zero_le (cellI_bd ns 0).1
  have c0 : ∀ U, gc U (m_law_cell_at [.rol (ns.map .int), .int 0] U) = .ok (.int (x0 : Int)) U := fun U => by rw [← hx0]; exact cg 0 U
  have c1 : ∀ U, gc U (m_law_cell_at [.rol (ns.map .int), .int 1] U) = .ok (.int (cellI ns 1)) U := cg 1
  generalize cellI ns 1 = x1 at c1
  -- the numbers
  obtain ⟨cl, hcl, lcl⟩ : ∃ l : List Int, cutP (ns.map PV.int) (some 2) (some 42) = l.map .int ∧ l.length ≤ 40 := by
    have e : cutP (ns.map PV.int) (some ((2 : Nat) : Int)) (some ((42 : Nat) : Int)) = ((ns.drop (min 2 ns.length)).take (min 42 ns.length - min 2 ns.length)).map .int := by
      unfold cutP
      rw [HT.sIx_nat, HT.sIx_nat, List.map_take, List.map_drop, List.length_map]
    exact ⟨_, e, by rw [List.length_take]; omega⟩
  have it1 : iAny (eSlice (eVar 0) (oSome (eK (.int 2))) (oSome (eK (.int 42)))) ([some (.rol (ns.map .int)), none, none, none, none, none, none, none, none] : Sl) [] = .ok (cl.map .int, [(0, .lst (cl.map .int))]) [.lst (cl.map .int)] := by
    refine q_any (x := .obj 0) (S1 := [.lst (cl.map .int)]) ?_ (q_itL rfl)
    rw [← hcl]
    exact q_slice (q_var rfl) (q_osome q_k) (q_osome q_k) (q_slR (S := []))
  obtain ⟨zs, lzs, pzs, s1⟩ := eLc_ex (t := .name 5) (te := eCall 1 m_law_number (aCons (eVar 5) aNil)) PV.int (fun _ z => z.natAbs < 10 ^ 60) (vs := [5]) it1 (fun p hp => by rw [List.mem_singleton.mp hp]; rfl) (by rw [List.length_map]; omega) (fun i x hx => by
    rw [List.getElem?_map] at hx
    obtain ⟨c, _, rfl⟩ := Option.map_eq_some_iff.mp hx
    refine ⟨_, rfl, fun ws => ?_⟩
    obtain ⟨z, hz, e⟩ := number_eq c ([PO.lst (cl.map .int)] ++ [.lst ws])
    exact ⟨z, hz, q_call (n := 1) (q_cons (q_var rfl) q_nil) rfl e⟩)
  rw [List.length_map] at lzs
  have hz : ∀ z ∈ zs, z.natAbs < 10 ^ 60 := fun z h => by
    obtain ⟨i, hi⟩ := List.getElem?_of_mem h
    exact pzs i z hi
  have lz : zs.length ≤ 40 := by omega
  (apply st_set; · (repeat' (first | with_reducible apply (s1) | contradiction))); (try dsimp only [List.set_cons_succ, List.set_cons_zero])
  obtain ⟨S1, hS1⟩ : ∃ S, S = [PO.lst (cl.map .int)] ++ [PO.lst (zs.map .int)] := ⟨_, rfl⟩
  rw [← hS1]
  have e1 : S1[1]? = some (.lst (zs.map .int)) := by rw [hS1]; rfl
  have l1 : S1.length = 2 := by rw [hS1]; rfl
  show Rt ((sSeq _ _) ([some (.rol (ns.map .int)), some (.obj 1), none, none, none, none, none, none, none] : Sl) S1)
  have s2 := eLc_tm (t := .name 8) (te := eB strV (aCons (eVar 8) aNil)) PV.int (fun z => .str (tS z)) zs [(1, .lst (zs.map .int))] (vs := [8]) (it := iAny (eVar 1)) (ρ := ([some (.rol (ns.map .int)), some (.obj 1), none, none, none, none, none, none, none] : Sl)) (S := S1) (S1 := S1) (q_any (q_var rfl) (q_itL e1)) (fun p hp => by rw [List.mem_singleton.mp hp]; exact e1) (by omega) (fun z hz' => ⟨_, rfl, fun zs' => q_b (q_cons (q_var rfl) q_nil) (strV_tS (hz z hz') _)⟩)
  have mm : zs.map (fun z => PV.str (tS z)) = (zs.map tS).map .str := by rw [List.map_map]; rfl
  rw [mm] at s2
  (apply st_set; · (repeat' (first | with_reducible apply (s2) | contradiction))); (try dsimp only [List.set_cons_succ, List.set_cons_zero])
  obtain ⟨S2, hS2⟩ : ∃ S, S = S1 ++ [PO.lst ((zs.map tS).map .str)] := ⟨_, rfl⟩
  rw [← hS2, l1]
  have f1 : S2[1]? = some (.lst (zs.map .int)) := by rw [hS2]; exact get_app e1
  have f2 : S2[2]? = some (.lst ((zs.map tS).map .str)) := by rw [hS2, ← l1]; exact get_last
  have wd := wd_nums hz lz
  obtain ⟨L, hL⟩ : ∃ L, L = lineW (zs.map tS) := ⟨_, rfl⟩
  have li := listed_eq f2 wd.small
  rw [← hL] at li
  (apply st_set; · (repeat' (first | with_reducible apply (li) | contradiction))); (try dsimp only [List.set_cons_succ, List.set_cons_zero])
  have lL : L.length ≤ 50002 := by rw [hL]; exact len_lineW wd.small
  have rd : ∀ U, gc U (m_read_arg [.str "list", .str L] U) = .ok (.tup (zs.map .int)) U := fun U => by
    rw [read_list_eq L (by omega) U, hL, listO_nums hz lz]
    show outO U "NoValue" (if zs.length ≤ 40 then _ else none) = _
    rw [if_pos lz]
    rfl
  (apply st_set; · (repeat' (first | with_reducible apply (rd _) | contradiction))); (try dsimp only [List.set_cons_succ, List.set_cons_zero])
  have tu : ∀ {U : Store}, U[1]? = some (.lst (zs.map .int)) → tupleV [.obj 1] U = .ok (.tup (zs.map .int)) U := fun h => q_tupL h
  have eqt : ∀ U, neV (.tup (zs.map .int)) (.tup (zs.map .int)) U = .ok (.bl false) U := fun U => (eq_ints (fun b => !b) zs zs U).trans (by rw [decide_eq_true rfl]; rfl)
  have ist : ∀ U, isinstV "tuple" [.tup (zs.map .int), .ty "tuple"] U = .ok (.bl true) U := fun U => by simp [isinstV, tyP, isSub]
  have sh : ∀ U, gc U (m_show_arg 30 [.str "list", .tup (zs.map .int)] U) = .ok (.str L) U := fun U => by rw [hL]; exact show_list hz (by omega) 29 U
  have nes : ∀ (w : Str) U, neV (.str w) (.str w) U = .ok (.bl false) U := fun w U => by rw [q_neS, decide_eq_true rfl]; rfl
  have t5 : cOr (cNot (tTru (eB (isinstV "tuple") (aCons (eVar 4) (aCons (eK (.ty "tuple")) aNil))))) (cOr (tBl (eBin neV (eVar 4) (eB tupleV (aCons (eVar 1) aNil)))) (tBl (eBin neV (eCall 2 (m_show_arg 30) (aCons (eK (.str "list")) (aCons (eB tupleV (aCons (eVar 1) aNil)) aNil))) (eVar 3)))) ([some (.rol (ns.map .int)), some (.obj 1), some (.obj 2), some (.str L), some (.tup (zs.map .int)), none, none, none, none] : Sl) S2 = .ok false S2 :=
    q_or0 (q_cnot0 (q_ttru (x := .bl true) (q_b (q_cons (q_var rfl) (q_cons q_k q_nil)) (ist _)) rfl)) (q_or0 (q_tbl (q_bin (q_var rfl) (q_b (q_cons (q_var rfl) q_nil) (tu f1)) (eqt _))) (q_tbl (q_bin (q_call (n := 2) (q_cons q_k (q_cons (q_b (q_cons (q_var rfl) q_nil) (tu f1)) q_nil)) rfl (sh _)) (q_var rfl) (nes _ _))))
  (apply st_no; · (repeat' (first | with_reducible apply (t5) | contradiction))); (try dsimp only [List.set_cons_succ, List.set_cons_zero])
  have lc := eLc_ty (t := .name 6) (te := eVar 6) (tt := tTru (eCall 1 m_law_whole (aCons (eVar 6) aNil))) PV.int PV.int (fun _ => true) zs [] (vs := [6]) (it := iAny (eVar 4)) (ρ := ([some (.rol (ns.map .int)), some (.obj 1), some (.obj 2), some (.str L), some (.tup (zs.map .int)), none, none, none, none] : Sl)) (S := S2) (S1 := S2) (q_any (q_var rfl) q_itT) (chk_nil _) (by omega) (fun z _ => ⟨_, rfl, fun ws => ⟨q_ttru (x := .bl true) (q_call (n := 1) (q_cons (q_var rfl) q_nil) rfl (by rw [whole_ok, gc_self])) rfl, fun _ => q_var rfl⟩⟩)
  rw [List.filter_eq_self.mpr fun _ _ => rfl] at lc
  have ln : eGc (eB lenV (aCons (eLc (.name 6) (iAny (eVar 4)) (tTru (eCall 1 m_law_whole (aCons (eVar 6) aNil))) (eVar 6) [6]) aNil)) ([some (.rol (ns.map .int)), some (.obj 1), some (.obj 2), some (.str L), some (.tup (zs.map .int)), none, none, none, none] : Sl) S2 = .ok (.int (zs.length : Int)) S2 := by
    have := q_gc (q_b (q_cons lc q_nil) (q_lenL get_last)) (q_g1 (S := S2) rfl)
    rw [List.length_map] at this
    exact this
  have ln2 : lenV [.obj 1] S2 = .ok (.int (zs.length : Int)) S2 := by rw [q_lenL f1, List.length_map]
  have t6 : tGc (tBl (eBin neV (eGc (eB lenV (aCons (eLc (.name 6) (iAny (eVar 4)) (tTru (eCall 1 m_law_whole (aCons (eVar 6) aNil))) (eVar 6) [6]) aNil))) (eB lenV (aCons (eVar 1) aNil)))) ([some (.rol (ns.map .int)), some (.obj 1), some (.obj 2), some (.str L), some (.tup (zs.map .int)), none, none, none, none] : Sl) S2 = .ok false S2 := q_tgc (q_tbl (q_bin ln (q_b (q_cons (q_var rfl) q_nil) ln2) (q_neI0 rfl))) q_gT0
  (apply st_no; · (repeat' (first | with_reducible apply (t6) | contradiction))); (try dsimp only [List.set_cons_succ, List.set_cons_zero])
  (apply st_set; · (repeat' (first | with_reducible apply (c0 _) | contradiction))); (try dsimp only [List.set_cons_succ, List.set_cons_zero])
  -- spoiled
  have sp := spoiled_eq (c := x0) wd f2
  have ref : ∃ T, eCall 2 m_law_refused (aCons (eK (.str "list")) (aCons (eCall 2 m_law_spoiled (aCons (eVar 2) (aCons (eVar 5) aNil))) aNil)) ([some (.rol (ns.map .int)), some (.obj 1), some (.obj 2), some (.str L), some (.tup (zs.map .int)), some (.int (x0 : Int)), none, none, none] : Sl) S2 = .ok (.bl true) T ∧ T[1]? = some (.lst (zs.map .int)) := by
    rcases sp with ⟨w, e, hb⟩ | ⟨x, t, e, ht, hn⟩ | e
    · exact ⟨S2, q_call (n := 2) (q_cons q_k (q_cons (q_call (n := 2) (q_cons (q_var rfl) (q_cons (q_var rfl) q_nil)) rfl e) q_nil)) rfl (refused_no (bad_refused hb S2)), f1⟩
    · exact ⟨S2, q_call (n := 2) (q_cons q_k (q_cons (q_call (n := 2) (q_cons (q_var rfl) (q_cons (q_var rfl) q_nil)) rfl e) q_nil)) rfl (refused_no (read_bad (ht S2) hn)), f1⟩
    · have ht : tyP (.obj S2.length) (S2 ++ [PO.lst [.str "[]"]]) = some "list" := by
        unfold tyP
        simp only [get_last]
      exact ⟨_, q_call (n := 2) (q_cons q_k (q_cons (q_call (n := 2) (q_cons (q_var rfl) (q_cons (q_var rfl) q_nil)) rfl e) q_nil)) rfl (refused_no (read_bad ht (by decide))), get_app f1⟩
  obtain ⟨T, re, g1⟩ := ref
  have t7 : cNot (tTru (eCall 2 m_law_refused (aCons (eK (.str "list")) (aCons (eCall 2 m_law_spoiled (aCons (eVar 2) (aCons (eVar 5) aNil))) aNil)))) ([some (.rol (ns.map .int)), some (.obj 1), some (.obj 2), some (.str L), some (.tup (zs.map .int)), some (.int (x0 : Int)), none, none, none] : Sl) S2 = .ok false T := q_cnot0 (q_ttru (x := .bl true) re rfl)
  (apply st_no; · (repeat' (first | with_reducible apply (t7) | contradiction))); (try dsimp only [List.set_cons_succ, List.set_cons_zero])
  -- one by itself
  obtain ⟨one, ho, ne⟩ := number_eq x1 T
  (apply st_set; · (repeat' (first | with_reducible apply (c1 _) | with_reducible apply (ne) | contradiction))); (try dsimp only [List.set_cons_succ, List.set_cons_zero])
  have rn : ∀ U, gc U (m_read_arg [.str "num", .str (tS one)] U) = .ok (.int one) U := fun U => by
    rw [read_num_eq (tS one) (by rw [len_tl, tl_zL]; have := len_zL ho; omega) U, tl_zL, isNum_zL ho, if_pos rfl, numS_tS ho]
    rfl
  have st1 : ∀ U, strV [.int one] U = .ok (.str (tS one)) U := fun U => strV_tS ho U
  (apply st_set; · (repeat' (first | with_reducible apply (st1 _) | with_reducible apply (rn _) | contradiction))); (try dsimp only [List.set_cons_succ, List.set_cons_zero])
  have wh : ∀ U, gc U (m_law_whole [.int one] U) = .ok (.bl true) U := fun U => by rw [whole_ok, gc_self]
  have sn : ∀ U, gc U (m_show_arg 30 [.str "num", .int one] U) = .ok (.str (tS one)) U := fun U => show_num ho 29 U
  have t8 : cOr (cNot (tTru (eCall 1 m_law_whole (aCons (eVar 4) aNil)))) (cOr (tBl (eBin neV (eVar 4) (eVar 6))) (tBl (eBin neV (eCall 2 (m_show_arg 30) (aCons (eK (.str "num")) (aCons (eVar 6) aNil))) (eB strV (aCons (eVar 6) aNil))))) ([some (.rol (ns.map .int)), some (.obj 1), some (.obj 2), some (.str L), some (.int one), some (.int (x0 : Int)), some (.int one), none, none] : Sl) T = .ok false T :=
    q_or0 (q_cnot0 (q_ttru (x := .bl true) (q_call (n := 1) (q_cons (q_var rfl) q_nil) rfl (wh _)) rfl)) (q_or0 (q_tbl (q_bin (q_var rfl) (q_var rfl) (q_neI0 rfl))) (q_tbl (q_bin (q_call (n := 2) (q_cons q_k (q_cons (q_var rfl) q_nil)) rfl (sn _)) (q_b (q_cons (q_var rfl) q_nil) (st1 _)) (nes _ _))))
  (apply st_no; · (repeat' (first | with_reducible apply (t8) | contradiction))); (try dsimp only [List.set_cons_succ, List.set_cons_zero])
  -- what is no number
  have d3 : ∀ U, fdivV (.int (x0 : Int)) (.int 3) U = .ok (.int ((x0 / 3 : Nat) : Int)) U := fun U => dvn x0 3 (by decide) (by decide) U
  obtain ⟨w, ow, w1, w2, w3⟩ := odd_eq (x0 / 3) T
  obtain ⟨V, hV⟩ : ∃ V : List PV, V = [.str w, .str L, .str ".", .non, .int one, .tup [.str (tS one)]] := ⟨_, rfl⟩
  have el : eLst (aCons (eCall 1 m_law_odd (aCons (eBin fdivV (eVar 5) (eK (.int 3))) aNil)) (aCons (eVar 3) (aCons (eK (.str ".")) (aCons (eK .non) (aCons (eVar 6) (aCons (eTup (aCons (eB strV (aCons (eVar 6) aNil)) aNil)) aNil)))))) ([some (.rol (ns.map .int)), some (.obj 1), some (.obj 2), some (.str L), some (.int one), some (.int (x0 : Int)), some (.int one), none, none] : Sl) T = .ok (.obj T.length) (T ++ [.lst V]) := by
    rw [hV]
    exact q_lst (q_cons (q_call (n := 1) (q_cons (q_bin (q_var rfl) q_k (d3 _)) q_nil) rfl ow) (q_cons (q_var rfl) (q_cons q_k (q_cons q_k (q_cons (q_var rfl) (q_cons (q_tup (q_cons (q_b (q_cons (q_var rfl) q_nil) (st1 _)) q_nil) rfl) q_nil)))))) rfl
  obtain ⟨j, hj, j6⟩ : ∃ j, x0 % 6 = j ∧ j < 6 := ⟨_, rfl, Nat.mod_lt _ (by decide)⟩
  have mj : ∀ U, modV (.int (x0 : Int)) (.int 6) U = .ok (.int (j : Int)) U := fun U => by rw [← hj]; exact md x0 6 (by decide) U
  have lV : V.length = 6 := by rw [hV]; rfl
  obtain ⟨y, hy⟩ : ∃ y, V[j]? = some y := ⟨_, List.getElem?_eq_getElem (by omega)⟩
  have ym := List.mem_of_getElem? hy
  have yb : (∀ n, bnd n y = true) ∧ gc T (m_law_refused [.str "num", y] T) = .ok (.bl true) T := by
    rw [hV] at ym
    simp only [List.mem_cons, List.not_mem_nil, or_false] at ym
    rcases ym with h | h | h | h | h | h <;> rw [h]
    · exact ⟨fun _ => rfl, refused_no (num_refused (by omega) w1 T)⟩
    · exact ⟨fun _ => rfl, refused_no (num_refused (by omega) (isNum_bad (c := 91) (by rw [hL, tl_lineW]; exact .head _) (by decide)) T)⟩
    · exact ⟨fun _ => rfl, refused_no (num_refused (by decide +kernel) (by decide +kernel) T)⟩
    · exact ⟨fun _ => rfl, refused_no (read_bad (t := "NoneType") rfl (by decide))⟩
    · exact ⟨fun _ => rfl, refused_no (read_bad (t := "int") rfl (by decide))⟩
    · exact ⟨fun _ => rfl, refused_no (read_bad (t := "tuple") rfl (by decide))⟩
  have s7 := q_gc (q_bin el (q_bin (q_var (i := 5) rfl) (q_k (x := .int 6)) (mj _)) (q_gl get_last hy)) (q_g1 (yb.1 _))
  (apply st_set; · (repeat' (first | with_reducible apply (s7) | contradiction))); (try dsimp only [List.set_cons_succ, List.set_cons_zero])
  have r2 : gc T (m_law_refused [.str "list", .str (tS one)] T) = .ok (.bl true) T := by
    refine refused_no (bad_refused (bad_count (by rw [len_tl, tl_zL]; have := len_zL ho; omega) (.inl ?_)) T)
    rw [tl_zL, List.count_eq_zero.mpr (zL_free one (by decide) (by decide))]
    decide
  have eqv : ∀ U, eqV (.tup (zs.map .int)) (.tup (zs.map .int)) U = .ok (.bl true) U := fun U => (eq_ints id zs zs U).trans (by rw [decide_eq_true rfl]; rfl)
  have fin : eAnd (eCall 2 m_law_refused (aCons (eK (.str "num")) (aCons (eVar 7) aNil))) (eAnd (eCall 2 m_law_refused (aCons (eK (.str "list")) (aCons (eB strV (aCons (eVar 6) aNil)) aNil))) (eBin eqV (eCall 2 m_read_arg (aCons (eK (.str "list")) (aCons (eVar 3) aNil))) (eB tupleV (aCons (eVar 1) aNil)))) ([some (.rol (ns.map .int)), some (.obj 1), some (.obj 2), some (.str L), some (.int one), some (.int (x0 : Int)), some (.int one), some y, none] : Sl) T = .ok (.bl true) T :=
    q_eand (k := true) (k' := true) (q_call (n := 2) (q_cons q_k (q_cons (q_var rfl) q_nil)) rfl yb.2) (q_eand (k := true) (k' := true) (q_call (n := 2) (q_cons q_k (q_cons (q_b (q_cons (q_var rfl) q_nil) (st1 _)) q_nil)) rfl r2) (q_bin (q_call (n := 2) (q_cons q_k (q_cons (q_var rfl) q_nil)) rfl (rd _)) (q_b (q_cons (q_var rfl) q_nil) (tu g1)) (eqv _)))
  exact ⟨T, by rw [sRet_ap, fin]; rfl⟩


end K80

set_option Elab.async false
set_option linter.all false
set_option maxRecDepth 100000
set_option maxHeartbeats 0
/-! each def of law_k80_numbers_and_lists keeps its promise; the head; the law's end (printed by gen.py) -/
namespace K80
open PySem PySem.Spec PyProof.Rows L2 TL
def top (i : Nat) : Stmt := PySem.Challenge.pw_toll_k80_numbers_and_lists.main.body.getD i (.Pass ⟨0, 0, 0, 0⟩)
abbrev N_is_number : List Str := ["word", "figures", "sign"]
theorem sc_is_number : FnScope N_is_number ["word"] (defScope (top 8)) := ⟨rfl, rfl, rfl, by decide +kernel, rfl, by decide +kernel, by decide +kernel⟩
abbrev N_size_of : List Str := ["shape", "value", "many", "left", "part"]
theorem sc_size_of : FnScope N_size_of ["shape", "value"] (defScope (top 10)) := ⟨rfl, rfl, rfl, by decide +kernel, rfl, by decide +kernel, by decide +kernel⟩
abbrev N_tree_at : List Str := ["text", "at", "deep", "left", "end", "number", "right"]
theorem sc_tree_at : FnScope N_tree_at ["text", "at", "deep"] (defScope (top 13)) := ⟨rfl, rfl, rfl, by decide +kernel, rfl, by decide +kernel, by decide +kernel⟩
abbrev N_tree_told : List Str := ["text", "tree", "end"]
theorem sc_tree_told : FnScope N_tree_told ["text"] (defScope (top 14)) := ⟨rfl, rfl, rfl, by decide +kernel, rfl, by decide +kernel, by decide +kernel⟩
abbrev N_list_told : List Str := ["text", "parts", "part"]
theorem sc_list_told : FnScope N_list_told ["text"] (defScope (top 15)) := ⟨rfl, rfl, rfl, by decide +kernel, rfl, by decide +kernel, by decide +kernel⟩
abbrev N_read_arg : List Str := ["shape", "text", "value"]
theorem sc_read_arg : FnScope N_read_arg ["shape", "text"] (defScope (top 16)) := ⟨rfl, rfl, rfl, by decide +kernel, rfl, by decide +kernel, by decide +kernel⟩
abbrev N_show_arg : List Str := ["shape", "value", "left", "number"]
theorem sc_show_arg : FnScope N_show_arg ["shape", "value"] (defScope (top 17)) := ⟨rfl, rfl, rfl, by decide +kernel, rfl, by decide +kernel, by decide +kernel⟩
abbrev N__law_cell_at : List Str := ["_law_script", "_law_k"]
theorem sc__law_cell_at : FnScope N__law_cell_at ["_law_script", "_law_k"] (defScope (top 19)) := ⟨rfl, rfl, rfl, by decide +kernel, rfl, by decide +kernel, by decide +kernel⟩
abbrev N__law_whole : List Str := ["_law_found"]
theorem sc__law_whole : FnScope N__law_whole ["_law_found"] (defScope (top 20)) := ⟨rfl, rfl, rfl, by decide +kernel, rfl, by decide +kernel, by decide +kernel⟩
abbrev N__law_refused : List Str := ["_law_shape", "_law_thing", "_law_told", "e"]
theorem sc__law_refused : FnScope N__law_refused ["_law_shape", "_law_thing"] (defScope (top 21)) := ⟨rfl, rfl, rfl, by decide +kernel, rfl, by decide +kernel, by decide +kernel⟩
abbrev N__law_number : List Str := ["_law_cell"]
theorem sc__law_number : FnScope N__law_number ["_law_cell"] (defScope (top 22)) := ⟨rfl, rfl, rfl, by decide +kernel, rfl, by decide +kernel, by decide +kernel⟩
abbrev N__law_odd : List Str := ["_law_cell", "_law_number_here", "_law_some"]
theorem sc__law_odd : FnScope N__law_odd ["_law_cell"] (defScope (top 23)) := ⟨rfl, rfl, rfl, by decide +kernel, rfl, by decide +kernel, by decide +kernel⟩
abbrev N__law_listed : List Str := ["_law_words"]
theorem sc__law_listed : FnScope N__law_listed ["_law_words"] (defScope (top 24)) := ⟨rfl, rfl, rfl, by decide +kernel, rfl, by decide +kernel, by decide +kernel⟩
abbrev N__law_spoiled : List Str := ["_law_words", "_law_cell", "_law_line", "_law_at", "_law_more", "_law_place", "_law_odd_here"]
theorem sc__law_spoiled : FnScope N__law_spoiled ["_law_words", "_law_cell"] (defScope (top 25)) := ⟨rfl, rfl, rfl, by decide +kernel, rfl, by decide +kernel, by decide +kernel⟩
abbrev N_law : List Str := ["_law_script", "_law_numbers", "_law_words", "_law_line", "_law_found", "_law_cell", "_law_one", "_law_bad", "_law_number_here"]
theorem sc_law : FnScope N_law ["_law_script"] (defScope (top 26)) := ⟨rfl, rfl, rfl, by decide +kernel, rfl, by decide +kernel, by decide +kernel⟩
def dd (nm : Str) (i : Nat) : He.DefD := ⟨(nm, none), nm, nm, defArgs (top i), defBody (top i), defScope (top i), [], []⟩
def dm (C nm ql : Str) (i k : Nat) : He.DefD := ⟨(C, some nm), nm, ql, defArgs (inClass (top i) k), defBody (inClass (top i) k), defScope (inClass (top i) k), [], []⟩
def fn : List He.DefD := [dd "is_number" 8, dd "size_of" 10, dd "tree_at" 13, dd "tree_told" 14, dd "list_told" 15, dd "read_arg" 16, dd "show_arg" 17, dd "_law_cell_at" 19, dd "_law_whole" 20, dd "_law_refused" 21, dd "_law_number" 22, dd "_law_odd" 23, dd "_law_listed" 24, dd "_law_spoiled" 25, dd "law" 26]
def fa : List He.Fa := [.free "ValueError", .free "bool", .free "int", .free "isinstance", .free "len", .free "str", .free "tuple", .glo "is_number", .glo "size_of", .glo "tree_at", .glo "tree_told", .glo "list_told", .glo "read_arg", .glo "show_arg", .glo "_law_cell_at", .glo "_law_whole", .glo "_law_refused", .glo "_law_number", .glo "_law_odd", .glo "_law_listed", .glo "_law_spoiled", .glo "law", .glo "NoValue", .exc "NoValue"]
def names0 : List PySem.Str := ["TollError", "NoText", "NoFunction", "NoValue", "NoRow", "FIGURES", "is_number", "size_of", "MOST", "tree_at", "tree_told", "list_told", "read_arg", "show_arg", "_law_cell_at", "_law_whole", "_law_refused", "_law_number", "_law_odd", "_law_listed", "_law_spoiled"]
def names : List PySem.Str := names0
def exk (K : PySem.W.Frag) : Bool := (exB exNames exSub K) && exCons.all fun p => conB K p.1 p.2
abbrev R : PySem.W.OpenRow := PySem.W.OpenLaw.row PySem.Challenge.rw_toll_k80_numbers_and_lists
abbrev hk : PySem.W.Hook := hookT' 4 fa fn exk
def ob (s : PySem.W.SharedT) : AlT' := obsT' 4 fa fn exk (HandSHeadRun.getT s)
theorem ob_eq (s : PySem.W.SharedT) : ob s = hk.obs s.abs := obsT'_eq (HandSHeadRun.getT_eq s)
theorem run (w : World) : HandSHeadRun.RunEq R (PySem.W.view R.prog [26]) hk ob 20000 names w := by
  intro os
  kernel_rfl
structure Tx (K : PySem.W.Frag) (mg : Str → Option Value) : Prop where
  n_ValueError : mg "ValueError" = none
  n_bool : mg "bool" = none
  n_int : mg "int" = none
  n_isinstance : mg "isinstance" = none
  n_len : mg "len" = none
  n_str : mg "str" = none
  n_tuple : mg "tuple" = none
  g_is_number : mg "is_number" = some (.ref (He.ga K "is_number"))
  d_is_number : ∃ fd, FunD K "is_number" "is_number" (defArgs (top 8)) (defBody (top 8)) (defScope (top 8)) [] [] (He.ga K "is_number") fd
  g_size_of : mg "size_of" = some (.ref (He.ga K "size_of"))
  d_size_of : ∃ fd, FunD K "size_of" "size_of" (defArgs (top 10)) (defBody (top 10)) (defScope (top 10)) [] [] (He.ga K "size_of") fd
  g_tree_at : mg "tree_at" = some (.ref (He.ga K "tree_at"))
  d_tree_at : ∃ fd, FunD K "tree_at" "tree_at" (defArgs (top 13)) (defBody (top 13)) (defScope (top 13)) [] [] (He.ga K "tree_at") fd
  g_tree_told : mg "tree_told" = some (.ref (He.ga K "tree_told"))
  d_tree_told : ∃ fd, FunD K "tree_told" "tree_told" (defArgs (top 14)) (defBody (top 14)) (defScope (top 14)) [] [] (He.ga K "tree_told") fd
  g_list_told : mg "list_told" = some (.ref (He.ga K "list_told"))
  d_list_told : ∃ fd, FunD K "list_told" "list_told" (defArgs (top 15)) (defBody (top 15)) (defScope (top 15)) [] [] (He.ga K "list_told") fd
  g_read_arg : mg "read_arg" = some (.ref (He.ga K "read_arg"))
  d_read_arg : ∃ fd, FunD K "read_arg" "read_arg" (defArgs (top 16)) (defBody (top 16)) (defScope (top 16)) [] [] (He.ga K "read_arg") fd
  g_show_arg : mg "show_arg" = some (.ref (He.ga K "show_arg"))
  d_show_arg : ∃ fd, FunD K "show_arg" "show_arg" (defArgs (top 17)) (defBody (top 17)) (defScope (top 17)) [] [] (He.ga K "show_arg") fd
  g__law_cell_at : mg "_law_cell_at" = some (.ref (He.ga K "_law_cell_at"))
  d__law_cell_at : ∃ fd, FunD K "_law_cell_at" "_law_cell_at" (defArgs (top 19)) (defBody (top 19)) (defScope (top 19)) [] [] (He.ga K "_law_cell_at") fd
  g__law_whole : mg "_law_whole" = some (.ref (He.ga K "_law_whole"))
  d__law_whole : ∃ fd, FunD K "_law_whole" "_law_whole" (defArgs (top 20)) (defBody (top 20)) (defScope (top 20)) [] [] (He.ga K "_law_whole") fd
  g__law_refused : mg "_law_refused" = some (.ref (He.ga K "_law_refused"))
  d__law_refused : ∃ fd, FunD K "_law_refused" "_law_refused" (defArgs (top 21)) (defBody (top 21)) (defScope (top 21)) [] [] (He.ga K "_law_refused") fd
  g__law_number : mg "_law_number" = some (.ref (He.ga K "_law_number"))
  d__law_number : ∃ fd, FunD K "_law_number" "_law_number" (defArgs (top 22)) (defBody (top 22)) (defScope (top 22)) [] [] (He.ga K "_law_number") fd
  g__law_odd : mg "_law_odd" = some (.ref (He.ga K "_law_odd"))
  d__law_odd : ∃ fd, FunD K "_law_odd" "_law_odd" (defArgs (top 23)) (defBody (top 23)) (defScope (top 23)) [] [] (He.ga K "_law_odd") fd
  g__law_listed : mg "_law_listed" = some (.ref (He.ga K "_law_listed"))
  d__law_listed : ∃ fd, FunD K "_law_listed" "_law_listed" (defArgs (top 24)) (defBody (top 24)) (defScope (top 24)) [] [] (He.ga K "_law_listed") fd
  g__law_spoiled : mg "_law_spoiled" = some (.ref (He.ga K "_law_spoiled"))
  d__law_spoiled : ∃ fd, FunD K "_law_spoiled" "_law_spoiled" (defArgs (top 25)) (defBody (top 25)) (defScope (top 25)) [] [] (He.ga K "_law_spoiled") fd
  g_law : mg "law" = some (.ref (He.ga K "law"))
  d_law : ∃ fd, FunD K "law" "law" (defArgs (top 26)) (defBody (top 26)) (defScope (top 26)) [] [] (He.ga K "law") fd
  r_NoValue : RaiseF K mg "NoValue"
  ex : ExT K mg exNames exSub
  c_FIGURES : CstF K mg "FIGURES" k_FIGURES
  c_MOST : CstF K mg "MOST" k_MOST
section
variable {P : Program} {w : World} {K : PySem.W.Frag} {mg : Str → Option Value} {base : Heap}
theorem ok_is_number (T : Tx K mg) : DefOk P w K mg base 1 "is_number" ["word"] m_is_number := by
  obtain ⟨fd, F⟩ := T.d_is_number
  refine defOk_mk (N := N_is_number) (k := 0) (b := b_is_number) F sc_is_number (fun us hl kV doc pm an cdv ct => match us, hl with | [_], _ => by kernel_rfl) T.g_is_number (fun cdv A outer s H E hr => ?_)
  unfold b_is_number
  exact (dss_cons (ds_set 1 sc_is_number.nd (de_var 0))
    (dss_cons (ds_if (dt_gc (dt_cmp (op_eqX (hu64 hr)) (op2_eqG _) (de_slice (de_var 0) do_none (do_some de_int)) de_str)) (dss_one (ds_set 1 sc_is_number.nd (de_gc (de_slice (de_var 0) (do_some de_int) do_none)))) dss_nil)
    (dss_cons (ds_if (dt_w (dw_or (dt_not (dt_chain op_le op2_le op_le op2_le de_int (de_B call_len opC_len T.n_len (da_cons (de_var 1) da_nil)) de_int)) (dw_or1 (dt_w (dw_and (dt_cmp (op_eqX (hu64 hr)) (op2_eqG _) (de_ix (hu1 hr) (de_var 1) de_int) de_str) (dw_and1 (dt_cmp (op_neX (hu64 hr)) (op2_eqG _) (de_var 0) de_str))))))) (dss_one (ds_ret de_bl)) dss_nil)
    (dss_cons (ds_for poD rfl (di_any (de_var 1)) (dg_name 2 sc_is_number.nd) (dss_one (ds_if (dt_cmp (op_nin (hu65 hr)) (op2_in _) (de_var 2) (de_con T.c_FIGURES)) (dss_one (ds_ret de_bl)) dss_nil)))
    (dss_one (ds_ret de_bl))))))

theorem ok_size_of (T : Tx K mg) : DefOk P w K mg base 1 "size_of" ["shape", "value"] m_size_of := by
  obtain ⟨fd, F⟩ := T.d_size_of
  refine defOk_mk (N := N_size_of) (k := 0) (b := b_size_of) F sc_size_of (fun us hl kV doc pm an cdv ct => match us, hl with | [_, _], _ => by kernel_rfl) T.g_size_of (fun cdv A outer s H E hr => ?_)
  unfold b_size_of
  exact (dss_cons (ds_if (dt_cmp (op_eqX (hu64 hr)) (op2_eqG _) (de_var 0) de_str) (dss_one (ds_ret de_int)) dss_nil)
    (dss_cons (ds_if (dt_cmp (op_eqX (hu64 hr)) (op2_eqG _) (de_var 0) de_str) (dss_one (ds_ret (de_B call_len opC_len T.n_len (da_cons (de_var 1) da_nil)))) dss_nil)
    (dss_cons (ds_set 2 sc_size_of.nd de_int)
    (dss_cons (ds_set 3 sc_size_of.nd (de_lst (da_cons (de_var 1) da_nil)))
    (dss_cons (ds_while poD (dt_cmp op_gt op2_gt (de_B call_len opC_len T.n_len (da_cons (de_var 3) da_nil)) de_int) (dss_cons (ds_set 4 sc_size_of.nd (de_M0 PySem.F.slot_list_pop PySem.F.type_list_pop mt_pop opM_pop (de_var 3)))
    (dss_one (ds_if (dt_cmp op_notN (op2_isG _) (de_var 4) de_non) (dss_cons (ds_aug 2 sc_size_of.nd ip_add (op2_ip) de_int)
    (dss_cons (ds_expr (de_M PySem.F.slot_list_append PySem.F.type_list_append mt_append opM_append (de_var 3) (da_cons (de_ix (hu1 hr) (de_var 4) de_int) da_nil)))
    (dss_one (ds_expr (de_M PySem.F.slot_list_append PySem.F.type_list_append mt_append opM_append (de_var 3) (da_cons (de_ix (hu1 hr) (de_var 4) de_int) da_nil)))))) dss_nil))))
    (dss_one (ds_ret (de_var 2))))))))

theorem ok_tree_at (T : Tx K mg) : ∀ j : Nat, DefOk P w K mg base (2 + j) "tree_at" ["text", "at", "deep"] (m_tree_at j)
  | 0 => by
    obtain ⟨fd, F⟩ := T.d_tree_at
    exact defOk_stuck (k := 1) (N := N_tree_at) F sc_tree_at (fun us hl kV doc pm an cdv ct => match us, hl with | [_, _, _], _ => by kernel_rfl) T.g_tree_at
  | j + 1 => by
    have R := ok_tree_at T j
    obtain ⟨fd, F⟩ := T.d_tree_at
    refine defOk_mk (N := N_tree_at) (k := 2 + j) (b := b_tree_at (m_tree_at j)) F sc_tree_at (fun us hl kV doc pm an cdv ct => match us, hl with | [_, _, _], _ => by kernel_rfl) T.g_tree_at (fun cdv A outer s H E hr => ?_)
    unfold b_tree_at
    exact (dss_cons (ds_if (dt_gc (dt_cmp (op_eqX (hu64 hr)) (op2_eqG _) (de_slice (de_var 0) (do_some (de_var 1)) (do_some (de_op op_addV op2_add (de_var 1) de_int))) de_str)) (dss_one (ds_ret (de_tup (da_cons de_non (da_cons (de_op op_addV op2_add (de_var 1) de_int) da_nil))))) dss_nil)
    (dss_cons (ds_if (dt_gc (dt_w (dw_or (dt_cmp (op_neX (hu64 hr)) (op2_eqG _) (de_slice (de_var 0) (do_some (de_var 1)) (do_some (de_op op_addV op2_add (de_var 1) de_int))) de_str) (dw_or1 (dt_cmp op_ge op2_ge (de_var 2) (de_con T.c_MOST)))))) (dss_one (ds_raiseF T.r_NoValue rfl tkD)) dss_nil)
    (dss_cons (ds_asg (de_callD (ps := ["text", "at", "deep"]) tkD R (hr.mono (by omega)) (da_cons (de_var 0) (da_cons (de_op op_addV op2_add (de_var 1) de_int) (da_cons (de_op op_addV op2_add (de_var 2) de_int) da_nil)))) (dg_tup (is := [3, 1]) rfl (dgs_cons 3 sc_tree_at.nd (dgs_cons 1 sc_tree_at.nd dgs_nil))))
    (dss_cons (ds_set 4 sc_tree_at.nd (de_Ms PySem.F.slot_str_find PySem.F.type_str_find mt_find3 opM_find3 (de_var 0) (da_cons de_str (da_cons (de_op op_addV op2_add (de_var 1) de_int) da_nil))))
    (dss_cons (ds_if (dt_gc (dt_w (dw_or (dt_cmp (op_neX (hu64 hr)) (op2_eqG _) (de_slice (de_var 0) (do_some (de_var 1)) (do_some (de_op op_addV op2_add (de_var 1) de_int))) de_str) (dw_or (dt_cmp op_lt op2_lt (de_var 4) de_int) (dw_or1 (dt_not (dt_tru (de_callD tkD (ok_is_number T) (hr.mono (by omega)) (da_cons (de_gc (de_slice (de_var 0) (do_some (de_op op_addV op2_add (de_var 1) de_int)) (do_some (de_var 4)))) da_nil))))))))) (dss_one (ds_raiseF T.r_NoValue rfl tkD)) dss_nil)
    (dss_cons (ds_set 5 sc_tree_at.nd (de_gc (de_gc (de_Ty call_intV opC_int T.n_int (da_cons (de_slice (de_var 0) (do_some (de_op op_addV op2_add (de_var 1) de_int)) (do_some (de_var 4))) da_nil)))))
    (dss_cons (ds_asg (de_callD (ps := ["text", "at", "deep"]) tkD R (hr.mono (by omega)) (da_cons (de_var 0) (da_cons (de_op op_addV op2_add (de_var 4) de_int) (da_cons (de_op op_addV op2_add (de_var 2) de_int) da_nil)))) (dg_tup (is := [6, 1]) rfl (dgs_cons 6 sc_tree_at.nd (dgs_cons 1 sc_tree_at.nd dgs_nil))))
    (dss_cons (ds_if (dt_gc (dt_cmp (op_neX (hu64 hr)) (op2_eqG _) (de_slice (de_var 0) (do_some (de_var 1)) (do_some (de_op op_addV op2_add (de_var 1) de_int))) de_str)) (dss_one (ds_raiseF T.r_NoValue rfl tkD)) dss_nil)
    (dss_one (ds_ret (de_tup (da_cons (de_tup (da_cons (de_var 3) (da_cons (de_var 5) (da_cons (de_var 6) da_nil)))) (da_cons (de_op op_addV op2_add (de_var 1) de_int) da_nil)))))))))))))

theorem ok_tree_told (T : Tx K mg) : DefOk P w K mg base 33 "tree_told" ["text"] m_tree_told := by
  obtain ⟨fd, F⟩ := T.d_tree_told
  refine defOk_mk (N := N_tree_told) (k := 32) (b := b_tree_told) F sc_tree_told (fun us hl kV doc pm an cdv ct => match us, hl with | [_], _ => by kernel_rfl) T.g_tree_told (fun cdv A outer s H E hr => ?_)
  unfold b_tree_told
  exact (dss_cons (ds_asg (de_callD tkD (ok_tree_at T 30) (hr.mono (by decide)) (da_cons (de_var 0) (da_cons de_int (da_cons de_int da_nil)))) (dg_tup (is := [1, 2]) rfl (dgs_cons 1 sc_tree_told.nd (dgs_cons 2 sc_tree_told.nd dgs_nil))))
    (dss_cons (ds_if (dt_cmp (op_neX (hu64 hr)) (op2_eqG _) (de_var 2) (de_B call_len opC_len T.n_len (da_cons (de_var 0) da_nil))) (dss_one (ds_raiseF T.r_NoValue rfl tkD)) dss_nil)
    (dss_one (ds_ret (de_var 1)))))

theorem ok_list_told (T : Tx K mg) : DefOk P w K mg base 2 "list_told" ["text"] m_list_told := by
  obtain ⟨fd, F⟩ := T.d_list_told
  refine defOk_mk (N := N_list_told) (k := 1) (b := b_list_told) F sc_list_told (fun us hl kV doc pm an cdv ct => match us, hl with | [_], _ => by kernel_rfl) T.g_list_told (fun cdv A outer s H E hr => ?_)
  unfold b_list_told
  exact (dss_cons (ds_if (dt_cmp (op_eqX (hu64 hr)) (op2_eqG _) (de_var 0) de_str) (dss_one (ds_ret (de_tup da_nil))) dss_nil)
    (dss_cons (ds_if (dt_gc (dt_w (dw_or (dt_cmp (op_neX (hu64 hr)) (op2_eqG _) (de_slice (de_var 0) do_none (do_some de_int)) de_str) (dw_or1 (dt_cmp (op_neX (hu64 hr)) (op2_eqG _) (de_slice (de_var 0) (do_some (de_neg de_int)) do_none) de_str))))) (dss_one (ds_raiseF T.r_NoValue rfl tkD)) dss_nil)
    (dss_cons (ds_set 1 sc_list_told.nd (de_gc (de_Ms PySem.F.slot_str_split PySem.F.type_str_split mt_split opM_split (de_slice (de_var 0) (do_some de_int) (do_some (de_neg de_int))) (da_cons de_str da_nil))))
    (dss_cons (ds_for poD rfl (di_any (de_var 1)) (dg_name 2 sc_list_told.nd) (dss_one (ds_if (dt_not (dt_tru (de_callD tkD (ok_is_number T) (hr.mono (by decide)) (da_cons (de_var 2) da_nil)))) (dss_one (ds_raiseF T.r_NoValue rfl tkD)) dss_nil)))
    (dss_one (ds_ret (de_gc (de_gc (de_Ty call_tuple_of opC_tuple T.n_tuple (da_cons (de_lc [("part", 2)] rfl sc_list_told.nd (di_any (de_var 1)) (blkOk_by (N := N_list_told) (sc := defScope (top 15)) (by decide +kernel)) (fun _ _ _ _ _ => (dg_name 2 sc_list_told.nd)) (fun _ _ _ _ _ => dts_nil) (fun _ _ _ _ _ => (de_Ty call_intV opC_int T.n_int (da_cons (de_var 2) da_nil)))) da_nil))))))))))

theorem ok_read_arg (T : Tx K mg) : DefOk P w K mg base 34 "read_arg" ["shape", "text"] m_read_arg := by
  obtain ⟨fd, F⟩ := T.d_read_arg
  refine defOk_mk (N := N_read_arg) (k := 33) (b := b_read_arg) F sc_read_arg (fun us hl kV doc pm an cdv ct => match us, hl with | [_, _], _ => by kernel_rfl) T.g_read_arg (fun cdv A outer s H E hr => ?_)
  unfold b_read_arg
  exact (dss_cons (ds_if (dt_not (dt_tru (de_B call_isi (opC_isinst (b := "str") (by decide)) T.n_isinstance (da_cons (de_var 1) (da_cons (de_ty (n := "str") T.n_str) da_nil))))) (dss_one (ds_raiseF T.r_NoValue rfl tkD)) dss_nil)
    (dss_cons (ds_if (dt_cmp (op_eqX (hu64 hr)) (op2_eqG _) (de_var 0) de_str) (dss_cons (ds_if (dt_not (dt_tru (de_callD tkD (ok_is_number T) (hr.mono (by decide)) (da_cons (de_var 1) da_nil)))) (dss_one (ds_raiseF T.r_NoValue rfl tkD)) dss_nil)
    (dss_one (ds_ret (de_Ty call_intV opC_int T.n_int (da_cons (de_var 1) da_nil))))) dss_nil)
    (dss_cons (ds_if (dt_cmp (op_eqX (hu64 hr)) (op2_eqG _) (de_var 0) de_str) (dss_one (ds_set 2 sc_read_arg.nd (de_callD tkD (ok_list_told T) (hr.mono (by decide)) (da_cons (de_var 1) da_nil)))) (dss_one (ds_set 2 sc_read_arg.nd (de_callD tkD (ok_tree_told T) (hr.mono (by decide)) (da_cons (de_var 1) da_nil)))))
    (dss_cons (ds_if (dt_cmp op_gt op2_gt (de_callD tkD (ok_size_of T) (hr.mono (by decide)) (da_cons (de_var 0) (da_cons (de_var 2) da_nil))) (de_con T.c_MOST)) (dss_one (ds_raiseF T.r_NoValue rfl tkD)) dss_nil)
    (dss_one (ds_ret (de_var 2)))))))

theorem ok_show_arg (T : Tx K mg) : ∀ j : Nat, DefOk P w K mg base (1 + j) "show_arg" ["shape", "value"] (m_show_arg j)
  | 0 => by
    obtain ⟨fd, F⟩ := T.d_show_arg
    exact defOk_stuck (k := 0) (N := N_show_arg) F sc_show_arg (fun us hl kV doc pm an cdv ct => match us, hl with | [_, _], _ => by kernel_rfl) T.g_show_arg
  | j + 1 => by
    have R := ok_show_arg T j
    obtain ⟨fd, F⟩ := T.d_show_arg
    refine defOk_mk (N := N_show_arg) (k := 1 + j) (b := b_show_arg (m_show_arg j)) F sc_show_arg (fun us hl kV doc pm an cdv ct => match us, hl with | [_, _], _ => by kernel_rfl) T.g_show_arg (fun cdv A outer s H E hr => ?_)
    unfold b_show_arg
    exact (dss_cons (ds_if (dt_cmp (op_eqX (hu64 hr)) (op2_eqG _) (de_var 0) de_str) (dss_one (ds_ret (de_Ty call_str_int opC_str T.n_str (da_cons (de_var 1) da_nil)))) dss_nil)
    (dss_cons (ds_if (dt_cmp (op_eqX (hu64 hr)) (op2_eqG _) (de_var 0) de_str) (dss_one (ds_ret (de_gc (de_op op_addV op2_add (de_op op_addV op2_add de_str (de_gc (de_join de_str (de_lc [("number", 3)] rfl sc_show_arg.nd (di_any (de_var 1)) (blkOk_by (N := N_show_arg) (sc := defScope (top 17)) (by decide +kernel)) (fun _ _ _ _ _ => (dg_name 3 sc_show_arg.nd)) (fun _ _ _ _ _ => dts_nil) (fun _ _ _ _ _ => by exact (de_Ty call_str_int opC_str T.n_str (da_cons (de_var 3) da_nil))))))) de_str)))) dss_nil)
    (dss_cons (ds_if (dt_cmp op_isN (op2_isG _) (de_var 1) de_non) (dss_one (ds_ret de_str)) dss_nil)
    (dss_cons (ds_set 2 sc_show_arg.nd (de_callD (ps := ["shape", "value"]) tkD R (hr.mono (by omega)) (da_cons (de_var 0) (da_cons (de_ix (hu1 hr) (de_var 1) de_int) da_nil))))
    (dss_one (ds_ret (de_op op_addV op2_add (de_op op_addV op2_add (de_op op_addV op2_add (de_op op_addV op2_add (de_op op_addV op2_add (de_op op_addV op2_add de_str (de_var 2)) de_str) (de_Ty call_str_int opC_str T.n_str (da_cons (de_ix (hu1 hr) (de_var 1) de_int) da_nil))) de_str) (de_callD (ps := ["shape", "value"]) tkD R (hr.mono (by omega)) (da_cons (de_var 0) (da_cons (de_ix (hu1 hr) (de_var 1) de_int) da_nil)))) de_str)))))))

theorem ok__law_cell_at (T : Tx K mg) : DefOk P w K mg base 1 "_law_cell_at" ["_law_script", "_law_k"] m_law_cell_at := by
  obtain ⟨fd, F⟩ := T.d__law_cell_at
  refine defOk_mk (N := N__law_cell_at) (k := 0) (b := b_law_cell_at) F sc__law_cell_at (fun us hl kV doc pm an cdv ct => match us, hl with | [_, _], _ => by kernel_rfl) T.g__law_cell_at (fun cdv A outer s H E hr => ?_)
  unfold b_law_cell_at
  exact (dss_cons (ds_if (dt_cmp op_lt op2_lt (de_var 1) (de_B call_len opC_len T.n_len (da_cons (de_var 0) da_nil))) (dss_one (ds_ret (de_op op_modN op2_mod (de_ix (hu1 hr) (de_var 0) (de_var 1)) (de_op op_pow op2_pow de_int de_int)))) dss_nil)
    (dss_one (ds_ret de_int)))

theorem ok__law_whole (T : Tx K mg) : DefOk P w K mg base 1 "_law_whole" ["_law_found"] m_law_whole := by
  obtain ⟨fd, F⟩ := T.d__law_whole
  refine defOk_mk (N := N__law_whole) (k := 0) (b := b_law_whole) F sc__law_whole (fun us hl kV doc pm an cdv ct => match us, hl with | [_], _ => by kernel_rfl) T.g__law_whole (fun cdv A outer s H E hr => ?_)
  unfold b_law_whole
  exact (dss_one (ds_ret (de_and (de_B call_isi (opC_isinst (b := "int") (by decide)) T.n_isinstance (da_cons (de_var 0) (da_cons (de_ty (n := "int") T.n_int) da_nil))) (de_one (de_not (de_B call_isi (opC_isinst (b := "bool") (by decide)) T.n_isinstance (da_cons (de_var 0) (da_cons (de_ty (n := "bool") T.n_bool) da_nil))))))))

theorem ok__law_refused (T : Tx K mg) : DefOk P w K mg base 35 "_law_refused" ["_law_shape", "_law_thing"] m_law_refused := by
  obtain ⟨fd, F⟩ := T.d__law_refused
  refine defOk_mk (N := N__law_refused) (k := 34) (b := b_law_refused) F sc__law_refused (fun us hl kV doc pm an cdv ct => match us, hl with | [_, _], _ => by kernel_rfl) T.g__law_refused (fun cdv A outer s H E hr => ?_)
  unfold b_law_refused
  exact (dss_cons (ds_set 2 sc__law_refused.nd de_bl)
    (dss_cons (ds_tryAs 3 T.ex (by decide +kernel) rfl rfl sc__law_refused.nd tkD (fun W pn xe tk po => (dss_one (ds_expr (de_callD tk (ok_read_arg T) (hr.mono (by decide)) (da_cons (de_var 0) (da_cons (de_var 1) da_nil)))))) (fun a oe c pn hc hz hf => (dss_cons (ds_set 2 sc__law_refused.nd (de_and (de_isE 3 T.ex hc (by decide +kernel) hz hf T.n_isinstance) (de_one (de_isVE 3 T.ex hc hz hf T.n_isinstance T.n_ValueError))))
    (dss_one (ds_set 2 sc__law_refused.nd (de_and (de_var 2) (de_and (de_not (de_isE 3 T.ex hc (by decide +kernel) hz hf T.n_isinstance)) (de_and (de_not (de_isE 3 T.ex hc (by decide +kernel) hz hf T.n_isinstance)) (de_one (de_not (de_isE 3 T.ex hc (by decide +kernel) hz hf T.n_isinstance)))))))))))
    (dss_one (ds_ret (de_var 2)))))

theorem ok__law_number (T : Tx K mg) : DefOk P w K mg base 1 "_law_number" ["_law_cell"] m_law_number := by
  obtain ⟨fd, F⟩ := T.d__law_number
  refine defOk_mk (N := N__law_number) (k := 0) (b := b_law_number) F sc__law_number (fun us hl kV doc pm an cdv ct => match us, hl with | [_], _ => by kernel_rfl) T.g__law_number (fun cdv A outer s H E hr => ?_)
  unfold b_law_number
  exact (dss_cons (ds_set 0 sc__law_number.nd (de_op op_modN op2_mod (de_var 0) (de_op op_pow op2_pow de_int de_int)))
    (dss_one (ds_ret (de_gc (de_op op_mulV op2_mul (de_ix (hu1 hr) (de_lst (da_cons de_int (da_cons (de_neg de_int) da_nil))) (de_op op_modN op2_mod (de_var 0) de_int)) (de_op op_modN op2_mod (de_op op_fdivX op2_fdiv (de_var 0) de_int) (de_ix (hu1 hr) (de_lst (da_cons (de_op op_pow op2_pow de_int de_int) (da_cons (de_op op_pow op2_pow de_int de_int) (da_cons de_int da_nil)))) (de_op op_modN op2_mod (de_op op_fdivX op2_fdiv (de_var 0) de_int) de_int))))))))

theorem ok__law_odd (T : Tx K mg) : DefOk P w K mg base 1 "_law_odd" ["_law_cell"] m_law_odd := by
  obtain ⟨fd, F⟩ := T.d__law_odd
  refine defOk_mk (N := N__law_odd) (k := 0) (b := b_law_odd) F sc__law_odd (fun us hl kV doc pm an cdv ct => match us, hl with | [_], _ => by kernel_rfl) T.g__law_odd (fun cdv A outer s H E hr => ?_)
  unfold b_law_odd
  exact (dss_cons (ds_set 1 sc__law_odd.nd (de_Ty call_str_int opC_str T.n_str (da_cons (de_op op_modN op2_mod (de_op op_fdivX op2_fdiv (de_var 0) de_int) (de_op op_pow op2_pow de_int de_int)) da_nil)))
    (dss_cons (ds_set 2 sc__law_odd.nd (de_lst (da_cons de_str (da_cons de_str (da_cons de_str (da_cons de_str (da_cons (de_op op_addV op2_add de_str (de_var 1)) (da_cons (de_op op_addV op2_add de_str (de_var 1)) (da_cons (de_op op_addV op2_add de_str (de_var 1)) (da_cons (de_op op_addV op2_add (de_var 1) de_str) (da_cons (de_op op_addV op2_add de_str (de_op op_repS op2_mulS de_str de_int)) da_nil)))))))))))
    (dss_cons (ds_set 2 sc__law_odd.nd (de_gc (de_op op_addV op2_add (de_var 2) (de_lst (da_cons (de_op op_addV op2_add de_str (de_op op_repS op2_mulS de_str de_int)) (da_cons (de_op op_addV op2_add de_str (de_var 1)) (da_cons (de_op op_addV op2_add (de_var 1) de_str) (da_cons (de_op op_addV op2_add (de_var 1) de_str) (da_cons (de_op op_addV op2_add de_str (de_var 1)) (da_cons de_str (da_cons de_str da_nil)))))))))))
    (dss_one (ds_ret (de_ix (hu1 hr) (de_var 2) (de_op op_modN op2_mod (de_var 0) de_int)))))))

theorem ok__law_listed (T : Tx K mg) : DefOk P w K mg base 1 "_law_listed" ["_law_words"] m_law_listed := by
  obtain ⟨fd, F⟩ := T.d__law_listed
  refine defOk_mk (N := N__law_listed) (k := 0) (b := b_law_listed) F sc__law_listed (fun us hl kV doc pm an cdv ct => match us, hl with | [_], _ => by kernel_rfl) T.g__law_listed (fun cdv A outer s H E hr => ?_)
  unfold b_law_listed
  exact (dss_one (ds_ret (de_op op_addV op2_add (de_op op_addV op2_add de_str (de_join de_str (de_var 0))) de_str)))

theorem ok__law_spoiled (T : Tx K mg) : DefOk P w K mg base 2 "_law_spoiled" ["_law_words", "_law_cell"] m_law_spoiled := by
  obtain ⟨fd, F⟩ := T.d__law_spoiled
  refine defOk_mk (N := N__law_spoiled) (k := 1) (b := b_law_spoiled) F sc__law_spoiled (fun us hl kV doc pm an cdv ct => match us, hl with | [_, _], _ => by kernel_rfl) T.g__law_spoiled (fun cdv A outer s H E hr => ?_)
  unfold b_law_spoiled
  exact (dss_cons (ds_set 2 sc__law_spoiled.nd (de_callD tkD (ok__law_listed T) (hr.mono (by decide)) (da_cons (de_var 0) da_nil)))
    (dss_cons (ds_set 3 sc__law_spoiled.nd (de_op op_modN op2_mod (de_op op_fdivX op2_fdiv (de_var 1) de_int) (de_op op_addV op2_add (de_B call_len opC_len T.n_len (da_cons (de_var 2) da_nil)) de_int)))
    (dss_cons (ds_set 4 sc__law_spoiled.nd (de_op op_fdivX op2_fdiv (de_var 1) de_int))
    (dss_cons (ds_if (dt_gc (dt_w (dw_or (dt_cmp (op_eqX (hu64 hr)) (op2_eqG _) (de_op op_modN op2_mod (de_var 1) de_int) de_int) (dw_or1 (dt_cmp (op_eqX (hu64 hr)) (op2_eqG _) (de_var 0) (de_lst da_nil)))))) (dss_cons (ds_set 5 sc__law_spoiled.nd (de_op op_modN op2_mod (de_var 4) (de_op op_addV op2_add (de_B call_len opC_len T.n_len (da_cons (de_var 0) da_nil)) de_int)))
    (dss_cons (ds_set 0 sc__law_spoiled.nd (de_gc (de_op op_addV op2_add (de_op op_addV op2_add (de_slice (de_var 0) do_none (do_some (de_var 5))) (de_lst (da_cons (de_callD tkD (ok__law_odd T) (hr.mono (by decide)) (da_cons (de_op op_fdivX op2_fdiv (de_var 4) de_int) da_nil)) da_nil))) (de_slice (de_var 0) (do_some (de_var 5)) do_none))))
    (dss_one (ds_ret (de_gc (de_callD tkD (ok__law_listed T) (hr.mono (by decide)) (da_cons (de_gc (de_op op_addV op2_add (de_var 0) (de_lst (da_cons de_str da_nil)))) da_nil))))))) dss_nil)
    (dss_cons (ds_if (dt_cmp op_lt op2_lt (de_op op_modN op2_mod (de_var 1) de_int) de_int) (dss_cons (ds_set 5 sc__law_spoiled.nd (de_op op_modN op2_mod (de_var 4) (de_B call_len opC_len T.n_len (da_cons (de_var 0) da_nil))))
    (dss_cons (ds_set 6 sc__law_spoiled.nd (de_callD tkD (ok__law_odd T) (hr.mono (by decide)) (da_cons (de_op op_fdivX op2_fdiv (de_var 4) de_int) da_nil)))
    (dss_cons (ds_if (dt_w (dw_and (dt_cmp (op_eqX (hu64 hr)) (op2_eqG _) (de_var 6) de_str) (dw_and1 (dt_cmp (op_eqX (hu64 hr)) (op2_eqG _) (de_B call_len opC_len T.n_len (da_cons (de_var 0) da_nil)) de_int)))) (dss_one (ds_set 6 sc__law_spoiled.nd de_str)) dss_nil)
    (dss_one (ds_ret (de_gc (de_callD tkD (ok__law_listed T) (hr.mono (by decide)) (da_cons (de_gc (de_op op_addV op2_add (de_op op_addV op2_add (de_slice (de_var 0) do_none (do_some (de_var 5))) (de_lst (da_cons (de_var 6) da_nil))) (de_slice (de_var 0) (do_some (de_op op_addV op2_add (de_var 5) de_int)) do_none))) da_nil)))))))) dss_nil)
    (dss_cons (ds_if (dt_cmp (op_eqX (hu64 hr)) (op2_eqG _) (de_op op_modN op2_mod (de_var 1) de_int) de_int) (dss_one (ds_ret (de_gc (de_op op_addV op2_add (de_op op_addV op2_add (de_slice (de_var 2) do_none (do_some (de_var 3))) (de_ix (hu1 hr) (de_lst (da_cons de_str (da_cons de_str (da_cons de_str (da_cons de_str (da_cons de_str (da_cons de_str (da_cons de_str (da_cons de_str da_nil))))))))) (de_op op_modN op2_mod (de_op op_fdivX op2_fdiv (de_var 4) de_int) de_int))) (de_slice (de_var 2) (do_some (de_var 3)) do_none))))) dss_nil)
    (dss_cons (ds_if (dt_cmp (op_eqX (hu64 hr)) (op2_eqG _) (de_op op_modN op2_mod (de_var 1) de_int) de_int) (dss_one (ds_ret (de_gc (de_ix (hu1 hr) (de_lst (da_cons (de_slice (de_var 2) (do_some de_int) do_none) (da_cons (de_slice (de_var 2) do_none (do_some (de_neg de_int))) (da_cons (de_slice (de_var 2) (do_some de_int) (do_some (de_neg de_int))) (da_cons (de_op op_addV op2_add de_str (de_slice (de_var 2) (do_some de_int) do_none)) (da_cons (de_op op_addV op2_add (de_slice (de_var 2) do_none (do_some (de_neg de_int))) de_str) da_nil)))))) (de_op op_modN op2_mod (de_var 4) de_int))))) dss_nil)
    (dss_cons (ds_if (dt_cmp (op_eqX (hu64 hr)) (op2_eqG _) (de_op op_modN op2_mod (de_var 1) de_int) de_int) (dss_one (ds_ret (de_gc (de_callD tkD (ok__law_listed T) (hr.mono (by decide)) (da_cons (de_gc (de_op op_addV op2_add (de_var 0) (de_op op_mulV op2_mul (de_lst (da_cons de_str da_nil)) (de_op op_addV op2_add (de_op op_sub op2_sub de_int (de_B call_len opC_len T.n_len (da_cons (de_var 0) da_nil))) (de_op op_modN op2_mod (de_var 4) de_int))))) da_nil))))) dss_nil)
    (dss_cons (ds_if (dt_cmp (op_eqX (hu64 hr)) (op2_eqG _) (de_op op_modN op2_mod (de_var 1) de_int) de_int) (dss_one (ds_ret (de_gc (de_ix (hu1 hr) (de_lst (da_cons de_str (da_cons de_str (da_cons de_str (da_cons de_str (da_cons de_str (da_cons de_str da_nil))))))) (de_op op_modN op2_mod (de_var 4) de_int))))) dss_nil)
    (dss_one (ds_ret (de_gc (de_ix (hu1 hr) (de_lst (da_cons de_non (da_cons de_int (da_cons (de_tup (da_cons de_str da_nil)) (da_cons (de_lst (da_cons de_str da_nil)) (da_cons de_bl (da_cons (de_tup da_nil) da_nil))))))) (de_op op_modN op2_mod (de_var 4) de_int))))))))))))))

theorem fn_law (T : Tx K mg) {fd : FuncData} (F : FunD K "law" "law" (defArgs (top 26)) (defBody (top 26)) (defScope (top 26)) [] [] (He.ga K "law") fd) : FnOk P w K mg base (L2.CX P w) 36 (He.ga K "law") fd ["_law_script"] (spF K mg 1 m_law) := by
  refine fnOk_mk (N := N_law) (k := 35) (b := b_law) F sc_law (fun cdv A outer s H E hr => ?_)
  unfold b_law
  exact (dss_cons (ds_setLc 1 [("_law_cell", 5)] rfl sc_law.nd (di_any (de_slice (de_var 0) (do_some de_int) (do_some de_int))) (blkOk_by (N := N_law) (sc := defScope (top 26)) (by decide +kernel)) (fun _ _ _ _ _ => (dg_name 5 sc_law.nd)) (fun _ _ _ _ _ => dts_nil) (fun _ _ _ _ _ => (de_callD takes0 (ok__law_number T) (hr.mono (by decide)) (da_cons (de_var 5) da_nil))))
    (dss_cons (ds_setLc 2 [("_law_number_here", 8)] rfl sc_law.nd (di_any (de_var 1)) (blkOk_by (N := N_law) (sc := defScope (top 26)) (by decide +kernel)) (fun _ _ _ _ _ => (dg_name 8 sc_law.nd)) (fun _ _ _ _ _ => dts_nil) (fun _ _ _ _ _ => (de_Ty call_str_int opC_str T.n_str (da_cons (de_var 8) da_nil))))
    (dss_cons (ds_set 3 sc_law.nd (de_callD tkD (ok__law_listed T) (hr.mono (by decide)) (da_cons (de_var 2) da_nil)))
    (dss_cons (ds_set 4 sc_law.nd (de_callD tkD (ok_read_arg T) (hr.mono (by decide)) (da_cons de_str (da_cons (de_var 3) da_nil))))
    (dss_cons (ds_if (dt_w (dw_or (dt_not (dt_tru (de_B call_isi (opC_isinst (b := "tuple") (by decide)) T.n_isinstance (da_cons (de_var 4) (da_cons (de_ty (n := "tuple") T.n_tuple) da_nil))))) (dw_or (dt_cmp (op_neX (hu64 hr)) (op2_eqG _) (de_var 4) (de_Ty call_tuple_of opC_tuple T.n_tuple (da_cons (de_var 1) da_nil))) (dw_or1 (dt_cmp (op_neX (hu64 hr)) (op2_eqG _) (de_callD tkD (ok_show_arg T 30) (hr.mono (by decide)) (da_cons de_str (da_cons (de_Ty call_tuple_of opC_tuple T.n_tuple (da_cons (de_var 1) da_nil)) da_nil))) (de_var 3)))))) (dss_one (ds_ret de_bl)) dss_nil)
    (dss_cons (ds_if (dt_gc (dt_cmp (op_neX (hu64 hr)) (op2_eqG _) (de_gc (de_B call_len opC_len T.n_len (da_cons (de_lc [("_law_one", 6)] rfl sc_law.nd (di_any (de_var 4)) (blkOk_by (N := N_law) (sc := defScope (top 26)) (by decide +kernel)) (fun _ _ _ _ _ => (dg_name 6 sc_law.nd)) (fun _ _ _ _ _ => dts_one (dt_tru (de_callD takes0 (ok__law_whole T) (hr.mono (by decide)) (da_cons (de_var 6) da_nil)))) (fun _ _ _ _ _ => (de_var 6))) da_nil))) (de_B call_len opC_len T.n_len (da_cons (de_var 1) da_nil)))) (dss_one (ds_ret de_bl)) dss_nil)
    (dss_cons (ds_set 5 sc_law.nd (de_callD tkD (ok__law_cell_at T) (hr.mono (by decide)) (da_cons (de_var 0) (da_cons de_int da_nil))))
    (dss_cons (ds_if (dt_not (dt_tru (de_callD tkD (ok__law_refused T) (hr.mono (by decide)) (da_cons de_str (da_cons (de_callD tkD (ok__law_spoiled T) (hr.mono (by decide)) (da_cons (de_var 2) (da_cons (de_var 5) da_nil))) da_nil))))) (dss_one (ds_ret de_bl)) dss_nil)
    (dss_cons (ds_set 6 sc_law.nd (de_callD tkD (ok__law_number T) (hr.mono (by decide)) (da_cons (de_callD tkD (ok__law_cell_at T) (hr.mono (by decide)) (da_cons (de_var 0) (da_cons de_int da_nil))) da_nil)))
    (dss_cons (ds_set 4 sc_law.nd (de_callD tkD (ok_read_arg T) (hr.mono (by decide)) (da_cons de_str (da_cons (de_Ty call_str_int opC_str T.n_str (da_cons (de_var 6) da_nil)) da_nil))))
    (dss_cons (ds_if (dt_w (dw_or (dt_not (dt_tru (de_callD tkD (ok__law_whole T) (hr.mono (by decide)) (da_cons (de_var 4) da_nil)))) (dw_or (dt_cmp (op_neX (hu64 hr)) (op2_eqG _) (de_var 4) (de_var 6)) (dw_or1 (dt_cmp (op_neX (hu64 hr)) (op2_eqG _) (de_callD tkD (ok_show_arg T 30) (hr.mono (by decide)) (da_cons de_str (da_cons (de_var 6) da_nil))) (de_Ty call_str_int opC_str T.n_str (da_cons (de_var 6) da_nil))))))) (dss_one (ds_ret de_bl)) dss_nil)
    (dss_cons (ds_set 7 sc_law.nd (de_gc (de_ix (hu1 hr) (de_lst (da_cons (de_callD tkD (ok__law_odd T) (hr.mono (by decide)) (da_cons (de_op op_fdivX op2_fdiv (de_var 5) de_int) da_nil)) (da_cons (de_var 3) (da_cons de_str (da_cons de_non (da_cons (de_var 6) (da_cons (de_tup (da_cons (de_Ty call_str_int opC_str T.n_str (da_cons (de_var 6) da_nil)) da_nil)) da_nil))))))) (de_op op_modN op2_mod (de_var 5) de_int))))
    (dss_one (ds_ret (de_and (de_callD tkD (ok__law_refused T) (hr.mono (by decide)) (da_cons de_str (da_cons (de_var 7) da_nil))) (de_and (de_callD tkD (ok__law_refused T) (hr.mono (by decide)) (da_cons de_str (da_cons (de_Ty call_str_int opC_str T.n_str (da_cons (de_var 6) da_nil)) da_nil))) (de_one (de_cmp (op_eqX (hu64 hr)) (op2_eqG _) (de_callD tkD (ok_read_arg T) (hr.mono (by decide)) (da_cons de_str (da_cons (de_var 3) da_nil))) (de_Ty call_tuple_of opC_tuple T.n_tuple (da_cons (de_var 1) da_nil))))))))))))))))))))
end
theorem tx {K : PySem.W.Frag} {h : Heap} {mg : Str → Option Value} (X : K.In h) (G : h.Ns mainGlobals mg) (c : He.SaysD fa fn K) (e : exk K = true) : Tx K mg := by
  refine ⟨He.free_ok X G (c.fact 0 (f := .free "ValueError") rfl),
    He.free_ok X G (c.fact 1 (f := .free "bool") rfl),
    He.free_ok X G (c.fact 2 (f := .free "int") rfl),
    He.free_ok X G (c.fact 3 (f := .free "isinstance") rfl),
    He.free_ok X G (c.fact 4 (f := .free "len") rfl),
    He.free_ok X G (c.fact 5 (f := .free "str") rfl),
    He.free_ok X G (c.fact 6 (f := .free "tuple") rfl),
    He.glo_ok X G (c.fact 7 (f := .glo "is_number") rfl),
    c.def_ 0 (d := dd "is_number" 8) rfl,
    He.glo_ok X G (c.fact 8 (f := .glo "size_of") rfl),
    c.def_ 1 (d := dd "size_of" 10) rfl,
    He.glo_ok X G (c.fact 9 (f := .glo "tree_at") rfl),
    c.def_ 2 (d := dd "tree_at" 13) rfl,
    He.glo_ok X G (c.fact 10 (f := .glo "tree_told") rfl),
    c.def_ 3 (d := dd "tree_told" 14) rfl,
    He.glo_ok X G (c.fact 11 (f := .glo "list_told") rfl),
    c.def_ 4 (d := dd "list_told" 15) rfl,
    He.glo_ok X G (c.fact 12 (f := .glo "read_arg") rfl),
    c.def_ 5 (d := dd "read_arg" 16) rfl,
    He.glo_ok X G (c.fact 13 (f := .glo "show_arg") rfl),
    c.def_ 6 (d := dd "show_arg" 17) rfl,
    He.glo_ok X G (c.fact 14 (f := .glo "_law_cell_at") rfl),
    c.def_ 7 (d := dd "_law_cell_at" 19) rfl,
    He.glo_ok X G (c.fact 15 (f := .glo "_law_whole") rfl),
    c.def_ 8 (d := dd "_law_whole" 20) rfl,
    He.glo_ok X G (c.fact 16 (f := .glo "_law_refused") rfl),
    c.def_ 9 (d := dd "_law_refused" 21) rfl,
    He.glo_ok X G (c.fact 17 (f := .glo "_law_number") rfl),
    c.def_ 10 (d := dd "_law_number" 22) rfl,
    He.glo_ok X G (c.fact 18 (f := .glo "_law_odd") rfl),
    c.def_ 11 (d := dd "_law_odd" 23) rfl,
    He.glo_ok X G (c.fact 19 (f := .glo "_law_listed") rfl),
    c.def_ 12 (d := dd "_law_listed" 24) rfl,
    He.glo_ok X G (c.fact 20 (f := .glo "_law_spoiled") rfl),
    c.def_ 13 (d := dd "_law_spoiled" 25) rfl,
    He.glo_ok X G (c.fact 21 (f := .glo "law") rfl),
    c.def_ 14 (d := dd "law" 26) rfl,
    ⟨He.glo_ok X G (c.fact 22 (f := .glo "NoValue") rfl), (c.fact 23 (f := .exc "NoValue") rfl)⟩,
    exB_ok X G (Bool.and_eq_true_iff.mp e).1,
    con_ok X G (List.all_eq_true.mp (Bool.and_eq_true_iff.mp e).2 ("FIGURES", k_FIGURES) (by simp [exCons])),
    con_ok X G (List.all_eq_true.mp (Bool.and_eq_true_iff.mp e).2 ("MOST", k_MOST) (by simp [exCons]))⟩
end K80
open PySem PySem.W PySem.Calls PyProof.Rows
set_option maxHeartbeats 0 in
theorem PySem.Challenge.cw_toll_k80_numbers_and_lists_holds : PySem.Challenge.rw_toll_k80_numbers_and_lists.Holds := by
  w_on; o_law
  refine HandSHeadRun.head_any (r := OpenLaw.row PySem.Challenge.rw_toll_k80_numbers_and_lists) (q := view (OpenLaw.row PySem.Challenge.rw_toll_k80_numbers_and_lists).prog [26]) (H := K80.hk) (ob := K80.ob) (M := 20000) (loose := K80.names) (d := HandSHeadRun.topDef (OpenLaw.row PySem.Challenge.rw_toll_k80_numbers_and_lists).prog 26) (kwd := []) K80.ob_eq
    (by kernel_rfl) (fun s => by kernel_rfl) K80.run (by kernel_rfl) (by kernel_rfl) (by kernel_rfl) (by rfl) (by first | assumption | decide +kernel) (by decide +kernel) ⟨rfl, rfl, rfl, rfl, rfl, by decide +kernel⟩ ?hw ?hc
  case hw => w_witness2
  case hc =>
    refine TL.walk_ofX (l := PySem.Challenge.rw_toll_k80_numbers_and_lists) (n := 63) (k := 36) (x := "_law_script") (CX := fun w => L2.CX PySem.Challenge.rw_toll_k80_numbers_and_lists.prog w) rfl (by decide) (by kernel_rfl) ⟨rfl, by decide, by decide⟩ ?F (fun w H s e s' z => TL.cx_end _ _ H s e s' z)
    intro w mg fa h Y G hmg0
    obtain ⟨K, KX, c, e⟩ := Y
    have hmg : mg ("law" : PySem.Str) = some (.ref fa) := by
      have e : (HandSHeadRun.topDef (OpenLaw.row PySem.Challenge.rw_toll_k80_numbers_and_lists).prog 26).name = ("law" : PySem.Str) := by kernel_rfl
      rw [← e]
      exact hmg0
    have T : K80.Tx K mg := K80.tx KX G c e
    obtain ⟨fd, F⟩ := T.d_law
    have efa := TL.glo_ga KX G (c.fact 21 (f := .glo "law") rfl) hmg
    subst efa
    exact ⟨K, fd, _, KX, fun s v => L2.FunD.bindsA (ps := ["_law_script"]) F (fun _ _ _ _ _ _ us hl => match us, hl with | [_], _ => rfl) s [v] rfl, fun H a ns hl hO hS => TL.law_sp (mg := mg) K80.law_pure H a ns hl hO hS, fun base _ _ => K80.fn_law T F⟩

