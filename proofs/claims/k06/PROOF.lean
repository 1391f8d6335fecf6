import PyProof.Rows.All
import Wide.All
import OpenK.AllK
import Wide.FinOn
import HandS.ForMost
import HandS.ForExc
import HandS.IsInst
import HandS.Wide
import HandS.SortInts
import HandS.SortRule
import HandS.TryMany
import HandS.TryOnly
import KE.SortData
import HandS.Defaults
import HandS.Head0
import HandS.Head1
import HandS.Head2
import HandS.HeadEnd
import HandS.HeadHook1
import HandS.HeadHook2
import PySem.Challenge.RW_farmates_k06_one_mating_after_another
set_option Elab.async false
set_option autoImplicit false
set_option linter.all false
set_option maxRecDepth 100000
set_option maxHeartbeats 0
/-! The engine, part A: data without the heap, what stands for it, steps. -/
namespace Fm
open PySem L2

/-- a value as data: tuples and lists that stay are values, what changes is told by its address -/
inductive Dt where
  | non | bl (b : Bool) | int (i : Int) | str (s : Str) | tup (ds : List Dt) | lst (ds : List Dt) | ref (a : Addr)

/-- what stands at an address that may change -/
inductive Mo where
  | lst (ds : List Dt) | dK (kvs : List (Key × Dt)) | dT (kvs : List (List Key × Dt)) | ins (c : Nat) (fs : List (Str × Dt))
abbrev Mm := Addr → Option Mo
def mset (M : Mm) (a : Addr) (o : Option Mo) : Mm := fun b => if b = a then o else M b
theorem mset_same {M : Mm} {a : Addr} {o : Option Mo} : mset M a o a = o := if_pos rfl
theorem mset_ne {M : Mm} {a b : Addr} {o : Option Mo} (h : b ≠ a) : mset M a o b = M b := if_neg h
theorem mset_mset {M : Mm} {a : Addr} {o u : Option Mo} : mset (mset M a o) a u = mset M a u := by
  funext b; unfold mset; split <;> rfl
theorem mset_back {M : Mm} {a : Addr} {o u : Option Mo} (h : M a = u) : mset (mset M a o) a u = M := by
  funext b; unfold mset; split
  · rename_i e; rw [e, h]
  · rfl
theorem mset_self {M : Mm} {a : Addr} {u : Option Mo} (h : M a = u) : mset M a u = M := by
  funext b; unfold mset; split
  · rename_i e; rw [e, h]
  · rfl
theorem mset_comm {M : Mm} {a b : Addr} {o u : Option Mo} (h : a ≠ b) : mset (mset M a o) b u = mset (mset M b u) a o := by
  funext c; unfold mset
  by_cases h1 : c = b
  · have h2 : c ≠ a := fun e => h (e.symm.trans h1)
    rw [if_pos h1, if_neg h2, if_pos h1]
  · rw [if_neg h1]
    by_cases h2 : c = a
    · rw [if_pos h2, if_pos h2]
    · rw [if_neg h2, if_neg h2, if_neg h1]

/-- a list of the written part -/
def LstK (K : PySem.W.Frag) (a : Addr) (xs : List V) : Prop :=
  ∃ (o : Obj) (its : Array Value) (n : Nat), K.lookup a = some o ∧ o.cls = .type "list" ∧ o.dict = none ∧ o.data = .seq its n ∧ its.size ≤ sizeLine ∧ Vals xs its.toList

mutual
/-- a value of the layer that stands for data -/
inductive RelD (K : PySem.W.Frag) (S : Addr → Prop) (M : Mm) (H : Hp) : Dt → V → Prop where
  | non : RelD K S M H .non .non
  | bl (b : Bool) : RelD K S M H (.bl b) (.bl b)
  | int (i : Int) : RelD K S M H (.int i) (.int i)
  | str (s : Str) : RelD K S M H (.str s) (.str s)
  | tup {a : Addr} {xs : List V} {ds : List Dt} (h : SqT K H a xs) (r : RelDs K S M H ds xs) : RelD K S M H (.tup ds) (.ref a)
  | lst {a : Addr} {xs : List V} {ds : List Dt} (n : M a = none) (ns : ¬ S a) (h : Rd H a (.lst xs)) (r : RelDs K S M H ds xs) : RelD K S M H (.lst ds) (.ref a)
  | lstK {a : Addr} {xs : List V} {ds : List Dt} (h : LstK K a xs) (r : RelDs K S M H ds xs) : RelD K S M H (.lst ds) (.ref a)
  | ref (a : Addr) : RelD K S M H (.ref a) (.ref a)
inductive RelDs (K : PySem.W.Frag) (S : Addr → Prop) (M : Mm) (H : Hp) : List Dt → List V → Prop where
  | nil : RelDs K S M H [] []
  | cons {d : Dt} {v : V} {ds : List Dt} {vs : List V} (r : RelD K S M H d v) (t : RelDs K S M H ds vs) : RelDs K S M H (d :: ds) (v :: vs)
end
section
variable {K : PySem.W.Frag} {S : Addr → Prop} {M M' : Mm} {H H' : Hp}
theorem RelDs.length : ∀ {ds : List Dt} {vs : List V}, RelDs K S M H ds vs → ds.length = vs.length
  | _, _, .nil => rfl
  | _, _, .cons _ t => by rw [List.length_cons, List.length_cons, RelDs.length t]
theorem RelDs.get : ∀ {ds : List Dt} {vs : List V} {i : Nat} {d : Dt}, RelDs K S M H ds vs → ds[i]? = some d → ∃ v, vs[i]? = some v ∧ RelD K S M H d v
  | _, _, _, _, .nil, e => by simp at e
  | _, _, 0, _, .cons r _, e => by simp at e; subst e; exact ⟨_, rfl, r⟩
  | _, _, i + 1, d, .cons _ t, e => by
    obtain ⟨v, h1, h2⟩ := RelDs.get (i := i) (d := d) t (by simpa using e)
    exact ⟨v, by simpa using h1, h2⟩
theorem RelDs.getV : ∀ {ds : List Dt} {vs : List V} {i : Nat} {v : V}, RelDs K S M H ds vs → vs[i]? = some v → ∃ d, ds[i]? = some d ∧ RelD K S M H d v
  | _, _, _, _, .nil, e => by simp at e
  | _, _, 0, _, .cons r _, e => by simp at e; subst e; exact ⟨_, rfl, r⟩
  | _, _, i + 1, v, .cons _ t, e => by
    obtain ⟨d, h1, h2⟩ := RelDs.getV (i := i) (v := v) t (by simpa using e)
    exact ⟨d, by simpa using h1, h2⟩
theorem RelDs.append : ∀ {ds es : List Dt} {vs us : List V}, RelDs K S M H ds vs → RelDs K S M H es us → RelDs K S M H (ds ++ es) (vs ++ us)
  | _, _, _, _, .nil, s => s
  | _, _, _, _, .cons r t, s => .cons r (RelDs.append t s)
theorem RelDs.set {d : Dt} {v : V} (r : RelD K S M H d v) : ∀ {ds : List Dt} {vs : List V} (i : Nat), RelDs K S M H ds vs → RelDs K S M H (ds.set i d) (vs.set i v)
  | _, _, _, .nil => .nil
  | _, _, 0, .cons _ t => .cons r t
  | _, _, i + 1, .cons q t => .cons q (RelDs.set r i t)
theorem RelDs.take : ∀ {ds : List Dt} {vs : List V} (n : Nat), RelDs K S M H ds vs → RelDs K S M H (ds.take n) (vs.take n)
  | _, _, 0, _ => .nil
  | _, _, _ + 1, .nil => .nil
  | _, _, n + 1, .cons r t => .cons r (RelDs.take n t)
theorem RelDs.drop : ∀ {ds : List Dt} {vs : List V} (n : Nat), RelDs K S M H ds vs → RelDs K S M H (ds.drop n) (vs.drop n)
  | _, _, 0, r => r
  | _, _, _ + 1, .nil => .nil
  | _, _, n + 1, .cons _ t => RelDs.drop n t
theorem RelDs.eraseIdx : ∀ {ds : List Dt} {vs : List V} (n : Nat), RelDs K S M H ds vs → RelDs K S M H (ds.eraseIdx n) (vs.eraseIdx n)
  | _, _, _, .nil => .nil
  | _, _, 0, .cons _ t => t
  | _, _, n + 1, .cons r t => .cons r (RelDs.eraseIdx n t)
theorem RelDs.reverse : ∀ {ds : List Dt} {vs : List V}, RelDs K S M H ds vs → RelDs K S M H ds.reverse vs.reverse
  | _, _, .nil => .nil
  | _, _, .cons r t => by
    rw [List.reverse_cons, List.reverse_cons]
    exact RelDs.append (RelDs.reverse t) (.cons r .nil)
theorem RelDs.dropLast : ∀ {ds : List Dt} {vs : List V}, RelDs K S M H ds vs → RelDs K S M H ds.dropLast vs.dropLast := fun {ds vs} r => by
  rw [List.dropLast_eq_take, List.dropLast_eq_take, r.length]
  exact r.take _
/-- how it is carried: the tuples stay, the lists that stay stay -/
structure Keeps (K : PySem.W.Frag) (M : Mm) (H : Hp) (M' : Mm) (H' : Hp) : Prop where
  tup : ∀ a xs, SqT K H a xs → SqT K H' a xs
  stay : ∀ a u, M a = none → H a = some u → M' a = none ∧ H' a = some u
theorem Keeps.lst (k : Keeps K M H M' H') (a : Addr) (xs : List V) (m : M a = none) (h : Rd H a (.lst xs)) : M' a = none ∧ Rd H' a (.lst xs) := by
  rcases h with h | ⟨b, h⟩
  · exact ⟨(k.stay a _ m h).1, .inl (k.stay a _ m h).2⟩
  · exact ⟨(k.stay a _ m h).1, .inr ⟨b, (k.stay a _ m h).2⟩⟩
mutual
theorem RelD.keep (k : Keeps K M H M' H') : ∀ {d : Dt} {v : V}, RelD K S M H d v → RelD K S M' H' d v
  | _, _, .non => .non
  | _, _, .bl b => .bl b
  | _, _, .int b => .int b
  | _, _, .str b => .str b
  | _, _, .tup h r => .tup (k.tup _ _ h) (RelDs.keep k r)
  | _, _, .lst n ns h r => .lst (k.lst _ _ n h).1 ns (k.lst _ _ n h).2 (RelDs.keep k r)
  | _, _, .lstK h r => .lstK h (RelDs.keep k r)
  | _, _, .ref a => .ref a
theorem RelDs.keep (k : Keeps K M H M' H') : ∀ {ds : List Dt} {vs : List V}, RelDs K S M H ds vs → RelDs K S M' H' ds vs
  | _, _, .nil => .nil
  | _, _, .cons r t => .cons (RelD.keep k r) (RelDs.keep k t)
end
theorem Keeps.refl : Keeps K M H M H := ⟨fun _ _ h => h, fun _ _ n h => ⟨n, h⟩⟩
theorem Keeps.trans {M1 : Mm} {H1 : Hp} (a : Keeps K M H M1 H1) (b : Keeps K M1 H1 M' H') : Keeps K M H M' H' :=
  ⟨fun x xs h => b.tup x xs (a.tup x xs h), fun x xs n h => b.stay x xs (a.stay x xs n h).1 (a.stay x xs n h).2⟩
end

/-- the written tuples and lists -/
theorem Rd.some {H : Hp} {a : Addr} {u : HO} (h : Rd H a u) : ∃ o, H a = some o := by
  rcases h with h | ⟨o, h⟩ <;> exact ⟨_, h⟩
theorem sqT_upd {K : PySem.W.Frag} {H : Hp} {p : Addr} {o : HO} (h : ∀ u, H p = some u → (∀ xs, u ≠ .tup xs) ∧ ∀ b v, u ≠ .frz b v) : ∀ a xs, SqT K H a xs → SqT K (upd H p o) a xs := fun a xs q => by
  rcases q with (q | ⟨b, q⟩) | q
  · exact .inl (.inl (by rw [upd_ne (fun e => by subst e; exact (h _ q).1 _ rfl)]; exact q))
  · exact .inl (.inr ⟨b, by rw [upd_ne (fun e => by subst e; exact (h _ q).2 _ _ rfl)]; exact q⟩)
  · exact .inr q

/-- what stands in the memory stands in the heap -/
def MoAt (K : PySem.W.Frag) (S : Addr → Prop) (cls : Nat → Addr) (M : Mm) (H : Hp) (a : Addr) : Mo → Prop
  | .lst ds => ∃ xs, H a = some (.lst xs) ∧ RelDs K S M H ds xs
  | .dK kvs => ∃ ks, H a = some (.dK ks) ∧ Paired (fun (p : Key × Dt) (q : Key × V) => p.1 = q.1 ∧ RelD K S M H p.2 q.2) kvs ks
  | .dT kvs => ∃ ks, H a = some (.dT ks) ∧ Paired (fun (p : List Key × Dt) (q : List Key × V) => p.1 = q.1 ∧ RelD K S M H p.2 q.2) kvs ks
  | .ins c fs => ∃ dx gs, H a = some (.ins (cls c) dx gs) ∧ Paired (fun (p : Str × Dt) (q : Str × V) => p.1 = q.1 ∧ RelD K S M H p.2 q.2) fs gs
/-- memory and heap; at S stand lists that nobody may speak of yet -/
structure Hold (K : PySem.W.Frag) (S : Addr → Prop) (cls : Nat → Addr) (M : Mm) (H : Hp) : Prop where
  at_ : ∀ a o, M a = some o → MoAt K S cls M H a o
  hid : ∀ a, S a → M a = none ∧ ∃ xs, H a = some (.lst xs)
instance {K : PySem.W.Frag} {S : Addr → Prop} {cls : Nat → Addr} {M : Mm} {H : Hp} : CoeFun (Hold K S cls M H) fun _ => ∀ a o, M a = some o → MoAt K S cls M H a o := ⟨Hold.at_⟩
section
variable {K : PySem.W.Frag} {S : Addr → Prop} {cls : Nat → Addr} {M M' : Mm} {H H' : Hp} {a p : Addr} {o : Mo}
theorem MoAt.some (h : MoAt K S cls M H a o) : ∃ u, H a = some u ∧ (∀ xs, u ≠ .tup xs) ∧ (∀ b v, u ≠ .frz b v) ∧ ∀ x, u ≠ .own x := by
  cases o with
  | lst ds => obtain ⟨xs, e, _⟩ := h; exact ⟨_, e, ⟨(fun _ z => by cases z), (fun _ _ z => by cases z), (fun _ z => by cases z)⟩⟩
  | dK ds => obtain ⟨xs, e, _⟩ := h; exact ⟨_, e, ⟨(fun _ z => by cases z), (fun _ _ z => by cases z), (fun _ z => by cases z)⟩⟩
  | dT ds => obtain ⟨xs, e, _⟩ := h; exact ⟨_, e, ⟨(fun _ z => by cases z), (fun _ _ z => by cases z), (fun _ z => by cases z)⟩⟩
  | ins c fs => obtain ⟨dx, xs, e, _⟩ := h; exact ⟨_, e, ⟨(fun _ z => by cases z), (fun _ _ z => by cases z), (fun _ z => by cases z)⟩⟩
theorem Hold.none (h : Hold K S cls M H) (n : H p = Option.none) : M p = Option.none := by
  cases e : M p with
  | none => rfl
  | some o =>
    obtain ⟨u, q, _⟩ := (h p o e).some
    rw [n] at q; cases q
theorem MoAt.keep (h : MoAt K S cls M H a o) (k : Keeps K M H M' H') (e : H' a = H a) : MoAt K S cls M' H' a o := by
  cases o with
  | lst ds => obtain ⟨xs, q, r⟩ := h; exact ⟨xs, e.trans q, r.keep k⟩
  | dK ds => obtain ⟨xs, q, r⟩ := h; exact ⟨xs, e.trans q, Paired.mapP r fun _ _ z => ⟨z.1, z.2.keep k⟩⟩
  | dT ds => obtain ⟨xs, q, r⟩ := h; exact ⟨xs, e.trans q, Paired.mapP r fun _ _ z => ⟨z.1, z.2.keep k⟩⟩
  | ins c fs => obtain ⟨dx, xs, q, r⟩ := h; exact ⟨dx, xs, e.trans q, Paired.mapP r fun _ _ z => ⟨z.1, z.2.keep k⟩⟩

/-! ### the four moves -/
/-- a new object of the heap that the memory does not tell of -/
theorem Keeps.newH {u : HO} (n : H p = Option.none) : Keeps K M H M (upd H p u) :=
  ⟨sqT_upd (fun v q => by rw [n] at q; cases q), fun a v m h => ⟨m, by rw [upd_ne (ne_of_none h n)]; exact h⟩⟩
theorem Hold.noS (h : Hold K S cls M H) (n : H p = Option.none) : ¬ S p := fun s => by
  obtain ⟨_, xs, q⟩ := h.hid p s
  rw [n] at q; cases q
theorem Hold.newH {u : HO} (h : Hold K S cls M H) (n : H p = Option.none) : Hold K S cls M (upd H p u) := ⟨fun a o e => by
  obtain ⟨v, q, _⟩ := (h a o e).some
  exact (h a o e).keep (Keeps.newH n) (upd_ne (ne_of_none q n)), fun a s => by
  obtain ⟨m, xs, q⟩ := h.hid a s
  exact ⟨m, xs, by rw [upd_ne (ne_of_none q n)]; exact q⟩⟩
/-- a new object that may change -/
theorem Keeps.newM {u : HO} (n : H p = Option.none) : Keeps K M H (mset M p (some o)) (upd H p u) :=
  ⟨sqT_upd (fun v q => by rw [n] at q; cases q), fun a v m h => by
    have hne : a ≠ p := ne_of_none h n
    exact ⟨by rw [mset_ne hne]; exact m, by rw [upd_ne hne]; exact h⟩⟩
theorem Hold.newM {u : HO} (h : Hold K S cls M H) (n : H p = Option.none) (new : MoAt K S cls (mset M p (some o)) (upd H p u) p o) : Hold K S cls (mset M p (some o)) (upd H p u) := ⟨fun a o' e => by
  by_cases ha : a = p
  · subst ha; rw [mset_same] at e; cases e; exact new
  · rw [mset_ne ha] at e
    exact (h a o' e).keep (Keeps.newM n) (upd_ne ha), fun a s => by
  obtain ⟨m, xs, q⟩ := h.hid a s
  have hne := ne_of_none q n
  exact ⟨by rw [mset_ne hne]; exact m, xs, by rw [upd_ne hne]; exact q⟩⟩
/-- an object changes -/
theorem Keeps.write {u : HO} {o' : Mo} (h : Hold K S cls M H) (e : M p = some o) : Keeps K M H (mset M p (some o')) (upd H p u) := by
  obtain ⟨v, q, nt, nf, _⟩ := (h p o e).some
  refine ⟨sqT_upd (fun w z => by rw [q] at z; cases z; exact ⟨nt, nf⟩), fun a xs m r => ?_⟩
  have hne : a ≠ p := fun z => by rw [z, e] at m; cases m
  exact ⟨by rw [mset_ne hne]; exact m, by rw [upd_ne hne]; exact r⟩
theorem Hold.write {u : HO} {o' : Mo} (h : Hold K S cls M H) (e : M p = some o) (new : MoAt K S cls (mset M p (some o')) (upd H p u) p o') : Hold K S cls (mset M p (some o')) (upd H p u) := ⟨fun a v q => by
  by_cases ha : a = p
  · subst ha; rw [mset_same] at q; cases q; exact new
  · rw [mset_ne ha] at q
    exact (h a v q).keep (Keeps.write h e) (upd_ne ha), fun a s => by
  obtain ⟨m, xs, q⟩ := h.hid a s
  have hne : a ≠ p := fun z => by rw [z, e] at m; cases m
  exact ⟨by rw [mset_ne hne]; exact m, xs, by rw [upd_ne hne]; exact q⟩⟩
/-- a list stays from now on -/
theorem Keeps.freeze : Keeps K M H (mset M p none) H := ⟨fun _ _ h => h, fun a xs m h => ⟨by
  unfold mset
  split
  · rfl
  · exact m, h⟩⟩
theorem Hold.freeze (h : Hold K S cls M H) : Hold K S cls (mset M p Option.none) H := ⟨fun a v q => by
  by_cases ha : a = p
  · subst ha; rw [mset_same] at q; cases q
  · rw [mset_ne ha] at q
    exact (h a v q).keep Keeps.freeze rfl, fun a s => by
  obtain ⟨m, q⟩ := h.hid a s
  refine ⟨?_, q⟩
  unfold mset
  split
  · rfl
  · exact m⟩
theorem relD_freeze {ds : List Dt} (h : Hold K S cls M H) (e : M p = some (.lst ds)) : RelD K S (mset M p Option.none) H (.lst ds) (.ref p) := by
  obtain ⟨xs, q, r⟩ := h p _ e
  exact .lst mset_same (fun s => by have := (h.hid p s).1; rw [e] at this; cases this) (.inl q) (r.keep Keeps.freeze)
end

/-! ### hidden lists -/
section
variable {K : PySem.W.Frag} {S : Addr → Prop} {cls : Nat → Addr} {M : Mm} {H : Hp} {D : Addr}
/-- a new list is hidden -/
def hidS (S : Addr → Prop) (D : Addr) : Addr → Prop := fun a => S a ∨ a = D
mutual
theorem RelD.more {S' : Addr → Prop} (hs : ∀ a, S' a → S a ∨ H a = none) : ∀ {d : Dt} {v : V}, RelD K S M H d v → RelD K S' M H d v
  | _, _, .non => .non
  | _, _, .bl b => .bl b
  | _, _, .int b => .int b
  | _, _, .str b => .str b
  | _, _, .tup h r => .tup h (RelDs.more hs r)
  | _, _, .lst m ns h r => .lst m (fun s => (hs _ s).elim ns fun n => by
      rcases h with h | ⟨b, h⟩ <;> (rw [n] at h; cases h)) h (RelDs.more hs r)
  | _, _, .lstK h r => .lstK h (RelDs.more hs r)
  | _, _, .ref a => .ref a
theorem RelDs.more {S' : Addr → Prop} (hs : ∀ a, S' a → S a ∨ H a = none) : ∀ {ds : List Dt} {vs : List V}, RelDs K S M H ds vs → RelDs K S' M H ds vs
  | _, _, .nil => .nil
  | _, _, .cons r t => .cons (RelD.more hs r) (RelDs.more hs t)
end
theorem hidS_new (n : H D = none) : ∀ a, hidS S D a → S a ∨ H a = none := fun a s => s.elim .inl fun e => .inr (by rw [e]; exact n)
theorem RelD.hide (n : H D = none) {d : Dt} {v : V} (r : RelD K S M H d v) : RelD K (hidS S D) M H d v := r.more (hidS_new n)
theorem RelDs.hide (n : H D = none) {d : List Dt} {v : List V} (r : RelDs K S M H d v) : RelDs K (hidS S D) M H d v := r.more (hidS_new n)
/- the hidden list is told of from now on -/
mutual
theorem RelD.thaw {o : Option Mo} : ∀ {d : Dt} {v : V}, RelD K (hidS S D) M H d v → RelD K S (mset M D o) H d v
  | _, _, .non => .non
  | _, _, .bl b => .bl b
  | _, _, .int b => .int b
  | _, _, .str b => .str b
  | _, _, .tup h r => .tup h (RelDs.thaw r)
  | _, _, .lst m ns h r => .lst (by rw [mset_ne fun e => ns (.inr e)]; exact m) (fun s => ns (.inl s)) h (RelDs.thaw r)
  | _, _, .lstK h r => .lstK h (RelDs.thaw r)
  | _, _, .ref a => .ref a
theorem RelDs.thaw {o : Option Mo} : ∀ {ds : List Dt} {vs : List V}, RelDs K (hidS S D) M H ds vs → RelDs K S (mset M D o) H ds vs
  | _, _, .nil => .nil
  | _, _, .cons r t => .cons (RelD.thaw r) (RelDs.thaw t)
end
mutual
theorem RelD.show : ∀ {d : Dt} {v : V}, RelD K (hidS S D) M H d v → RelD K S M H d v
  | _, _, .non => .non
  | _, _, .bl b => .bl b
  | _, _, .int b => .int b
  | _, _, .str b => .str b
  | _, _, .tup h r => .tup h (RelDs.show r)
  | _, _, .lst m ns h r => .lst m (fun s => ns (.inl s)) h (RelDs.show r)
  | _, _, .lstK h r => .lstK h (RelDs.show r)
  | _, _, .ref a => .ref a
theorem RelDs.show : ∀ {ds : List Dt} {vs : List V}, RelDs K (hidS S D) M H ds vs → RelDs K S M H ds vs
  | _, _, .nil => .nil
  | _, _, .cons r t => .cons (RelD.show r) (RelDs.show t)
end
/-- the hidden list grows -/
theorem sqT_hid {xs : List V} {u : HO} (e : H D = some (.lst xs)) : ∀ a zs, SqT K H a zs → SqT K (upd H D u) a zs := sqT_upd fun v q => by
  rw [e] at q; cases q
  exact ⟨(fun _ z => by cases z), (fun _ _ z => by cases z)⟩
mutual
theorem RelD.grow {xs : List V} {u : HO} (s : S D) (e : H D = some (.lst xs)) : ∀ {d : Dt} {v : V}, RelD K S M H d v → RelD K S M (upd H D u) d v
  | _, _, .non => .non
  | _, _, .bl b => .bl b
  | _, _, .int b => .int b
  | _, _, .str b => .str b
  | _, _, .tup h r => .tup (sqT_hid e _ _ h) (RelDs.grow s e r)
  | _, _, .lst (a := a) m ns h r => .lst m ns (by
      have hne : a ≠ D := fun z => ns (by rw [z]; exact s)
      rcases h with h | ⟨b, h⟩
      · exact .inl (by rw [upd_ne hne]; exact h)
      · exact .inr ⟨b, by rw [upd_ne hne]; exact h⟩) (RelDs.grow s e r)
  | _, _, .lstK h r => .lstK h (RelDs.grow s e r)
  | _, _, .ref a => .ref a
theorem RelDs.grow {xs : List V} {u : HO} (s : S D) (e : H D = some (.lst xs)) : ∀ {ds : List Dt} {vs : List V}, RelDs K S M H ds vs → RelDs K S M (upd H D u) ds vs
  | _, _, .nil => .nil
  | _, _, .cons r t => .cons (RelD.grow s e r) (RelDs.grow s e t)
end
theorem MoAt.hide {a : Addr} {o : Mo} (n : H D = Option.none) (h : MoAt K S cls M H a o) : MoAt K (hidS S D) cls M H a o := by
  cases o with
  | lst ds => obtain ⟨xs, q, r⟩ := h; exact ⟨xs, q, r.hide n⟩
  | dK ds => obtain ⟨xs, q, r⟩ := h; exact ⟨xs, q, Paired.mapP r fun _ _ z => ⟨z.1, z.2.hide n⟩⟩
  | dT ds => obtain ⟨xs, q, r⟩ := h; exact ⟨xs, q, Paired.mapP r fun _ _ z => ⟨z.1, z.2.hide n⟩⟩
  | ins c fs => obtain ⟨dx, xs, q, r⟩ := h; exact ⟨dx, xs, q, Paired.mapP r fun _ _ z => ⟨z.1, z.2.hide n⟩⟩
theorem MoAt.show {a : Addr} {o : Mo} (h : MoAt K (hidS S D) cls M H a o) : MoAt K S cls M H a o := by
  cases o with
  | lst ds => obtain ⟨xs, q, r⟩ := h; exact ⟨xs, q, r.show⟩
  | dK ds => obtain ⟨xs, q, r⟩ := h; exact ⟨xs, q, Paired.mapP r fun _ _ z => ⟨z.1, z.2.show⟩⟩
  | dT ds => obtain ⟨xs, q, r⟩ := h; exact ⟨xs, q, Paired.mapP r fun _ _ z => ⟨z.1, z.2.show⟩⟩
  | ins c fs => obtain ⟨dx, xs, q, r⟩ := h; exact ⟨dx, xs, q, Paired.mapP r fun _ _ z => ⟨z.1, z.2.show⟩⟩
theorem MoAt.grow {a : Addr} {o : Mo} {xs : List V} {u : HO} (s : S D) (e : H D = Option.some (HO.lst xs)) (hne : a ≠ D) (h : MoAt K S cls M H a o) : MoAt K S cls M (upd H D u) a o := by
  cases o with
  | lst ds => obtain ⟨xs, q, r⟩ := h; exact ⟨xs, (upd_ne hne).trans q, r.grow s e⟩
  | dK ds => obtain ⟨xs, q, r⟩ := h; exact ⟨xs, (upd_ne hne).trans q, Paired.mapP r fun _ _ z => ⟨z.1, z.2.grow s e⟩⟩
  | dT ds => obtain ⟨xs, q, r⟩ := h; exact ⟨xs, (upd_ne hne).trans q, Paired.mapP r fun _ _ z => ⟨z.1, z.2.grow s e⟩⟩
  | ins c fs => obtain ⟨dx, xs, q, r⟩ := h; exact ⟨dx, xs, (upd_ne hne).trans q, Paired.mapP r fun _ _ z => ⟨z.1, z.2.grow s e⟩⟩
theorem MoAt.thaw {a : Addr} {o : Mo} {z : Option Mo} (h : MoAt K (hidS S D) cls M H a o) : MoAt K S cls (mset M D z) H a o := by
  cases o with
  | lst ds => obtain ⟨xs, q, r⟩ := h; exact ⟨xs, q, r.thaw⟩
  | dK ds => obtain ⟨xs, q, r⟩ := h; exact ⟨xs, q, Paired.mapP r fun _ _ z => ⟨z.1, z.2.thaw⟩⟩
  | dT ds => obtain ⟨xs, q, r⟩ := h; exact ⟨xs, q, Paired.mapP r fun _ _ z => ⟨z.1, z.2.thaw⟩⟩
  | ins c fs => obtain ⟨dx, xs, q, r⟩ := h; exact ⟨dx, xs, q, Paired.mapP r fun _ _ z => ⟨z.1, z.2.thaw⟩⟩
/-- from ahead of the list's making to behind it -/
theorem Hold.hide (h : Hold K S cls M H) (n : H D = Option.none) (xs : List V) : Hold K (hidS S D) cls M (upd H D (.lst xs)) := ⟨fun a o e => by
  obtain ⟨v, q, _⟩ := (h a o e).some
  exact ((h a o e).hide n).keep (Keeps.newH n) (upd_ne (ne_of_none q n)), fun a s => by
  rcases s with s | rfl
  · obtain ⟨m, xs, q⟩ := h.hid a s
    exact ⟨m, xs, by rw [upd_ne (ne_of_none q n)]; exact q⟩
  · exact ⟨h.none n, xs, upd_same⟩⟩
theorem Hold.grow {xs : List V} (h : Hold K S cls M H) (s : S D) (ys : List V) (e : H D = Option.some (HO.lst xs)) : Hold K S cls M (upd H D (.lst ys)) := ⟨fun a o q => (h a o q).grow s e (fun z => by
  rw [z, (h.hid D s).1] at q
  cases q), fun a sa => by
  obtain ⟨m, zs, q⟩ := h.hid a sa
  refine ⟨m, ?_⟩
  by_cases ha : a = D
  · exact ⟨ys, by rw [ha]; exact upd_same⟩
  · exact ⟨zs, by rw [upd_ne ha]; exact q⟩⟩
theorem Hold.show (h : Hold K (hidS S D) cls M H) : Hold K S cls M H := ⟨fun a o e => (h a o e).show, fun a s => h.hid a (.inl s)⟩
theorem Hold.thaw {ds : List Dt} {xs : List V} (h : Hold K (hidS S D) cls M H) (ns : ¬ S D) (e : H D = Option.some (HO.lst xs)) (r : RelDs K (hidS S D) M H ds xs) : Hold K S cls (mset M D (Option.some (Mo.lst ds))) H := ⟨fun a o q => by
  by_cases ha : a = D
  · subst ha
    rw [mset_same] at q
    cases q
    exact ⟨xs, e, r.thaw⟩
  · rw [mset_ne ha] at q
    exact (h a o q).thaw, fun a s => by
  obtain ⟨m, q⟩ := h.hid a (.inl s)
  exact ⟨by rw [mset_ne fun z => ns (by rw [← z]; exact s)]; exact m, q⟩⟩
/-- what stood ahead of the list's making is kept while it grows, and where it is told of -/
theorem Keeps.grown {M0 : Mm} {H0 : Hp} {xs ys : List V} (k : Keeps K M0 H0 M H) (n : H0 D = Option.none) (e : H D = Option.some (HO.lst xs)) : Keeps K M0 H0 M (upd H D (.lst ys)) :=
  ⟨fun a zs q => sqT_hid e a zs (k.tup a zs q), fun a u m q => ⟨(k.stay a u m q).1, by rw [upd_ne (ne_of_none q n)]; exact (k.stay a u m q).2⟩⟩
theorem Keeps.told {M0 : Mm} {H0 : Hp} {o : Option Mo} (k : Keeps K M0 H0 M H) (n : H0 D = Option.none) : Keeps K M0 H0 (mset M D o) H :=
  ⟨k.tup, fun a u m q => ⟨by rw [mset_ne (ne_of_none q n)]; exact (k.stay a u m q).1, (k.stay a u m q).2⟩⟩
end

/-! ### reading -/
section
variable {K : PySem.W.Frag} {S : Addr → Prop} {cls : Nat → Addr} {M M' : Mm} {H H' : Hp} {a p : Addr} {ds : List Dt} {v : V}
theorem RelD.ofLst (r : RelD K S M H (.lst ds) v) : ∃ a xs, v = .ref a ∧ SqL K H a xs ∧ RelDs K S M H ds xs := by
  cases r with
  | lst n ns h r => exact ⟨_, _, rfl, .inl h, r⟩
  | lstK h r => exact ⟨_, _, rfl, .inr h, r⟩
theorem RelD.ofTup (r : RelD K S M H (.tup ds) v) : ∃ a xs, v = .ref a ∧ SqT K H a xs ∧ RelDs K S M H ds xs := by
  cases r with
  | tup h r => exact ⟨_, _, rfl, h, r⟩
/-- a list, a tuple that is read: its items -/
def seqL (M : Mm) : Dt → Option (List Dt)
  | .lst ds => some ds
  | .ref a => match M a with
    | some (.lst ds) => some ds
    | _ => none
  | _ => none
theorem seqL_rel {d : Dt} (h : Hold K S cls M H) (r : RelD K S M H d v) (e : seqL M d = some ds) : ∃ a xs, v = .ref a ∧ SqL K H a xs ∧ RelDs K S M H ds xs := by
  cases d with
  | lst es => cases e; exact r.ofLst
  | ref a =>
    cases r with
    | ref a =>
      simp only [seqL] at e
      split at e
      · rename_i es q
        cases e
        obtain ⟨xs, q1, q2⟩ := h _ _ q
        exact ⟨a, xs, rfl, .inl (.inl q1), q2⟩
      · cases e
  | non => cases e
  | bl _ => cases e
  | int _ => cases e
  | str _ => cases e
  | tup _ => cases e
end
end Fm

/-! The engine, part B: a small language, what its texts want (wp), and that wishes may be weakened. -/
namespace Fm
open PySem L2

abbrev Rho := List (Option Dt)
structure Xc where
  c : Nat
  fs : List (Str × Dt)
abbrev QD := Dt → Mm → Prop
abbrev QL := List Dt → Mm → Prop
abbrev QB := Bool → Mm → Prop
abbrev QX := Xc → Mm → Prop
abbrev QR := Rho → Mm → Prop
/-- what a def does -/
structure Wf where
  run : List Dt → Mm → QD → QX → Prop
  mono : ∀ {ds M} {q q' : QD} {x x' : QX}, (∀ d M, q d M → q' d M) → (∀ e M, x e M → x' e M) → run ds M q x → run ds M q' x'

inductive BO where | add | sub | mul | fdiv | mod | pow | xor
  deriving DecidableEq
inductive CO where | eq | ne | lt | le | gt | ge | is_ | isnot | in_ | notin
  deriving DecidableEq
inductive BI where | len | min2 | max2 | maxL | minL | sumL | anyL | allL | listOf (live : Bool) | tupOf | dictOf | sorted (live : Bool) | abs
  deriving DecidableEq
inductive MI where | append | pop | get1 | get2 | clear | reverse
  deriving DecidableEq
inductive TyR where | ty (n : String) | cls (c : Nat)
  deriving DecidableEq

mutual
inductive E where
  | var (i : Nat) | int (z : Int) | str (s : Str) | bl (b : Bool) | non | glob (g : Nat)
  | bin (o : BO) (a b : E) | neg (a : E) | cmp (o : CO) (a b : E) | cmp2 (o p : CO) (a b c : E)
  | bop (k : Bool) (as : Es) | not_ (a : E) | ite (c : T) (a b : E)
  | tup (as : Es) | lst (live : Bool) (as : Es) | ix (a b : E) | sl (a : E) (lo hi : EO)
  | call (g : Nat) (as : Es) | bi (f : BI) (as : Es) | mt (m : MI) (a : E) (as : Es)
  | fld (a : E) (f : Str) | isi (a : E) (ts : List TyR) (tup : Bool)
  | lc (live : Bool) (own : List (Str × Nat)) (t : Tg) (it : Ie) (cs : Ts) (e : E)
  | frz (a : E)
inductive Es where | nil | cons (e : E) (es : Es)
inductive EO where | none | some (e : E)
inductive T where | val (a : E) | cmp (o : CO) (a b : E) | cmp2 (o p : CO) (a b c : E) | not_ (t : T) | all (ts : Ts) | any (ts : Ts)
inductive Ts where | nil | cons (t : T) (ts : Ts)
inductive Ie where | seq (a : E) | rng1 (a : E) | rng2 (a b : E)
inductive Tg where | name (i : Nat) | tup (gs : Tgs) | ix (a b : E)
inductive Tgs where | nil | cons (g : Tg) (gs : Tgs)
end
mutual
inductive Sm where
  | asg (t : Tg) (e : E) | asgC (i : Nat) (e : E) | par (i j : Nat) (a b : E) | aug (i : Nat) (o : BO) (e : E) | expr (e : E)
  | if_ (c : T) (a b : Sms) | for_ (t : Tg) (it : Ie) (b : Sms) | while_ (c : T) (b : Sms)
  | ret (e : E) | retN | brk | cont | pass | never
inductive Sms where | nil | cons (s : Sm) (ss : Sms)
end

def Tgs.len : Tgs → Nat
  | .nil => 0
  | .cons _ gs => gs.len + 1

/-! ### what operations do -/
def kD : Key → Dt
  | .inl i => .int i
  | .inr s => .str s
def keyOf : Dt → Option Key
  | .int i => some (.inl i)
  | .str s => some (.inr s)
  | _ => none
theorem keyOf_kD {d : Dt} {k : Key} (h : keyOf d = some k) : d = kD k := by
  cases d <;> first | (cases h; rfl) | cases h
def valD {κ : Type} [DecidableEq κ] (kvs : List (κ × Dt)) (k : κ) : Option Dt := (kvs.find? fun kv => decide (kv.1 = k)).map (·.2)
def putD {κ : Type} [DecidableEq κ] (kvs : List (κ × Dt)) (k : κ) (v : Dt) : List (κ × Dt) :=
  if (kvs.any fun kv => decide (kv.1 = k)) = true then kvs.map fun kv => if kv.1 = k then (kv.1, v) else kv else kvs ++ [(k, v)]
def mergeD {κ : Type} [DecidableEq κ] (kvs more : List (κ × Dt)) : List (κ × Dt) := more.foldl (fun acc kv => putD acc kv.1 kv.2) kvs
def dropD {κ : Type} [DecidableEq κ] (kvs : List (κ × Dt)) (k : κ) : List (κ × Dt) := kvs.filter fun kv => !decide (kv.1 = k)

mutual
/-- plain data -/
def pyD : Dt → Option PyData
  | .non => some .none
  | .bl b => some (.bool b)
  | .int i => some (.int i)
  | .str s => some (.str s)
  | .tup ds => (pyDs ds).map .tuple
  | .lst ds => (pyDs ds).map .list
  | .ref _ => none
def pyDs : List Dt → Option (List PyData)
  | [] => some []
  | d :: ds => (pyD d).bind fun p => (pyDs ds).map fun r => p :: r
end
/-- a list that changes is read as it stands -/
def pyM (M : Mm) : Dt → Option PyData
  | .ref a => match M a with
    | some (.lst ds) => (pyDs ds).map .list
    | _ => none
  | d => pyD d

/-- the items of a tuple, of a list -/
def itemsD (M : Mm) : Dt → Option (List Dt)
  | .tup ds => some ds
  | d => seqL M d
def enD (d : Dt) : PyData := (pyD d).getD .none
def newL (live : Bool) (ds : List Dt) (M : Mm) (q : QD) : Prop :=
  if live = true then ∀ p, M p = none → q (.ref p) (mset M p (some (.lst ds))) else q (.lst ds) M

def mulOk (i j : Int) : Prop := CMul i j ∨ CMulW i j
def binD (o : BO) (x y : Dt) (M : Mm) (q : QD) : Prop :=
  match o, x, y with
  | .add, .int i, .int j => q (.int (i + j)) M
  | .add, .str i, .str j => i.length + j.length ≤ sizeLine ∧ q (.str (i ++ j)) M
  | .sub, .int i, .int j => q (.int (i - j)) M
  | .mul, .int i, .int j => mulOk i j ∧ q (.int (i * j)) M
  | .fdiv, .int i, .int j => CDivW i j ∧ q (.int (i / j)) M
  | .mod, .int i, .int j => 0 < j ∧ q (.int (i % j)) M
  | .pow, .int i, .int j => CPow i j ∧ q (.int (i ^ j.toNat)) M
  | .xor, .int i, .int j => q (.int (Builtin.bitXor i j)) M
  | _, _, _ => False
def flatD : Dt → Option V
  | .non => some .non
  | .bl b => some (.bl b)
  | .int i => some (.int i)
  | .str s => some (.str s)
  | _ => none
def flatDs : List Dt → Option (List V)
  | [] => some []
  | d :: ds => (flatD d).bind fun v => (flatDs ds).map fun r => v :: r
/-- is it among the items (flat ones) or among the keys -/
def inD (M : Mm) (x y : Dt) : Option Bool :=
  match y with
  | .tup ds => (flatD x).bind fun v => (flatDs ds).map fun vs => inV v vs
  | .lst ds => (flatD x).bind fun v => (flatDs ds).map fun vs => inV v vs
  | .ref a => match M a with
    | some (.lst ds) => (flatD x).bind fun v => (flatDs ds).map fun vs => inV v vs
    | some (.dK kvs) => (keyOf x).map fun k => (valD kvs k).isSome
    | _ => none
  | _ => none
def eqD (M : Mm) (x y : Dt) : Option Bool :=
  match x, y with
  | .int i, .int j => some (decide (i = j))
  | .str i, .str j => some (decide (i = j))
  | .bl i, .bl j => some (decide (i = j))
  | x, y => match pyM M x, pyM M y with
    | some d, some e => if SeqAt.shaped d = true ∧ SeqAt.shaped e = true then some (PyData.eqv d e) else none
    | _, _ => none
def cmpD (o : CO) (x y : Dt) (M : Mm) : Option Bool :=
  match o, x, y with
  | .lt, .int i, .int j => some (decide (i < j))
  | .lt, .str i, .str j => some (decide (i.cps.toList < j.cps.toList))
  | .le, .int i, .int j => some (decide (i ≤ j))
  | .gt, .int i, .int j => some (decide (j < i))
  | .ge, .int i, .int j => some (decide (j ≤ i))
  | .eq, x, y => eqD M x y
  | .ne, x, y => (eqD M x y).map (!·)
  | .is_, .non, .non => some true
  | .is_, _, .non => some false
  | .isnot, .non, .non => some false
  | .isnot, _, .non => some true
  | .in_, x, y => inD M x y
  | .notin, x, y => (inD M x y).map (!·)
  | _, _, _ => none
def truMo : Option Mo → Option Bool
  | some (.lst ds) => some (!ds.isEmpty)
  | some (.dK ds) => some (!ds.isEmpty)
  | _ => none
def truD (M : Mm) : Dt → Option Bool
  | .bl b => some b
  | .non => some false
  | .int i => some (i != 0)
  | .lst ds => some (!ds.isEmpty)
  | .tup ds => some (!ds.isEmpty)
  | .ref a => truMo (M a)
  | .str _ => none
def ixMo : Option Mo → Dt → Option Dt
  | some (.lst ds), .int i => atI ds i
  | some (.dK kvs), y => (keyOf y).bind fun k => valD kvs k
  | _, _ => none
def ixD (M : Mm) (x y : Dt) : Option Dt :=
  match x, y with
  | .tup ds, .int i => atI ds i
  | .lst ds, .int i => atI ds i
  | .ref a, y => ixMo (M a) y
  | _, _ => none
def cutD (xs : List Dt) (lo hi : Option Int) : List Dt := (xs.drop (HT.sIx xs.length 0 lo)).take (HT.sIx xs.length xs.length hi - HT.sIx xs.length 0 lo)
def biD (f : BI) (ds : List Dt) (M : Mm) (q : QD) : Prop :=
  match f, ds with
  | .len, [.str s] => s.length ≤ sizeLine ∧ q (.int s.length) M
  | .len, [.tup ds] => q (.int ds.length) M
  | .len, [.lst ds] => q (.int ds.length) M
  | .len, [.ref a] => (match M a with
    | some (.lst ds) => q (.int ds.length) M
    | some (.dK ds) => q (.int ds.length) M
    | _ => False)
  | .min2, [.int i, .int j] => q (.int (if j < i then j else i)) M
  | .max2, [.int i, .int j] => q (.int (if j > i then j else i)) M
  | .maxL, [d] => ∃ ns : List Int, itemsD M d = some (ns.map .int) ∧ 0 < ns.length ∧ ∀ m, m ∈ ns → (∀ y, y ∈ ns → y ≤ m) → q (.int m) M
  | .minL, [d] => ∃ ns : List Int, itemsD M d = some (ns.map .int) ∧ 0 < ns.length ∧ ∀ m, m ∈ ns → (∀ y, y ∈ ns → m ≤ y) → q (.int m) M
  | .sumL, [d] => ∃ ns : List Int, seqL M d = some (ns.map .int) ∧ q (.int ns.sum) M
  | .anyL, [d] => ∃ bs : List Bool, seqL M d = some (bs.map .bl) ∧ q (.bl (bs.any id)) M
  | .allL, [d] => ∃ bs : List Bool, seqL M d = some (bs.map .bl) ∧ q (.bl (bs.all id)) M
  | .listOf live, [.tup ds] => newL live ds M q
  | .listOf live, [d] => ∃ ds, seqL M d = some ds ∧ newL live ds M q
  | .tupOf, [.tup ds] => q (.tup ds) M
  | .tupOf, [d] => ∃ ds, seqL M d = some ds ∧ q (.tup ds) M
  | .dictOf, [d] => ∃ kvs : List (Key × Dt), seqL M d = some (kvs.map fun p => .tup [kD p.1, p.2]) ∧ ∀ p, M p = none → q (.ref p) (mset M p (some (.dK (mergeD [] kvs))))
  | .sorted live, [d] => ∃ ds : List Dt, seqL M d = some ds ∧ (∀ d, d ∈ ds → (pyD d).isSome = true ∧ (enD d).depth ≤ 60) ∧ PySem.W.AllAlike (ds.map enD) ∧ PySem.W.Sortable (ds.map enD) ∧ newL live (ds.mergeSort (PySem.W.dataLe false enD)) M q
  | .abs, [.int i] => q (.int (if i < 0 then -i else i)) M
  | _, _ => False
/-- has the value this method -/
def mtOkMo : MI → Option Mo → Bool
  | .append, some (.lst _) => true
  | .pop, some (.lst _) => true
  | .clear, some (.lst _) => true
  | .reverse, some (.lst _) => true
  | .get1, some (.dK _) => true
  | .get2, some (.dK _) => true
  | _, _ => false
def mtOk (m : MI) (M : Mm) : Dt → Bool
  | .ref a => mtOkMo m (M a)
  | _ => false
def mtD (m : MI) (x : Dt) (ds : List Dt) (M : Mm) (q : QD) : Prop :=
  match m, x, ds with
  | .append, .ref a, [d] => (match M a with
    | some (.lst xs) => xs.length < sizeLine ∧ q .non (mset M a (some (.lst (xs ++ [d]))))
    | _ => False)
  | .pop, .ref a, [] => (match M a with
    | some (.lst xs) => ∃ d, xs[xs.length - 1]? = some d ∧ q d (mset M a (some (.lst xs.dropLast)))
    | _ => False)
  | .clear, .ref a, [] => (match M a with
    | some (.lst xs) => q .non (mset M a (some (.lst [])))
    | _ => False)
  | .reverse, .ref a, [] => (match M a with
    | some (.lst xs) => q .non (mset M a (some (.lst xs.reverse)))
    | _ => False)
  | .get1, .ref a, [k] => (match M a, keyOf k with
    | some (.dK kvs), some k => q ((valD kvs k).getD .non) M
    | _, _ => False)
  | .get2, .ref a, [k, z] => (match M a, keyOf k with
    | some (.dK kvs), some k => q ((valD kvs k).getD z) M
    | _, _ => False)
  | _, _, _ => False
def tyMo : Option Mo → Option String
  | some (.lst _) => some "list"
  | some (.dK _) => some "dict"
  | some (.dT _) => some "dict"
  | _ => none
def tyD (M : Mm) : Dt → Option String
  | .non => some "NoneType"
  | .bl _ => some "bool"
  | .int _ => some "int"
  | .str _ => some "str"
  | .tup _ => some "tuple"
  | .lst _ => some "list"
  | .ref a => tyMo (M a)
/-- isinstance of data, of built-in types -/
def isiD (M : Mm) (d : Dt) : List TyR → Option Bool
  | [] => some false
  | .ty n :: r => match tyD M d with
    | some t => match kitB t n with
      | some true => some true
      | some false => isiD M d r
      | none => none
    | none => none
  | .cls _ :: _ => none

/-! ### runs over items -/
def lcRun (step : Dt → Mm → (Option Dt → Mm → Prop) → Prop) : List Dt → List Dt → Mm → QL → Prop
  | [], acc, M, q => q acc M
  | d :: r, acc, M, q => step d M fun o M' => match o with
    | some y => acc.length < sizeLine ∧ lcRun step r (acc ++ [y]) M' q
    | none => lcRun step r acc M' q
def forRun (keep : Mm → Prop) (step : Dt → Rho → Mm → QR → Prop) : List Dt → Rho → Mm → QR → Prop
  | [], ρ, M, q => keep M ∧ q ρ M
  | d :: r, ρ, M, q => keep M ∧ step d ρ M fun ρ' M' => forRun keep step r ρ' M' q
def whRun (step : QR → Rho → Mm → Prop) : Nat → Rho → Mm → Prop
  | 0, _, _ => False
  | n + 1, ρ, M => step (whRun step n) ρ M
def wipeR (ρ : Rho) : List Nat → Rho
  | [] => ρ
  | v :: vs => (wipeR ρ vs).set v none

/-! ### what texts want -/
structure Gt where
  call : Nat → Wf
  gval : Nat → Dt
mutual
def wpE (G : Gt) : E → Rho → Mm → QD → QX → Prop
  | .var i, ρ, M, q, _ => ∃ d, ρ[i]? = some (some d) ∧ q d M
  | .int z, _, M, q, _ => q (.int z) M
  | .str s, _, M, q, _ => q (.str s) M
  | .bl b, _, M, q, _ => q (.bl b) M
  | .non, _, M, q, _ => q .non M
  | .glob g, _, M, q, _ => q (G.gval g) M
  | .bin o a b, ρ, M, q, x => wpE G a ρ M (fun u M1 => wpE G b ρ M1 (fun v M2 => binD o u v M2 q) x) x
  | .neg a, ρ, M, q, x => wpE G a ρ M (fun u M1 => ∃ i, u = .int i ∧ q (.int (-i)) M1) x
  | .cmp o a b, ρ, M, q, x => wpE G a ρ M (fun u M1 => wpE G b ρ M1 (fun v M2 => ∃ k, cmpD o u v M2 = some k ∧ q (.bl k) M2) x) x
  | .cmp2 o p a b c, ρ, M, q, x => wpE G a ρ M (fun u M1 => wpE G b ρ M1 (fun v M2 => ∃ k, cmpD o u v M2 = some k ∧
      if k = true then wpE G c ρ M2 (fun w M3 => ∃ k, cmpD p v w M3 = some k ∧ q (.bl k) M3) x else q (.bl false) M2) x) x
  | .bop k as, ρ, M, q, x => wpB G k as ρ M q x
  | .not_ a, ρ, M, q, x => wpE G a ρ M (fun u M1 => ∃ k, u = .bl k ∧ q (.bl (!k)) M1) x
  | .ite c a b, ρ, M, q, x => wpT G c ρ M (fun k M1 => if k = true then wpE G a ρ M1 q x else wpE G b ρ M1 q x) x
  | .tup as, ρ, M, q, x => wpEs G as ρ M (fun ds M1 => ds.length ≤ sizeLine ∧ q (.tup ds) M1) x
  | .lst live as, ρ, M, q, x => wpEs G as ρ M (fun ds M1 => ds.length ≤ sizeLine ∧ newL live ds M1 q) x
  | .ix a b, ρ, M, q, x => wpE G a ρ M (fun u M1 => wpE G b ρ M1 (fun v M2 => ∃ d, ixD M2 u v = some d ∧ q d M2) x) x
  | .sl a lo hi, ρ, M, q, x => wpE G a ρ M (fun u M1 => wpO G lo ρ M1 (fun l M2 => wpO G hi ρ M2 (fun h M3 => ∃ ds, seqL M3 u = some ds ∧ q (.lst (cutD ds l h)) M3) x) x) x
  | .call g as, ρ, M, q, x => wpEs G as ρ M (fun ds M1 => (G.call g).run ds M1 q x) x
  | .bi f as, ρ, M, q, x => wpEs G as ρ M (fun ds M1 => biD f ds M1 q) x
  | .mt m a as, ρ, M, q, x => wpE G a ρ M (fun u M1 => mtOk m M1 u = true ∧ wpEs G as ρ M1 (fun ds M2 => mtD m u ds M2 q) x) x
  | .fld a f, ρ, M, q, x => wpE G a ρ M (fun u M1 => ∃ p c fs d, u = .ref p ∧ M1 p = some (.ins c fs) ∧ fs.lookup f = some d ∧ q d M1) x
  | .isi a ts _, ρ, M, q, x => wpE G a ρ M (fun u M1 => ∃ k, isiD M1 u ts = some k ∧ q (.bl k) M1) x
  | .lc live own t it cs e, ρ, M, q, x => wpI G it ρ M (fun ds keep M1 => lcRun (fun d M2 k => keep M2 ∧ wpG G t d (wipeR ρ (own.map (·.2))) M2 (fun ρ3 M3 =>
      wpAll G cs ρ3 M3 (fun b M4 => if b = true then wpE G e ρ3 M4 (fun y M5 => k (some y) M5) (fun _ _ => False) else k none M4) (fun _ _ => False)) (fun _ _ => False)) ds [] M1
      (fun acc M2 => keep M2 ∧ newL live acc M2 q)) x
  | .frz a, ρ, M, q, x => wpE G a ρ M (fun u M1 => match u with
    | .ref p => (match M1 p with
      | some (.lst ds) => q (.lst ds) (mset M1 p none)
      | _ => q u M1)
    | u => q u M1) x
def wpEs (G : Gt) : Es → Rho → Mm → QL → QX → Prop
  | .nil, _, M, q, _ => q [] M
  | .cons e es, ρ, M, q, x => wpE G e ρ M (fun d M1 => wpEs G es ρ M1 (fun ds M2 => q (d :: ds) M2) x) x
def wpO (G : Gt) : EO → Rho → Mm → (Option Int → Mm → Prop) → QX → Prop
  | .none, _, M, q, _ => q none M
  | .some e, ρ, M, q, x => wpE G e ρ M (fun d M1 => ∃ i, d = .int i ∧ q (some i) M1) x
/-- and, or as values -/
def wpB (G : Gt) (k : Bool) : Es → Rho → Mm → QD → QX → Prop
  | .nil, _, _, _, _ => False
  | .cons e es, ρ, M, q, x => wpE G e ρ M (fun d M1 => match es with
    | .nil => q d M1
    | es => ∃ b, d = .bl b ∧ if b = k then wpB G k es ρ M1 q x else q (.bl b) M1) x
def wpT (G : Gt) : T → Rho → Mm → QB → QX → Prop
  | .val a, ρ, M, q, x => wpE G a ρ M (fun d M1 => ∃ b, truD M1 d = some b ∧ q b M1) x
  | .cmp o a b, ρ, M, q, x => wpE G a ρ M (fun u M1 => wpE G b ρ M1 (fun v M2 => ∃ k, cmpD o u v M2 = some k ∧ q k M2) x) x
  | .cmp2 o p a b c, ρ, M, q, x => wpE G a ρ M (fun u M1 => wpE G b ρ M1 (fun v M2 => ∃ k, cmpD o u v M2 = some k ∧
      if k = true then wpE G c ρ M2 (fun w M3 => ∃ k, cmpD p v w M3 = some k ∧ q k M3) x else q false M2) x) x
  | .not_ t, ρ, M, q, x => wpT G t ρ M (fun b M1 => q (!b) M1) x
  | .all ts, ρ, M, q, x => wpAll G ts ρ M q x
  | .any ts, ρ, M, q, x => wpAny' G ts ρ M q x
def wpAll (G : Gt) : Ts → Rho → Mm → QB → QX → Prop
  | .nil, _, M, q, _ => q true M
  | .cons t ts, ρ, M, q, x => wpT G t ρ M (fun b M1 => if b = true then wpAll G ts ρ M1 q x else q false M1) x
def wpAny' (G : Gt) : Ts → Rho → Mm → QB → QX → Prop
  | .nil, _, M, q, _ => q false M
  | .cons t ts, ρ, M, q, x => wpT G t ρ M (fun b M1 => if b = true then q true M1 else wpAny' G ts ρ M1 q x) x
def wpI (G : Gt) : Ie → Rho → Mm → (List Dt → (Mm → Prop) → Mm → Prop) → QX → Prop
  | .seq a, ρ, M, q, x => wpE G a ρ M (fun d M1 => match d with
    | .tup ds => q ds (fun _ => True) M1
    | .lst ds => q ds (fun _ => True) M1
    | .ref p => (match M1 p with
      | some (.lst ds) => q ds (fun M => M p = some (.lst ds)) M1
      | _ => False)
    | _ => False) x
  | .rng1 a, ρ, M, q, x => wpE G a ρ M (fun d M1 => ∃ j, d = .int j ∧ -(2 ^ 62) ≤ j ∧ j < 2 ^ 62 ∧ q ((List.range j.toNat).map fun (k : Nat) => .int (k : Int)) (fun _ => True) M1) x
  | .rng2 a b, ρ, M, q, x => wpE G a ρ M (fun d M1 => wpE G b ρ M1 (fun e M2 => ∃ i j, d = .int i ∧ e = .int j ∧ (-(2 ^ 62) ≤ i ∧ i < 2 ^ 62 ∧ -(2 ^ 62) ≤ j ∧ j < 2 ^ 62) ∧
      q ((List.range (j - i).toNat).map fun (k : Nat) => .int (i + (k : Int))) (fun _ => True) M2) x) x
def wpG (G : Gt) : Tg → Dt → Rho → Mm → QR → QX → Prop
  | .name i, d, ρ, M, q, _ => q (ρ.set i (some d)) M
  | .tup gs, d, ρ, M, q, x => ∃ ds, itemsD M d = some ds ∧ ds.length = gs.len ∧ wpGs G gs ds ρ M q (fun _ _ => False)
  | .ix a b, d, ρ, M, q, x => wpE G a ρ M (fun u M1 => wpE G b ρ M1 (fun v M2 => match u with
    | .ref p => (match M2 p with
      | some (.lst ds) => ∃ i j, v = .int i ∧ ixN ds.length i = some j ∧ q ρ (mset M2 p (some (.lst (ds.set j d))))
      | some (.dK kvs) => ∃ k, keyOf v = some k ∧ kvs.length < sizeLine ∧ q ρ (mset M2 p (some (.dK (putD kvs k d))))
      | _ => False)
    | _ => False) x) x
def wpGs (G : Gt) : Tgs → List Dt → Rho → Mm → QR → QX → Prop
  | .nil, ds, ρ, M, q, _ => ds = [] ∧ q ρ M
  | .cons g gs, ds, ρ, M, q, x => ∃ d r, ds = d :: r ∧ wpG G g d ρ M (fun ρ1 M1 => wpGs G gs r ρ1 M1 q x) x
end
/-- what is wanted behind a statement -/
structure Kn where
  nx : QR
  rt : QD
  bk : QR
  ct : QR
  xx : Xc → Rho → Mm → Prop
mutual
def wpS (G : Gt) : Sm → Kn → Rho → Mm → Prop
  | .asg t e, k, ρ, M => wpE G e ρ M (fun d M1 => wpG G t d ρ M1 k.nx fun z M' => k.xx z ρ M') fun z M' => k.xx z ρ M'
  | .asgC i e, k, ρ, M => wpE G e ρ M (fun d M1 => k.nx (ρ.set i (some d)) M1) fun z M' => k.xx z ρ M'
  | .par i j a b, k, ρ, M => wpE G a ρ M (fun u M1 => wpE G b ρ M1 (fun v M2 => k.nx ((ρ.set i (some u)).set j (some v)) M2) fun z M' => k.xx z ρ M') fun z M' => k.xx z ρ M'
  | .aug i o e, k, ρ, M => ∃ u, ρ[i]? = some (some u) ∧ wpE G e ρ M (fun v M1 => binD o u v M1 fun w M2 => k.nx (ρ.set i (some w)) M2) fun z M' => k.xx z ρ M'
  | .expr e, k, ρ, M => wpE G e ρ M (fun _ M1 => k.nx ρ M1) fun z M' => k.xx z ρ M'
  | .if_ c a b, k, ρ, M => wpT G c ρ M (fun t M1 => if t = true then wpSs G a k ρ M1 else wpSs G b k ρ M1) fun z M' => k.xx z ρ M'
  | .for_ t it b, k, ρ, M => wpI G it ρ M (fun ds keep M1 => forRun keep (fun d ρ2 M2 n => wpG G t d ρ2 M2 (fun ρ3 M3 => wpSs G b { k with nx := n, ct := n, bk := k.nx } ρ3 M3) fun z M' => k.xx z ρ2 M') ds ρ M1 k.nx) fun z M' => k.xx z ρ M'
  | .while_ c b, k, ρ, M => ∃ n, whRun (fun n ρ M => wpT G c ρ M (fun t M1 => if t = true then wpSs G b { k with nx := n, ct := n, bk := k.nx } ρ M1 else k.nx ρ M1) fun z M' => k.xx z ρ M') n ρ M
  | .ret e, k, ρ, M => wpE G e ρ M k.rt fun z M' => k.xx z ρ M'
  | .retN, k, _, M => k.rt .non M
  | .brk, k, ρ, M => k.bk ρ M
  | .cont, k, ρ, M => k.ct ρ M
  | .pass, k, ρ, M => k.nx ρ M
  | .never, _, _, _ => False
def wpSs (G : Gt) : Sms → Kn → Rho → Mm → Prop
  | .nil, k, ρ, M => k.nx ρ M
  | .cons s ss, k, ρ, M => wpS G s { k with nx := wpSs G ss k } ρ M
end
end Fm

/-! The engine, part C: wishes may be weakened. -/
namespace Fm
open PySem L2

example (G : Gt) (ρ : Rho) (M : Mm) (q : QD) (x : QX) : wpE G (.bin .add (.int 3) (.var 0)) ρ M q x = ∃ d, ρ[0]? = some (some d) ∧ binD .add (.int 3) d M q := rfl

theorem newL_mono {live : Bool} {ds : List Dt} {M : Mm} {q q' : QD} (h : ∀ d M, q d M → q' d M) : newL live ds M q → newL live ds M q' := by
  unfold newL
  split
  · exact fun k p n => h _ _ (k p n)
  · exact h _ _
theorem binD_mono {o : BO} {u v : Dt} {M : Mm} {q q' : QD} (h : ∀ d M, q d M → q' d M) : binD o u v M q → binD o u v M q' := by
  unfold binD
  split <;> first | exact h _ _ | exact fun z => ⟨z.1, h _ _ z.2⟩ | exact id
theorem biD_mono {f : BI} {ds : List Dt} {M : Mm} {q q' : QD} (h : ∀ d M, q d M → q' d M) : biD f ds M q → biD f ds M q' := by
  unfold biD
  split
  · exact fun z => ⟨z.1, h _ _ z.2⟩
  · exact h _ _
  · exact h _ _
  · split <;> first | exact h _ _ | exact id
  · exact h _ _
  · exact h _ _
  · rintro ⟨ns, h1, h2, h3⟩; exact ⟨ns, h1, h2, fun m a b => h _ _ (h3 m a b)⟩
  · rintro ⟨ns, h1, h2, h3⟩; exact ⟨ns, h1, h2, fun m a b => h _ _ (h3 m a b)⟩
  · rintro ⟨ns, h1, h2⟩; exact ⟨ns, h1, h _ _ h2⟩
  · rintro ⟨ns, h1, h2⟩; exact ⟨ns, h1, h _ _ h2⟩
  · rintro ⟨ns, h1, h2⟩; exact ⟨ns, h1, h _ _ h2⟩
  · exact newL_mono h
  · rintro ⟨ds, h1, h2⟩; exact ⟨ds, h1, newL_mono h h2⟩
  · exact h _ _
  · rintro ⟨ns, h1, h2⟩; exact ⟨ns, h1, h _ _ h2⟩
  · rintro ⟨ns, h1, h2⟩; exact ⟨ns, h1, fun p n => h _ _ (h2 p n)⟩
  · rintro ⟨ns, h1, h2, h3, h4, h5⟩; exact ⟨ns, h1, h2, h3, h4, newL_mono h h5⟩
  · exact h _ _
  · exact id
theorem mtD_mono {f : MI} {u : Dt} {ds : List Dt} {M : Mm} {q q' : QD} (h : ∀ d M, q d M → q' d M) : mtD f u ds M q → mtD f u ds M q' := by
  unfold mtD
  split
  · split
    · exact fun z => ⟨z.1, h _ _ z.2⟩
    · exact id
  · split
    · rintro ⟨d, h1, h2⟩; exact ⟨d, h1, h _ _ h2⟩
    · exact id
  · split <;> first | exact h _ _ | exact id
  · split <;> first | exact h _ _ | exact id
  · split <;> first | exact h _ _ | exact id
  · split <;> first | exact h _ _ | exact id
  · exact id
theorem lcRun_mono {step step' : Dt → Mm → (Option Dt → Mm → Prop) → Prop} {q q' : QL} (hs : ∀ d M k k', (∀ o M, k o M → k' o M) → step d M k → step' d M k') (h : ∀ d M, q d M → q' d M) :
    ∀ (ds acc : List Dt) (M : Mm), lcRun step ds acc M q → lcRun step' ds acc M q'
  | [], _, _, k => h _ _ k
  | d :: r, acc, M, k => hs _ _ _ _ (fun o M' z => by
      cases o with
      | none => exact lcRun_mono hs h r acc M' z
      | some y => exact ⟨z.1, lcRun_mono hs h r _ M' z.2⟩) k
theorem forRun_mono {keep : Mm → Prop} {step step' : Dt → Rho → Mm → QR → Prop} {q q' : QR} (hs : ∀ d ρ M k k', (∀ ρ M, k ρ M → k' ρ M) → step d ρ M k → step' d ρ M k') (h : ∀ d M, q d M → q' d M) :
    ∀ (ds : List Dt) (ρ : Rho) (M : Mm), forRun keep step ds ρ M q → forRun keep step' ds ρ M q'
  | [], _, _, k => ⟨k.1, h _ _ k.2⟩
  | d :: r, ρ, M, k => ⟨k.1, hs _ _ _ _ _ (fun ρ' M' z => forRun_mono hs h r ρ' M' z) k.2⟩
theorem whRun_mono {step step' : QR → Rho → Mm → Prop} (hs : ∀ k k' ρ M, (∀ ρ M, k ρ M → k' ρ M) → step k ρ M → step' k' ρ M) :
    ∀ (n : Nat) (ρ : Rho) (M : Mm), whRun step n ρ M → whRun step' n ρ M
  | 0, _, _, k => k
  | n + 1, ρ, M, k => hs _ _ _ _ (fun ρ' M' z => whRun_mono hs n ρ' M' z) k

section
variable {G : Gt}
mutual
theorem wpE_mono : ∀ (e : E) {ρ : Rho} {M : Mm} {q q' : QD} {x x' : QX}, (∀ d M, q d M → q' d M) → (∀ z M, x z M → x' z M) → wpE G e ρ M q x → wpE G e ρ M q' x'
  | .var i, _, _, _, _, _, _, h, _, ⟨d, e, k⟩ => ⟨d, e, h _ _ k⟩
  | .int z, _, _, _, _, _, _, h, _, k => h _ _ k
  | .str z, _, _, _, _, _, _, h, _, k => h _ _ k
  | .bl z, _, _, _, _, _, _, h, _, k => h _ _ k
  | .non, _, _, _, _, _, _, h, _, k => h _ _ k
  | .glob z, _, _, _, _, _, _, h, _, k => h _ _ k
  | .bin o a b, _, _, _, _, _, _, h, g, k => wpE_mono a (fun _ _ k => wpE_mono b (fun _ _ k => binD_mono h k) g k) g k
  | .neg a, _, _, _, _, _, _, h, g, k => wpE_mono a (fun _ _ ⟨i, e, k⟩ => ⟨i, e, h _ _ k⟩) g k
  | .cmp o a b, _, _, _, _, _, _, h, g, k => wpE_mono a (fun _ _ k => wpE_mono b (fun _ _ ⟨i, e, k⟩ => ⟨i, e, h _ _ k⟩) g k) g k
  | .cmp2 o p a b c, _, _, _, _, _, _, h, g, k => wpE_mono a (fun _ _ k => wpE_mono b (fun _ _ ⟨i, e, k⟩ => ⟨i, e, by
      split
      · rename_i hi
        rw [if_pos hi] at k
        exact wpE_mono c (fun _ _ ⟨i, e, k⟩ => ⟨i, e, h _ _ k⟩) g k
      · rename_i hi
        rw [if_neg hi] at k
        exact h _ _ k⟩) g k) g k
  | .bop kk as, _, _, _, _, _, _, h, g, k => wpB_mono as h g k
  | .not_ a, _, _, _, _, _, _, h, g, k => wpE_mono a (fun _ _ ⟨i, e, k⟩ => ⟨i, e, h _ _ k⟩) g k
  | .ite c a b, _, _, _, _, _, _, h, g, k => wpT_mono c (fun t _ k => by
      split
      · rename_i hi
        rw [if_pos hi] at k
        exact wpE_mono a h g k
      · rename_i hi
        rw [if_neg hi] at k
        exact wpE_mono b h g k) g k
  | .tup as, _, _, _, _, _, _, h, g, k => wpEs_mono as (fun _ _ ⟨z, k⟩ => ⟨z, h _ _ k⟩) g k
  | .lst l as, _, _, _, _, _, _, h, g, k => wpEs_mono as (fun _ _ ⟨z, k⟩ => ⟨z, newL_mono h k⟩) g k
  | .ix a b, _, _, _, _, _, _, h, g, k => wpE_mono a (fun _ _ k => wpE_mono b (fun _ _ ⟨i, e, k⟩ => ⟨i, e, h _ _ k⟩) g k) g k
  | .sl a lo hi, _, _, _, _, _, _, h, g, k => wpE_mono a (fun _ _ k => wpO_mono lo (fun _ _ k => wpO_mono hi (fun _ _ ⟨i, e, k⟩ => ⟨i, e, h _ _ k⟩) g k) g k) g k
  | .call gg as, _, _, _, _, _, _, h, g, k => wpEs_mono as (fun _ _ k => (G.call gg).mono h g k) g k
  | .bi f as, _, _, _, _, _, _, h, g, k => wpEs_mono as (fun _ _ k => biD_mono h k) g k
  | .mt m a as, _, _, _, _, _, _, h, g, k => wpE_mono a (fun _ _ k => ⟨k.1, wpEs_mono as (fun _ _ k => mtD_mono h k) g k.2⟩) g k
  | .fld a f, _, _, _, _, _, _, h, g, k => wpE_mono a (fun _ _ ⟨p, c, fs, d, e1, e2, e3, k⟩ => ⟨p, c, fs, d, e1, e2, e3, h _ _ k⟩) g k
  | .isi a ts _, _, _, _, _, _, _, h, g, k => wpE_mono a (fun _ _ ⟨i, e, k⟩ => ⟨i, e, h _ _ k⟩) g k
  | .lc live own t it cs e, _, _, _, _, _, _, h, g, k => wpI_mono it (fun ds keep _ k => lcRun_mono (fun d M kk kk' hk z => ⟨z.1, wpG_mono t (fun _ _ z => wpAll_mono cs (fun b _ z => by
      split
      · rename_i hi
        rw [if_pos hi] at z
        exact wpE_mono e (fun _ _ z => hk _ _ z) (fun _ _ z => z) z
      · rename_i hi
        rw [if_neg hi] at z
        exact hk _ _ z) (fun _ _ z => z) z) (fun _ _ z => z) z.2⟩) (fun _ _ z => ⟨z.1, newL_mono h z.2⟩) _ _ _ k) g k
  | .frz a, _, _, _, _, _, _, h, g, k => wpE_mono a (fun u M1 k => by
      cases u with
      | ref p =>
        dsimp only at k ⊢
        cases e : M1 p with
        | none =>
          simp only [e] at k ⊢
          exact h _ _ k
        | some o =>
          simp only [e] at k ⊢
          cases o <;> exact h _ _ k
      | _ => exact h _ _ k) g k
theorem wpEs_mono : ∀ (es : Es) {ρ : Rho} {M : Mm} {q q' : QL} {x x' : QX}, (∀ d M, q d M → q' d M) → (∀ z M, x z M → x' z M) → wpEs G es ρ M q x → wpEs G es ρ M q' x'
  | .nil, _, _, _, _, _, _, h, _, k => h _ _ k
  | .cons e es, _, _, _, _, _, _, h, g, k => wpE_mono e (fun _ _ k => wpEs_mono es (fun _ _ k => h _ _ k) g k) g k
theorem wpO_mono : ∀ (es : EO) {ρ : Rho} {M : Mm} {q q' : Option Int → Mm → Prop} {x x' : QX}, (∀ d M, q d M → q' d M) → (∀ z M, x z M → x' z M) → wpO G es ρ M q x → wpO G es ρ M q' x'
  | .none, _, _, _, _, _, _, h, _, k => h _ _ k
  | .some e, _, _, _, _, _, _, h, g, k => wpE_mono e (fun _ _ ⟨i, e, k⟩ => ⟨i, e, h _ _ k⟩) g k
theorem wpB_mono : ∀ (es : Es) {kk : Bool} {ρ : Rho} {M : Mm} {q q' : QD} {x x' : QX}, (∀ d M, q d M → q' d M) → (∀ z M, x z M → x' z M) → wpB G kk es ρ M q x → wpB G kk es ρ M q' x'
  | .nil, _, _, _, _, _, _, _, _, _, k => k
  | .cons e .nil, _, _, _, _, _, _, _, h, g, k => wpE_mono e (fun _ _ k => h _ _ k) g k
  | .cons e (.cons e2 es), _, _, _, _, _, _, _, h, g, k => wpE_mono e (fun _ _ ⟨b, e, k⟩ => ⟨b, e, by
      split
      · rename_i hi
        rw [if_pos hi] at k
        exact wpB_mono (.cons e2 es) h g k
      · rename_i hi
        rw [if_neg hi] at k
        exact h _ _ k⟩) g k
theorem wpT_mono : ∀ (t : T) {ρ : Rho} {M : Mm} {q q' : QB} {x x' : QX}, (∀ d M, q d M → q' d M) → (∀ z M, x z M → x' z M) → wpT G t ρ M q x → wpT G t ρ M q' x'
  | .val a, _, _, _, _, _, _, h, g, k => wpE_mono a (fun _ _ ⟨i, e, k⟩ => ⟨i, e, h _ _ k⟩) g k
  | .cmp o a b, _, _, _, _, _, _, h, g, k => wpE_mono a (fun _ _ k => wpE_mono b (fun _ _ ⟨i, e, k⟩ => ⟨i, e, h _ _ k⟩) g k) g k
  | .cmp2 o p a b c, _, _, _, _, _, _, h, g, k => wpE_mono a (fun _ _ k => wpE_mono b (fun _ _ ⟨i, e, k⟩ => ⟨i, e, by
      split
      · rename_i hi
        rw [if_pos hi] at k
        exact wpE_mono c (fun _ _ ⟨i, e, k⟩ => ⟨i, e, h _ _ k⟩) g k
      · rename_i hi
        rw [if_neg hi] at k
        exact h _ _ k⟩) g k) g k
  | .not_ t, _, _, _, _, _, _, h, g, k => wpT_mono t (fun _ _ k => h _ _ k) g k
  | .all ts, _, _, _, _, _, _, h, g, k => wpAll_mono ts h g k
  | .any ts, _, _, _, _, _, _, h, g, k => wpAny_mono' ts h g k
theorem wpAll_mono : ∀ (t : Ts) {ρ : Rho} {M : Mm} {q q' : QB} {x x' : QX}, (∀ d M, q d M → q' d M) → (∀ z M, x z M → x' z M) → wpAll G t ρ M q x → wpAll G t ρ M q' x'
  | .nil, _, _, _, _, _, _, h, _, k => h _ _ k
  | .cons t ts, _, _, _, _, _, _, h, g, k => wpT_mono t (fun b _ k => by
      split
      · rename_i hi
        rw [if_pos hi] at k
        exact wpAll_mono ts h g k
      · rename_i hi
        rw [if_neg hi] at k
        exact h _ _ k) g k
theorem wpAny_mono' : ∀ (t : Ts) {ρ : Rho} {M : Mm} {q q' : QB} {x x' : QX}, (∀ d M, q d M → q' d M) → (∀ z M, x z M → x' z M) → wpAny' G t ρ M q x → wpAny' G t ρ M q' x'
  | .nil, _, _, _, _, _, _, h, _, k => h _ _ k
  | .cons t ts, _, _, _, _, _, _, h, g, k => wpT_mono t (fun b _ k => by
      split
      · rename_i hi
        rw [if_pos hi] at k
        exact h _ _ k
      · rename_i hi
        rw [if_neg hi] at k
        exact wpAny_mono' ts h g k) g k
theorem wpI_mono : ∀ (it : Ie) {ρ : Rho} {M : Mm} {q q' : List Dt → (Mm → Prop) → Mm → Prop} {x x' : QX}, (∀ d p M, q d p M → q' d p M) → (∀ z M, x z M → x' z M) → wpI G it ρ M q x → wpI G it ρ M q' x'
  | .seq a, _, _, _, _, _, _, h, g, k => wpE_mono a (fun u _ k => by
      cases u with
      | ref p =>
        dsimp only at k ⊢
        split
        · rename_i e
          simp only [e] at k
          exact h _ _ _ k
        · rename_i hn
          split at k
          · rename_i ds e
            exact absurd e (hn ds)
          · exact k
      | tup ds => exact h _ _ _ k
      | lst ds => exact h _ _ _ k
      | non => exact k
      | bl _ => exact k
      | int _ => exact k
      | str _ => exact k) g k
  | .rng1 a, _, _, _, _, _, _, h, g, k => wpE_mono a (fun _ _ ⟨j, e, h1, h2, k⟩ => ⟨j, e, h1, h2, h _ _ _ k⟩) g k
  | .rng2 a b, _, _, _, _, _, _, h, g, k => wpE_mono a (fun _ _ k => wpE_mono b (fun _ _ ⟨i, j, e1, e2, hb, k⟩ => ⟨i, j, e1, e2, hb, h _ _ _ k⟩) g k) g k
theorem wpG_mono : ∀ (t : Tg) {d : Dt} {ρ : Rho} {M : Mm} {q q' : QR} {x x' : QX}, (∀ d M, q d M → q' d M) → (∀ z M, x z M → x' z M) → wpG G t d ρ M q x → wpG G t d ρ M q' x'
  | .name i, _, _, _, _, _, _, _, h, _, k => h _ _ k
  | .tup gs, d, _, _, _, _, _, _, h, g, ⟨ds, e, k1, k2⟩ => ⟨ds, e, k1, wpGs_mono gs h (fun _ _ z => z) k2⟩
  | .ix a b, d, _, _, _, _, _, _, h, g, k => wpE_mono a (fun u _ k => wpE_mono b (fun v _ k => by
      cases u with
      | ref p =>
        dsimp only at k ⊢
        split
        · rename_i e
          simp only [e] at k
          obtain ⟨i, j, e1, e2, k⟩ := k
          exact ⟨i, j, e1, e2, h _ _ k⟩
        · rename_i e
          simp only [e] at k
          obtain ⟨i, e1, e2, k⟩ := k
          exact ⟨i, e1, e2, h _ _ k⟩
        · rename_i h1 h2
          split at k
          · rename_i ds e; exact absurd e (h1 ds)
          · rename_i ds e; exact absurd e (h2 ds)
          · exact k
      | _ => exact k) g k) g k
theorem wpGs_mono : ∀ (t : Tgs) {d : List Dt} {ρ : Rho} {M : Mm} {q q' : QR} {x x' : QX}, (∀ d M, q d M → q' d M) → (∀ z M, x z M → x' z M) → wpGs G t d ρ M q x → wpGs G t d ρ M q' x'
  | .nil, _, _, _, _, _, _, _, h, _, k => ⟨k.1, h _ _ k.2⟩
  | .cons t ts, _, _, _, _, _, _, _, h, g, ⟨d, r, e, k⟩ => ⟨d, r, e, wpG_mono t (fun _ _ k => wpGs_mono ts h g k) g k⟩
end
def Es.len : Es → Nat
  | .nil => 0
  | .cons _ es => es.len + 1
theorem wpEs_monoL : ∀ (es : Es) {ρ : Rho} {M : Mm} {q q' : QL} {x x' : QX}, (∀ d M, d.length = es.len → q d M → q' d M) → (∀ z M, x z M → x' z M) → wpEs G es ρ M q x → wpEs G es ρ M q' x'
  | .nil, _, _, _, _, _, _, h, _, k => h _ _ rfl k
  | .cons e es, _, _, _, _, _, _, h, g, k => wpE_mono e (fun d _ k => wpEs_monoL es (fun ds _ l k => h (d :: ds) _ (by rw [List.length_cons, l]; rfl) k) g k) g k
/-- weaker wishes of a statement -/
structure Kn.Le (k k' : Kn) : Prop where
  nx : ∀ ρ M, k.nx ρ M → k'.nx ρ M
  rt : ∀ ρ M, k.rt ρ M → k'.rt ρ M
  bk : ∀ ρ M, k.bk ρ M → k'.bk ρ M
  ct : ∀ ρ M, k.ct ρ M → k'.ct ρ M
  xx : ∀ z ρ M, k.xx z ρ M → k'.xx z ρ M
mutual
theorem wpS_mono : ∀ (s : Sm) {k k' : Kn} {ρ : Rho} {M : Mm}, Kn.Le k k' → wpS G s k ρ M → wpS G s k' ρ M
  | .asg t e, _, _, _, _, h, k => wpE_mono e (fun _ _ k => wpG_mono t h.nx (fun _ _ k => h.xx _ _ _ k) k) (fun _ _ k => h.xx _ _ _ k) k
  | .asgC i e, _, _, _, _, h, k => wpE_mono e (fun _ _ k => h.nx _ _ k) (fun _ _ k => h.xx _ _ _ k) k
  | .par i j a b, _, _, _, _, h, k => wpE_mono a (fun _ _ k => wpE_mono b (fun _ _ k => h.nx _ _ k) (fun _ _ k => h.xx _ _ _ k) k) (fun _ _ k => h.xx _ _ _ k) k
  | .aug i o e, _, _, _, _, h, ⟨u, e1, k⟩ => ⟨u, e1, wpE_mono e (fun _ _ k => binD_mono (fun _ _ k => h.nx _ _ k) k) (fun _ _ k => h.xx _ _ _ k) k⟩
  | .expr e, _, _, _, _, h, k => wpE_mono e (fun _ _ k => h.nx _ _ k) (fun _ _ k => h.xx _ _ _ k) k
  | .if_ c a b, _, _, _, _, h, k => wpT_mono c (fun _ _ k => by
      split
      · rename_i hi
        rw [if_pos hi] at k
        exact wpSs_mono a h k
      · rename_i hi
        rw [if_neg hi] at k
        exact wpSs_mono b h k) (fun _ _ k => h.xx _ _ _ k) k
  | .for_ t it b, k0, k1, _, _, h, k => wpI_mono it (fun _ _ _ k => forRun_mono (fun _ _ _ n n' hn k => wpG_mono t (fun _ _ k => wpSs_mono b (Kn.Le.mk (k := { k0 with nx := n, ct := n, bk := k0.nx }) (k' := { k1 with nx := n', ct := n', bk := k1.nx }) hn h.rt h.nx hn h.xx) k) (fun _ _ k => h.xx _ _ _ k) k) h.nx _ _ _ k) (fun _ _ k => h.xx _ _ _ k) k
  | .while_ c b, k0, k1, _, _, h, ⟨n, k⟩ => ⟨n, whRun_mono (fun n n' _ _ hn k => wpT_mono c (fun _ _ k => by
      split
      · rename_i hi
        rw [if_pos hi] at k
        exact wpSs_mono b (Kn.Le.mk (k := { k0 with nx := n, ct := n, bk := k0.nx }) (k' := { k1 with nx := n', ct := n', bk := k1.nx }) hn h.rt h.nx hn h.xx) k
      · rename_i hi
        rw [if_neg hi] at k
        exact h.nx _ _ k) (fun _ _ k => h.xx _ _ _ k) k) n _ _ k⟩
  | .ret e, _, _, _, _, h, k => wpE_mono e h.rt (fun _ _ k => h.xx _ _ _ k) k
  | .retN, _, _, _, _, h, k => h.rt _ _ k
  | .brk, _, _, _, _, h, k => h.bk _ _ k
  | .cont, _, _, _, _, h, k => h.ct _ _ k
  | .pass, _, _, _, _, h, k => h.nx _ _ k
  | .never, _, _, _, _, _, k => k
theorem wpSs_mono : ∀ (s : Sms) {k k' : Kn} {ρ : Rho} {M : Mm}, Kn.Le k k' → wpSs G s k ρ M → wpSs G s k' ρ M
  | .nil, _, _, _, _, h, k => h.nx _ _ k
  | .cons s ss, k0, k1, _, _, h, k => wpS_mono s (Kn.Le.mk (k := { k0 with nx := wpSs G ss k0 }) (k' := { k1 with nx := wpSs G ss k1 }) (fun _ _ z => wpSs_mono ss h z) h.rt h.bk h.ct h.xx) k
end
end
end Fm

/-! The engine, part D: operations of the layer upon data. -/
namespace Fm
open PySem L2 PySem.Spec PyProof.Rows

/-- what is told on of a value -/
def Fin (K : PySem.W.Frag) (S : Addr → Prop) (cls : Nat → Addr) (M : Mm) (H : Hp) (q : QD) (Q : VK) : Prop :=
  ∀ d M' z H', q d M' → RelD K S M' H' d z → Hold K S cls M' H' → Keeps K M H M' H' → Q z H'
section
variable {X : Cx} {K : PySem.W.Frag} {S : Addr → Prop} {cls : Nat → Addr} {M M' : Mm} {H H' : Hp} {q : QD} {Q : VK}
theorem Fin.here (f : Fin K S cls M H q Q) (h : Hold K S cls M H) {d : Dt} {z : V} (r : RelD K S M H d z) (k : q d M) : Q z H := f d M z H k r h Keeps.refl
theorem Fin.at (f : Fin K S cls M H q Q) {d : Dt} {z : V} (k : q d M') (r : RelD K S M' H' d z) (h : Hold K S cls M' H') (kp : Keeps K M H M' H') : Q z H' := f d M' z H' k r h kp
/-- a new list -/
theorem Fin.newL {live : Bool} {ds : List Dt} {xs : List V} (f : Fin K S cls M H q Q) (h : Hold K S cls M H) (r : RelDs K S M H ds xs) (k : newL live ds M q) : ∀ p, H p = none → Q (.ref p) (upd H p (.lst xs)) := fun p n => by
  unfold Fm.newL at k
  have m := h.none n
  split at k
  · refine f.at (k p m) (.ref p) (h.newM n ⟨xs, upd_same, r.keep (Keeps.newM n)⟩) (Keeps.newM n)
  · exact f.at k (.lst m (h.noS n) (.inl upd_same) (r.keep (Keeps.newH n))) (h.newH n) (Keeps.newH n)
theorem Fin.newT {ds : List Dt} {xs : List V} (f : Fin K S cls M H q Q) (h : Hold K S cls M H) (r : RelDs K S M H ds xs) (k : q (.tup ds) M) : ∀ p, H p = none → Q (.ref p) (upd H p (.tup xs)) := fun p n =>
  f.at k (.tup (.inl (.inl upd_same)) (r.keep (Keeps.newH n))) (h.newH n) (Keeps.newH n)

def opOf : BO → Operator
  | .add => .Add | .sub => .Sub | .mul => .Mult | .fdiv => .FloorDiv | .mod => .Mod | .pow => .Pow | .xor => .BitXor
def rBin (K : PySem.W.Frag) (cls : Nat → Addr) (o : BO) : R2 := fun x y H Q => ∃ S M u v q, RelD K S M H u x ∧ RelD K S M H v y ∧ Hold K S cls M H ∧ binD o u v M q ∧ Fin K S cls M H q Q
theorem opr_bin (o : BO) : OpR X (binaryOp (opOf o)) (rBin K cls o) := by
  intro pins s σ H x y v u Q I rx ry h
  obtain ⟨S, M, a, b, q, ra, rb, hh, k, f⟩ := h
  unfold binD at k
  split at k
  · cases ra; cases rb; exact op_add pins s σ H _ _ v u Q I rx ry ⟨_, _, rfl, rfl, f.here hh (.int _) k⟩
  · cases ra; cases rb; exact op_add_str pins s σ H _ _ v u Q I rx ry ⟨_, _, rfl, rfl, k.1, f.here hh (.str _) k.2⟩
  · cases ra; cases rb; exact op_sub pins s σ H _ _ v u Q I rx ry ⟨_, _, rfl, rfl, f.here hh (.int _) k⟩
  · cases ra; cases rb
    rcases k with ⟨c | c, k⟩
    · exact op_mul pins s σ H _ _ v u Q I rx ry ⟨_, _, rfl, rfl, c, f.here hh (.int _) k⟩
    · exact op_mulW pins s σ H _ _ v u Q I rx ry ⟨_, _, rfl, rfl, c, f.here hh (.int _) k⟩
  · cases ra; cases rb; exact op_fdivW pins s σ H _ _ v u Q I rx ry ⟨_, _, rfl, rfl, k.1, f.here hh (.int _) k.2⟩
  · cases ra; cases rb; exact op_mod pins s σ H _ _ v u Q I rx ry ⟨_, _, rfl, rfl, k.1, f.here hh (.int _) k.2⟩
  · cases ra; cases rb; exact op_pow pins s σ H _ _ v u Q I rx ry ⟨_, _, rfl, rfl, k.1, f.here hh (.int _) k.2⟩
  · cases ra; cases rb; exact op_xor pins s σ H _ _ v u Q I rx ry ⟨_, _, rfl, rfl, f.here hh (.int _) k⟩
  · exact k.elim

/-! ### comparisons -/
theorem flatD_rel {d : Dt} {x w : V} (r : RelD K S M H d x) (e : flatD d = some w) : x = w ∧ flatV x = true := by
  cases d <;> first | (cases e; cases r; exact ⟨rfl, rfl⟩) | cases e
theorem flatDs_rel : ∀ {ds : List Dt} {xs ws : List V}, RelDs K S M H ds xs → flatDs ds = some ws → xs = ws ∧ xs.all flatV = true
  | _, _, _, .nil, e => by cases e; exact ⟨rfl, rfl⟩
  | _, _, _, .cons (d := d) (ds := ds) r t, e => by
    unfold flatDs at e
    cases h1 : flatD d with
    | none => rw [h1] at e; cases e
    | some v =>
      cases h2 : flatDs ds with
      | none => rw [h1, h2] at e; cases e
      | some vs =>
        rw [h1, h2] at e
        cases e
        obtain ⟨rfl, f1⟩ := flatD_rel r h1
        obtain ⟨rfl, f2⟩ := flatDs_rel t h2
        exact ⟨rfl, by rw [List.all_cons, f1, f2]; rfl⟩
theorem keyV {d : Dt} {x : V} {k : Key} (r : RelD K S M H d x) (e : keyOf d = some k) : x = kV k := by
  cases d <;> first | (cases e; cases r; rfl) | cases e
theorem valKD : ∀ {kvs : List (Key × Dt)} {ks : List (Key × V)} (k : Key), Paired (fun (p : Key × Dt) (q : Key × V) => p.1 = q.1 ∧ RelD K S M H p.2 q.2) kvs ks →
    (valD kvs k = none ∧ valV ks k = none) ∨ ∃ d v, valD kvs k = some d ∧ valV ks k = some v ∧ RelD K S M H d v
  | _, _, k, .nil => .inl ⟨rfl, rfl⟩
  | _, _, k, .cons (a := p) (b := p') r t => by
    obtain ⟨j, d⟩ := p
    obtain ⟨j', v⟩ := p'
    obtain ⟨e, rd⟩ := r
    dsimp only at e rd
    subst e
    by_cases h : j = k
    · refine .inr ⟨d, v, ?_, valV_pos h, rd⟩
      unfold valD
      rw [List.find?_cons_of_pos (by simp [h])]
      rfl
    · have hd : ∀ l : List (Key × Dt), valD ((j, d) :: l) k = valD l k := fun l => by
        unfold valD
        rw [List.find?_cons_of_neg (by simp [h])]
      rw [hd, valV_neg h]
      exact valKD k t
theorem isSomeKD {kvs : List (Key × Dt)} {ks : List (Key × V)} (k : Key) (r : Paired (fun (p : Key × Dt) (q : Key × V) => p.1 = q.1 ∧ RelD K S M H p.2 q.2) kvs ks) : (valV ks k).isSome = (valD kvs k).isSome := by
  rcases valKD k r with ⟨h1, h2⟩ | ⟨d, v, h1, h2, _⟩
  · rw [h1, h2]; rfl
  · rw [h1, h2]; rfl
mutual
theorem dp_of : ∀ {d : Dt} {v : V} {p : PyData}, RelD K S M H d v → pyD d = some p → Dp K H v p
  | _, _, _, .non, e => by cases e; exact .non
  | _, _, _, .bl b, e => by cases e; exact .bl b
  | _, _, _, .int b, e => by cases e; exact .int b
  | _, _, _, .str b, e => by cases e; exact .str b
  | _, _, _, .tup (ds := ds) h r, e => by
    unfold pyD at e
    cases q : pyDs ds with
    | none => rw [q] at e; cases e
    | some l => rw [q] at e; cases e; exact .tup h (dpAll_of r q)
  | _, _, _, .lst (ds := ds) n ns h r, e => by
    unfold pyD at e
    cases q : pyDs ds with
    | none => rw [q] at e; cases e
    | some l => rw [q] at e; cases e; exact .lst (.inl h) (dpAll_of r q)
  | _, _, _, .lstK (ds := ds) h r, e => by
    unfold pyD at e
    cases q : pyDs ds with
    | none => rw [q] at e; cases e
    | some l => rw [q] at e; cases e; exact .lst (.inr h) (dpAll_of r q)
  | _, _, _, .ref a, e => by cases e
theorem dpAll_of : ∀ {ds : List Dt} {vs : List V} {ps : List PyData}, RelDs K S M H ds vs → pyDs ds = some ps → DpAll K H vs ps
  | _, _, _, .nil, e => by cases e; exact .nil
  | _, _, _, .cons (d := d) (ds := ds) r t, e => by
    unfold pyDs at e
    cases h1 : pyD d with
    | none => rw [h1] at e; cases e
    | some p =>
      cases h2 : pyDs ds with
      | none => rw [h1, h2] at e; cases e
      | some l =>
        rw [h1, h2] at e
        cases e
        exact .cons (dp_of r h1) (dpAll_of t h2)
end
theorem dpM_of {d : Dt} {v : V} {p : PyData} (h : Hold K S cls M H) (r : RelD K S M H d v) (e : pyM M d = some p) : Dp K H v p := by
  cases d with
  | ref a =>
    cases r
    have e' : (match M a with
      | some (.lst ds) => (pyDs ds).map PyData.list
      | _ => none) = some p := e
    cases em : M a with
    | none => simp [em] at e'
    | some o =>
      cases o with
      | lst ds =>
        simp only [em] at e'
        obtain ⟨xs, h1, h2⟩ := h _ _ em
        cases q2 : pyDs ds with
        | none => rw [q2] at e'; cases e'
        | some l => rw [q2] at e'; cases e'; exact .lst (.inl (.inl h1)) (dpAll_of h2 q2)
      | _ => simp [em] at e'
  | _ => exact dp_of r e
def copOf : CO → CmpOp
  | .eq => .Eq | .ne => .NotEq | .lt => .Lt | .le => .LtE | .gt => .Gt | .ge => .GtE | .is_ => .Is | .isnot => .IsNot | .in_ => .In | .notin => .NotIn
def rCmp (K : PySem.W.Frag) (cls : Nat → Addr) (o : CO) : R2 := fun x y H Q => ∃ S M u v k, RelD K S M H u x ∧ RelD K S M H v y ∧ Hold K S cls M H ∧ cmpD o u v M = some k ∧ Q (.bl k) H
theorem eqD_run (neg : Bool) (hu : X.A.units + 64 < cLine) {pins : List (Addr × Obj)} {s : Shared} {σ : L2.St} {H : Hp} {x y : V} {v u : Value} {Q : VK} {a b : Dt} {k : Bool} (I : Inv X pins σ H s) (rx : RelV x v) (ry : RelV y u)
    (ra : RelD X.K S M H a x) (rb : RelD X.K S M H b y) (hh : Hold X.K S cls M H) (e : eqD M a b = some k) (q : Q (.bl (if neg then !k else k)) H) :
    wpAny (model X.prog X.w) X.A (compareOp (if neg then .NotEq else .Eq) v u) (EP X pins σ Q) X.xe s := by
  unfold eqD at e
  have sc : ∀ (x y : V), scal x y = true → k = decide (x = y) → RelV x v → RelV y u → wpAny (model X.prog X.w) X.A (compareOp (if neg then .NotEq else .Eq) v u) (EP X pins σ Q) X.xe s := fun x y hs e rx ry => by
    cases neg with
    | false => exact op_eq pins s σ H x y v u Q I rx ry ⟨hs, by rw [e] at q; exact q⟩
    | true => exact op_ne pins s σ H x y v u Q I rx ry ⟨hs, by rw [e] at q; exact q⟩
  split at e
  · rename_i i j
    cases ra; cases rb
    refine sc (.int i) (.int j) rfl ?_ rx ry
    rw [dec_int, Bool.beq_eq_decide_eq]
    exact (Option.some.inj e).symm
  · rename_i i j
    cases ra; cases rb
    refine sc (.str i) (.str j) rfl ?_ rx ry
    rw [dec_str, Bool.beq_eq_decide_eq]
    exact (Option.some.inj e).symm
  · rename_i i j
    cases ra; cases rb
    refine sc (.bl i) (.bl j) rfl ?_ rx ry
    rw [dec_bl, Bool.beq_eq_decide_eq]
    exact (Option.some.inj e).symm
  · split at e
    · rename_i d1 d2 e1 e2
      split at e
      · rename_i hs
        cases e
        cases neg with
        | false => exact op_eqD hu pins s σ H x y v u Q I rx ry ⟨_, _, dpM_of hh ra e1, dpM_of hh rb e2, hs.1, hs.2, q⟩
        | true => exact op_neD hu pins s σ H x y v u Q I rx ry ⟨_, _, dpM_of hh ra e1, dpM_of hh rb e2, hs.1, hs.2, q⟩
      · cases e
    · cases e
theorem inD_run (neg : Bool) (hu : X.A.units + 1 < cLine) {pins : List (Addr × Obj)} {s : Shared} {σ : L2.St} {H : Hp} {x y : V} {v u : Value} {Q : VK} {a b : Dt} {k : Bool} (I : Inv X pins σ H s) (rx : RelV x v) (ry : RelV y u)
    (ra : RelD X.K S M H a x) (rb : RelD X.K S M H b y) (hh : Hold X.K S cls M H) (e : inD M a b = some k) (q : Q (.bl (if neg then !k else k)) H) :
    wpAny (model X.prog X.w) X.A (compareOp (if neg then .NotIn else .In) v u) (EP X pins σ Q) X.xe s := by
  have seq : ∀ (p : Addr) (xs : List V) (ds : List Dt), y = .ref p → (SqL X.K H p xs ∨ SqT X.K H p xs) → RelDs X.K S M H ds xs → ((flatD a).bind fun v => (flatDs ds).map fun vs => inV v vs) = some k →
      wpAny (model X.prog X.w) X.A (compareOp (if neg then .NotIn else .In) v u) (EP X pins σ Q) X.xe s := fun p xs ds ey hs r e => by
    cases h1 : flatD a with
    | none => rw [h1] at e; cases e
    | some w =>
      cases h2 : flatDs ds with
      | none => rw [h1, h2] at e; cases e
      | some ws =>
        rw [h1, h2] at e
        cases e
        obtain ⟨rfl, f1⟩ := flatD_rel ra h1
        obtain ⟨rfl, f2⟩ := flatDs_rel r h2
        cases neg with
        | false => exact op_in_seq pins s σ H _ _ v u Q I rx ry ⟨p, _, ey, hs, f1, f2, q⟩
        | true => exact op_notIn_seq pins s σ H _ _ v u Q I rx ry ⟨p, _, ey, hs, f1, f2, q⟩
  unfold inD at e
  split at e
  · obtain ⟨p, xs, ey, hs, r⟩ := rb.ofTup
    exact seq p xs _ ey (.inr hs) r e
  · obtain ⟨p, xs, ey, hs, r⟩ := rb.ofLst
    exact seq p xs _ ey (.inl hs) r e
  · rename_i p
    cases rb
    split at e
    · rename_i ds em
      obtain ⟨xs, h1, r⟩ := hh _ _ em
      exact seq p xs _ rfl (.inl (.inl (.inl h1))) r e
    · rename_i kvs em
      obtain ⟨ks, h1, r⟩ := hh _ _ em
      cases hk : keyOf a with
      | none => rw [hk] at e; cases e
      | some key =>
        rw [hk] at e
        cases e
        obtain rfl := keyV ra hk
        dsimp only at q
        rw [← isSomeKD key r] at q
        obtain rfl : u = Value.ref p := ry
        cases neg with
        | false => exact d_in hu I (DGet.k (k := key) h1) rx fun s' I' => ⟨.bl _, H, I', rfl, q⟩
        | true => exact d_notIn hu I (DGet.k (k := key) h1) rx fun s' I' => ⟨.bl _, H, I', rfl, q⟩
    · cases e
  · cases e
theorem opr_cmp (hu : X.A.units + 64 < cLine) (o : CO) : OpR X (compareOp (copOf o)) (rCmp X.K cls o) := by
  intro pins s σ H x y v u Q I rx ry h
  obtain ⟨S, M, a, b, k, ra, rb, hh, e, f⟩ := h
  unfold cmpD at e
  have hu1 : X.A.units + 1 < cLine := by omega
  split at e
  · cases ra; cases rb; cases e; exact op_lt pins s σ H _ _ v u Q I rx ry ⟨_, _, rfl, rfl, f⟩
  · cases ra; cases rb; cases e; exact op_lt_str pins s σ H _ _ v u Q I rx ry ⟨_, _, rfl, rfl, f⟩
  · cases ra; cases rb; cases e; exact op_le pins s σ H _ _ v u Q I rx ry ⟨_, _, rfl, rfl, f⟩
  · cases ra; cases rb; cases e; exact op_gt pins s σ H _ _ v u Q I rx ry ⟨_, _, rfl, rfl, f⟩
  · cases ra; cases rb; cases e; exact op_ge pins s σ H _ _ v u Q I rx ry ⟨_, _, rfl, rfl, f⟩
  · exact eqD_run false hu I rx ry ra rb hh e f
  · cases h : eqD M a b with
    | none => rw [h] at e; cases e
    | some j => rw [h] at e; cases e; exact eqD_run true hu I rx ry ra rb hh h f
  · cases ra; cases rb; cases e; exact op_isN pins s σ H _ _ v u Q I rx ry ⟨rfl, f⟩
  · rename_i hn
    cases rb; cases e
    refine op_isN pins s σ H _ _ v u Q I rx ry ⟨rfl, ?_⟩
    rw [decide_eq_false (fun z => by subst z; cases ra; exact hn rfl)]
    exact f
  · cases ra; cases rb; cases e; exact op_notN pins s σ H _ _ v u Q I rx ry ⟨rfl, f⟩
  · rename_i hn
    cases rb; cases e
    refine op_notN pins s σ H _ _ v u Q I rx ry ⟨rfl, ?_⟩
    rw [decide_eq_false (fun z => by subst z; cases ra; exact hn rfl)]
    exact f
  · exact inD_run false hu1 I rx ry ra rb hh e f
  · cases h : inD M a b with
    | none => rw [h] at e; cases e
    | some j => rw [h] at e; cases e; exact inD_run true hu1 I rx ry ra rb hh h f
  · cases e
end
end Fm

/-! The engine, part E: items, slices, built-ins, methods, isinstance, truth upon data. -/
namespace Fm
open PySem L2 PySem.Spec PyProof.Rows
section
variable {prog : Program} {w : World} {A : Around} {E : Value → Shared → Prop} {s : Shared} {l : Addr}
theorem tup_walk {items : Array Value} (hl : s.heap.IsTuple l items) : l < s.heap.objs.size := by obtain ⟨_, e, _⟩ := hl; exact Heap.lt_size e
theorem old_keptT {h' : Heap} {o1 : Obj} (hk : ∀ b o, b ∉ [s.heap.objs.size] → (s.heap.push o1).get? b = some o → h'.get? b = some o) :
    ∀ b o, s.heap.get? b = some o → h'.get? b = some o := fun b o e => by
  refine hk b o (fun hm => ?_) (Heap.get?_push_of_some _ e)
  rcases List.mem_cons.mp hm with e1 | hm
  · exact absurd (e1 ▸ Heap.lt_size e) (Nat.lt_irrefl _)
  · cases hm
theorem max_intTup {xs : Array (Int × Tok)} {Q : Value → Shared → Prop} (hh : A.handled = none) (hl : s.heap.IsTuple l (intItems xs)) (hne : 0 < xs.size)
    (h : ∀ v h' tk, (intItems xs)[argBest (fun i j => decide (numAt xs i > numAt xs j)) (xs.size - 1)]? = some v → (∀ b o, s.heap.get? b = some o → h'.get? b = some o) → Q v { s with heap := h', toks := tk }) :
    wpAny (model prog w) A (call (.builtin "max") [.ref l]) Q E s := by
  have hlt := tup_walk hl
  refine call_max_walk (wpAny_pyIter_tuple hl ?_)
  refine ⟨_, [_, l], [_], _, _, _, _, rfl, Walks.tuple (A := A.in1) hh _ l (Nat.ne_of_lt hlt) (intItems xs),
    ⟨⟨_, Heap.get?_push_size _ rfl, rfl, rfl⟩, hl.push _⟩, fun c hc => ?_, by simpa [intItems] using hne, CmpOf.ints_gt (numAt xs) (fun _ _ => intItems_at), fun v h' tk hP hk => ?_⟩
  · show c < (s.heap.push _).objs.size
    rw [Heap.size_push]
    rcases List.mem_cons.mp hc with rfl | hc
    · exact Nat.lt_succ_self _
    · rcases List.mem_cons.mp hc with rfl | hc
      · exact Nat.lt_succ_of_lt hlt
      · cases hc
  · exact h v h' tk (by simpa [intItems] using hP) (old_keptT hk)
theorem min_intTup {xs : Array (Int × Tok)} {Q : Value → Shared → Prop} (hh : A.handled = none) (hl : s.heap.IsTuple l (intItems xs)) (hne : 0 < xs.size)
    (h : ∀ v h' tk, (intItems xs)[argBest (fun i j => decide (numAt xs i < numAt xs j)) (xs.size - 1)]? = some v → (∀ b o, s.heap.get? b = some o → h'.get? b = some o) → Q v { s with heap := h', toks := tk }) :
    wpAny (model prog w) A (call (.builtin "min") [.ref l]) Q E s := by
  have hlt := tup_walk hl
  refine call_min_walk (wpAny_pyIter_tuple hl ?_)
  refine ⟨_, [_, l], [_], _, _, _, _, rfl, Walks.tuple (A := A.in1) hh _ l (Nat.ne_of_lt hlt) (intItems xs),
    ⟨⟨_, Heap.get?_push_size _ rfl, rfl, rfl⟩, hl.push _⟩, fun c hc => ?_, by simpa [intItems] using hne, CmpOf.ints_lt (numAt xs) (fun _ _ => intItems_at), fun v h' tk hP hk => ?_⟩
  · show c < (s.heap.push _).objs.size
    rw [Heap.size_push]
    rcases List.mem_cons.mp hc with rfl | hc
    · exact Nat.lt_succ_self _
    · rcases List.mem_cons.mp hc with rfl | hc
      · exact Nat.lt_succ_of_lt hlt
      · cases hc
  · exact h v h' tk (by simpa [intItems] using hP) (old_keptT hk)
end

section
variable {X : Cx} {K : PySem.W.Frag} {S : Addr → Prop} {cls : Nat → Addr} {M M' : Mm} {H H' : Hp} {q : QD} {Q : VK}
theorem atI_rel {ds : List Dt} {xs : List V} {i : Int} {d : Dt} (r : RelDs K S M H ds xs) (e : atI ds i = some d) : ∃ v, atI xs i = some v ∧ RelD K S M H d v := by
  unfold atI at e ⊢
  rw [← r.length]
  cases h : ixN ds.length i with
  | none => rw [h] at e; cases e
  | some j =>
    rw [h] at e
    exact r.get e
/-- an item: what x[y] is -/
def rIxD (K : PySem.W.Frag) (cls : Nat → Addr) : R2 := fun x y H Q => ∃ S M u v d, RelD K S M H u x ∧ RelD K S M H v y ∧ Hold K S cls M H ∧ ixD M u v = some d ∧ ∀ z, RelD K S M H d z → Q z H
theorem ixr_D (hu : X.A.units + 1 < cLine) : IxR X (rIxD X.K cls) := by
  intro value slice pins s σ H x y v u Q I rx ry h hs
  obtain ⟨S, M, a, b, d, ra, rb, hh, e, f⟩ := h
  cases a with
  | tup ds =>
    cases b with
    | int i =>
      cases rb
      obtain ⟨p, xs, rfl, hq, r⟩ := ra.ofTup
      obtain ⟨z, ez, rz⟩ := atI_rel r (show atI ds i = some d from e)
      exact ix_tup value slice pins s σ H _ _ v u Q I rx ry ⟨p, xs, _, z, rfl, rfl, hq, ez, f z rz⟩ hs
    | _ => cases e
  | lst ds =>
    cases b with
    | int i =>
      cases rb
      obtain ⟨p, xs, rfl, hq, r⟩ := ra.ofLst
      obtain ⟨z, ez, rz⟩ := atI_rel r (show atI ds i = some d from e)
      exact ix_list value slice pins s σ H _ _ v u Q I rx ry ⟨p, xs, _, z, rfl, rfl, hq, ez, f z rz⟩ hs
    | _ => cases e
  | ref p =>
    cases ra
    have e' : ixMo (M p) b = some d := e
    cases em : M p with
    | none => rw [em] at e'; cases e'
    | some o =>
      rw [em] at e'
      cases o with
      | lst ds =>
        cases b with
        | int i =>
          cases rb
          obtain ⟨xs, h1, r⟩ := hh _ _ em
          obtain ⟨z, ez, rz⟩ := atI_rel r e'
          exact ix_list value slice pins s σ H _ _ v u Q I rx ry ⟨p, xs, _, z, rfl, rfl, .inl (.inl h1), ez, f z rz⟩ hs
        | _ => cases e'
      | dK kvs =>
        replace e' : (keyOf b).bind (fun k => valD kvs k) = some d := by cases b <;> exact e'
        obtain ⟨ks, h1, r⟩ := hh _ _ em
        cases hk : keyOf b with
        | none => rw [hk] at e'; cases e'
        | some k =>
          rw [hk] at e'
          obtain rfl := keyV rb hk
          have e2 : valD kvs k = some d := e'
          rcases valKD k r with ⟨e1, _⟩ | ⟨d', z, e1, e3, rz⟩
          · rw [e1] at e2; cases e2
          · rw [e1] at e2; cases e2
            obtain rfl : v = Value.ref p := rx
            have g : DGet H p (kV k) (some z) := by rw [← e3]; exact DGet.k h1
            exact tail_any (dict_typeIs I g) PySem.F.slot_dict_getitem.lookup (d_getItem hu I g ry fun w' s3 I3 rw' => ⟨z, H, I3, rw', f z rz⟩) hs
      | dT kvs => cases e'
      | ins c fs => cases e'
  | _ => cases e

/-- a part of a list -/
theorem cut_rel {ds : List Dt} {xs : List V} (r : RelDs K S M H ds xs) (lo hi : Option Int) : RelDs K S M H (cutD ds lo hi) (cutV xs lo hi) := by
  unfold cutD cutV
  rw [r.length]
  exact (r.drop _).take _
def rSlD (K : PySem.W.Frag) (cls : Nat → Addr) : V → Option Int → Option Int → Hp → VK → Prop := fun x lo hi H Q => ∃ S M u ds q, RelD K S M H u x ∧ Hold K S cls M H ∧ seqL M u = some ds ∧ q (.lst (cutD ds lo hi)) M ∧ Fin K S cls M H q Q
theorem sl_D : SlR X (rSlD X.K cls) := by
  intro pins s σ H x v vl vu lo hi sl Q I rx hsl pl pu h
  obtain ⟨S, M, u, ds, q, ru, hh, e, k, f⟩ := h
  obtain ⟨a, xs, rfl, hq, r⟩ := seqL_rel hh ru e
  refine sl_list pins s σ H _ v vl vu lo hi sl Q I rx hsl pl pu ⟨a, xs, rfl, hq, fun p n => ?_⟩
  exact f.at k (.lst (hh.none n) (hh.noS n) (.inl upd_same) ((cut_rel r lo hi).keep (Keeps.newH n))) (hh.newH n) (Keeps.newH n)

/-! ### built-ins -/
def biV : BI → Value
  | .len => .builtin "len" | .min2 => .builtin "min" | .max2 => .builtin "max" | .maxL => .builtin "max" | .minL => .builtin "min" | .sumL => .builtin "sum" | .anyL => .builtin "any" | .allL => .builtin "all"
  | .listOf _ => .type "list" | .tupOf => .type "tuple" | .dictOf => .type "dict" | .sorted _ => .builtin "sorted" | .abs => .builtin "abs"
def rBi (K : PySem.W.Frag) (cls : Nat → Addr) (f : BI) : List V → Hp → VK → Prop := fun vs H Q => ∃ S M ds q, RelDs K S M H ds vs ∧ Hold K S cls M H ∧ biD f ds M q ∧ Fin K S cls M H q Q
theorem rels1 {d : Dt} {vs : List V} (r : RelDs K S M H [d] vs) : ∃ v, vs = [v] ∧ RelD K S M H d v := by
  cases r with
  | cons r t => cases t; exact ⟨_, rfl, r⟩
theorem rels2 {d e : Dt} {vs : List V} (r : RelDs K S M H [d, e] vs) : ∃ v w, vs = [v, w] ∧ RelD K S M H d v ∧ RelD K S M H e w := by
  cases r with
  | cons r t =>
    obtain ⟨w, rfl, r2⟩ := rels1 t
    exact ⟨_, _, rfl, r, r2⟩
theorem rel_ints : ∀ {ns : List Int} {xs : List V}, RelDs K S M H (ns.map .int) xs → xs = ns.map V.int
  | [], _, r => by
    rw [List.map_nil] at r
    cases r
    rfl
  | n :: ns, _, r => by
    rw [List.map_cons] at r
    cases r with
    | cons r t => cases r; rw [rel_ints t, List.map_cons]
theorem rel_bls : ∀ {ns : List Bool} {xs : List V}, RelDs K S M H (ns.map .bl) xs → xs = ns.map V.bl
  | [], _, r => by
    rw [List.map_nil] at r
    cases r
    rfl
  | n :: ns, _, r => by
    rw [List.map_cons] at r
    cases r with
    | cons r t => cases r; rw [rel_bls t, List.map_cons]
theorem putKD {kvs : List (Key × Dt)} {ks : List (Key × V)} (k : Key) {d : Dt} {v : V} (rd : RelD K S M H d v) (r : Paired (fun (p : Key × Dt) (q : Key × V) => p.1 = q.1 ∧ RelD K S M H p.2 q.2) kvs ks) :
    Paired (fun (p : Key × Dt) (q : Key × V) => p.1 = q.1 ∧ RelD K S M H p.2 q.2) (putD kvs k d) (putK ks k v) := by
  have hany : ∀ {kvs : List (Key × Dt)} {ks : List (Key × V)}, Paired (fun (p : Key × Dt) (q : Key × V) => p.1 = q.1 ∧ RelD K S M H p.2 q.2) kvs ks → (kvs.any fun kv => decide (kv.1 = k)) = ks.any fun kv => decide (kv.1 = k) := by
    intro kvs ks r
    induction r with
    | nil => rfl
    | cons r t ih => rw [List.any_cons, List.any_cons, ih, r.1]
  have hmap : ∀ {kvs : List (Key × Dt)} {ks : List (Key × V)}, Paired (fun (p : Key × Dt) (q : Key × V) => p.1 = q.1 ∧ RelD K S M H p.2 q.2) kvs ks →
      Paired (fun (p : Key × Dt) (q : Key × V) => p.1 = q.1 ∧ RelD K S M H p.2 q.2) (kvs.map fun kv => if kv.1 = k then (kv.1, d) else kv) (ks.map fun kv => if kv.1 = k then (kv.1, v) else kv) := by
    intro kvs ks r
    induction r with
    | nil => exact .nil
    | @cons p q _ _ r t ih =>
      rw [List.map_cons, List.map_cons]
      refine .cons ?_ ih
      by_cases h : p.1 = k
      · rw [if_pos h, if_pos (r.1.symm.trans h)]
        exact ⟨r.1, rd⟩
      · rw [if_neg h, if_neg (fun z => h (r.1.trans z))]
        exact r
  have happ : ∀ {kvs : List (Key × Dt)} {ks : List (Key × V)}, Paired (fun (p : Key × Dt) (q : Key × V) => p.1 = q.1 ∧ RelD K S M H p.2 q.2) kvs ks →
      Paired (fun (p : Key × Dt) (q : Key × V) => p.1 = q.1 ∧ RelD K S M H p.2 q.2) (kvs ++ [(k, d)]) (ks ++ [(k, v)]) := by
    intro kvs ks r
    induction r with
    | nil => exact .cons ⟨rfl, rd⟩ .nil
    | cons r t ih => exact .cons r ih
  unfold putD putK
  rw [hany r]
  split
  · exact hmap r
  · exact happ r
theorem mergeKD : ∀ {more : List (Key × Dt)} {ms : List (Key × V)} {kvs : List (Key × Dt)} {ks : List (Key × V)}, Paired (fun (p : Key × Dt) (q : Key × V) => p.1 = q.1 ∧ RelD K S M H p.2 q.2) more ms →
    Paired (fun (p : Key × Dt) (q : Key × V) => p.1 = q.1 ∧ RelD K S M H p.2 q.2) kvs ks → Paired (fun (p : Key × Dt) (q : Key × V) => p.1 = q.1 ∧ RelD K S M H p.2 q.2) (mergeD kvs more) (mergeK ks ms)
  | _, _, _, _, .nil, r => r
  | p :: more, p' :: ms, kvs, ks, .cons h t, r => by
    obtain ⟨k, d⟩ := p
    obtain ⟨k', v⟩ := p'
    obtain ⟨e, rd⟩ := h
    dsimp only at e rd
    subst e
    have z := mergeKD (kvs := putD kvs k d) (ks := putK ks k v) t (putKD k rd r)
    exact z
theorem relKD {d : Dt} {x : V} {k : Key} (r : RelD K S M H (kD k) x) : x = kV k := by
  cases k <;> (cases r; rfl)
theorem pairs_rel : ∀ {kvs : List (Key × Dt)} {xs : List V}, RelDs K S M H (kvs.map fun p => .tup [kD p.1, p.2]) xs →
    ∃ (ps : List Addr) (ks : List (Key × V)), xs = ps.map V.ref ∧ Paired (fun p kv => SqT K H p [kV kv.1, kv.2]) ps ks ∧ Paired (fun (p : Key × Dt) (q : Key × V) => p.1 = q.1 ∧ RelD K S M H p.2 q.2) kvs ks
  | [], _, r => by
    rw [List.map_nil] at r
    cases r
    exact ⟨[], [], rfl, .nil, .nil⟩
  | p :: kvs, _, r => by
    rw [List.map_cons] at r
    cases r with
    | cons r t =>
      obtain ⟨a, xs, rfl, hs, r2⟩ := r.ofTup
      obtain ⟨v, w, rfl, r3, r4⟩ := rels2 r2
      obtain rfl := relKD (d := kD p.1) r3
      obtain ⟨ps, ks, rfl, h1, h2⟩ := pairs_rel t
      exact ⟨a :: ps, (p.1, w) :: ks, rfl, .cons hs h1, .cons ⟨rfl, r4⟩ h2⟩
theorem each_rel : ∀ {ds : List Dt} {xs : List V} {its : List Value}, RelDs K S M H ds xs → Vals xs its → PySem.W.EachIs (fun (v : Value) (d : Dt) => ∃ x, RelD K S M H d x ∧ RelV x v) its ds
  | _, _, _, .nil, .nil => .nil
  | _, _, _, .cons r t, .cons s u => .cons ⟨_, r, s⟩ (each_rel t u)
theorem rel_each : ∀ {its : List Value} {ds : List Dt}, PySem.W.EachIs (fun (v : Value) (d : Dt) => ∃ x, RelD K S M H d x ∧ RelV x v) its ds → ∃ xs, RelDs K S M H ds xs ∧ Vals xs its
  | _, _, .nil => ⟨[], .nil, .nil⟩
  | _, _, .cons ⟨x, r, s⟩ t => by
    obtain ⟨xs, h1, h2⟩ := rel_each t
    exact ⟨x :: xs, .cons r h1, .cons s h2⟩
theorem each_mem' {α β : Type} {R S : α → β → Prop} : ∀ {as : List α} {bs : List β}, PySem.W.EachIs R as bs → (∀ a b, b ∈ bs → R a b → S a b) → PySem.W.EachIs S as bs
  | _, _, .nil, _ => .nil
  | _, _, .cons r t, h => .cons (h _ _ List.mem_cons_self r) (each_mem' t fun a b m => h a b (List.mem_cons_of_mem _ m))
theorem call_sorted (hu : X.A.units + 64 < cLine) {pins : List (Addr × Obj)} {s : Shared} {σ : L2.St} {H : Hp} {a : Addr} {xs : List V} {ds : List Dt} {Q : VK} (I : Inv X pins σ H s) (hq : SqL X.K H a xs) (r : RelDs X.K S M H ds xs)
    (h1 : ∀ d, d ∈ ds → (pyD d).isSome = true ∧ (enD d).depth ≤ 60) (h2 : PySem.W.AllAlike (ds.map enD)) (h3 : PySem.W.Sortable (ds.map enD)) (h : ∀ ys, RelDs X.K S M H (ds.mergeSort (PySem.W.dataLe false enD)) ys → ∀ p, H p = none → Q (.ref p) (upd H p (.lst ys))) :
    wpAny (model X.prog X.w) X.A (call (.builtin "sorted") [.ref a]) (EP X pins σ Q) X.xe s := by
  obtain ⟨its, rv, hl, hz⟩ := I.list hq
  have er := each_rel r rv
  refine PySem.W.sorted_data (bs := ds) (enc := enD) hl.isList er (each_mem' er fun v d m ⟨x, rx, rv⟩ => ?_) h2 h3 (by rw [r.length]; exact hz) (fun d m => by have := (h1 d m).2; omega) fun out ho he => ?_
  · obtain ⟨p, hp⟩ := Option.isSome_iff_exists.mp (h1 d m).1
    have e : enD d = p := by unfold enD; rw [hp]; rfl
    rw [e]
    exact (dp_of rx hp).reads I _ _ _ rv
  · obtain ⟨ys, r2, v2⟩ := rel_each he
    have hn : H (s.heap.objs.size + 1) = none := I.hok.fresh (Nat.le_succ _)
    obtain ⟨n, hn2⟩ := sortedAll_at s.heap its (List.toArray out)
    refine ⟨.ref (s.heap.objs.size + 1), upd H (s.heap.objs.size + 1) (.lst ys), I.laid (t' := s.toks) (fun b o e => sortedAll_old e) (Nat.le_succ _) ⟨?_, out, n, v2, hn2⟩, rfl, h ys r2 _ hn⟩
    rw [← r2.length, List.length_mergeSort, r.length]
    exact hz
theorem call_maxT (hc : X.calm = true) {pins : List (Addr × Obj)} {s : Shared} {σ : L2.St} {H : Hp} {a : Addr} {ns : List Int} {us : List Value} {Q : VK} (I : Inv X pins σ H s) (r : Vals [V.ref a] us) (hs : SqT X.K H a (ns.map V.int)) (hne : 0 < ns.length)
    (q : ∀ m, m ∈ ns → (∀ y, y ∈ ns → y ≤ m) → Q (.int m) H) : wpAny (model X.prog X.w) X.A (call (.builtin "max") us) (EP X pins σ Q) X.xe s := by
  obtain ⟨its, rv, hl, _⟩ := I.tuple hs
  rw [Vals.ref1 r]
  obtain ⟨xs, e⟩ := rv.ints.allInts.items
  have hn : numsOf (intItems xs).toList = ns := by rw [← e]; exact rv.ints.numsOf
  rw [nums_intItems] at hn
  subst hn
  have hl' : s.heap.IsTuple a (intItems xs) := by rw [← e]; exact hl
  have hsz : 0 < xs.size := by simpa using hne
  refine max_intTup (I.ok.hd hc) hl' hsz fun v h' tk hv hk => ?_
  obtain ⟨t, rfl⟩ := intItems_at hv
  obtain ⟨h1, h2⟩ := argBest_gt (numAt xs) (xs.size - 1)
  refine ⟨.int _, H, I.kept hk, ⟨_, rfl⟩, q _ ?_ fun a ha => ?_⟩
  · rw [numAt_eq]; exact PySem.getD_mem (by rw [List.length_map, Array.length_toList]; omega)
  · obtain ⟨j, hj, rfl⟩ := mem_getD ha
    rw [List.length_map, Array.length_toList] at hj
    rw [← numAt_eq]; exact h2 j (by omega)
theorem call_minT (hc : X.calm = true) {pins : List (Addr × Obj)} {s : Shared} {σ : L2.St} {H : Hp} {a : Addr} {ns : List Int} {us : List Value} {Q : VK} (I : Inv X pins σ H s) (r : Vals [V.ref a] us) (hs : SqT X.K H a (ns.map V.int)) (hne : 0 < ns.length)
    (q : ∀ m, m ∈ ns → (∀ y, y ∈ ns → m ≤ y) → Q (.int m) H) : wpAny (model X.prog X.w) X.A (call (.builtin "min") us) (EP X pins σ Q) X.xe s := by
  obtain ⟨its, rv, hl, _⟩ := I.tuple hs
  rw [Vals.ref1 r]
  obtain ⟨xs, e⟩ := rv.ints.allInts.items
  have hn : numsOf (intItems xs).toList = ns := by rw [← e]; exact rv.ints.numsOf
  rw [nums_intItems] at hn
  subst hn
  have hl' : s.heap.IsTuple a (intItems xs) := by rw [← e]; exact hl
  have hsz : 0 < xs.size := by simpa using hne
  refine min_intTup (I.ok.hd hc) hl' hsz fun v h' tk hv hk => ?_
  obtain ⟨t, rfl⟩ := intItems_at hv
  obtain ⟨h1, h2⟩ := argBest_lt (numAt xs) (xs.size - 1)
  refine ⟨.int _, H, I.kept hk, ⟨_, rfl⟩, q _ ?_ fun a ha => ?_⟩
  · rw [numAt_eq]; exact PySem.getD_mem (by rw [List.length_map, Array.length_toList]; omega)
  · obtain ⟨j, hj, rfl⟩ := mem_getD ha
    rw [List.length_map, Array.length_toList] at hj
    rw [← numAt_eq]; exact h2 j (by omega)
theorem callR_bi (hc : X.calm = true) (hu : X.A.units + 64 < cLine) (f : BI) : CallR X (biV f) (rBi X.K cls f) := by
  intro pins s σ H vs us Q I r h
  obtain ⟨S, M, ds, q, rd, hh, k, fn⟩ := h
  have seq : ∀ {d : Dt} {es : List Dt}, RelDs X.K S M H [d] vs → seqL M d = some es → ∃ a xs, vs = [.ref a] ∧ SqL X.K H a xs ∧ RelDs X.K S M H es xs := fun rd e => by
    obtain ⟨v, rfl, rv⟩ := rels1 rd
    obtain ⟨a, xs, rfl, h1, h2⟩ := seqL_rel hh rv e
    exact ⟨a, xs, rfl, h1, h2⟩
  unfold biD at k
  split at k
  · obtain ⟨v, rfl, rv⟩ := rels1 rd
    cases rv
    exact call_len_str pins s σ H _ us Q I r ⟨_, rfl, k.1, fn.here hh (.int _) k.2⟩
  · obtain ⟨v, rfl, rv⟩ := rels1 rd
    obtain ⟨a, xs, rfl, h1, h2⟩ := rv.ofTup
    exact call_len_seq pins s σ H _ us Q I r ⟨_, _, rfl, .inr h1, fn.here hh (.int _) (by rw [← h2.length]; exact k)⟩
  · obtain ⟨v, rfl, rv⟩ := rels1 rd
    obtain ⟨a, xs, rfl, h1, h2⟩ := rv.ofLst
    exact call_len_seq pins s σ H _ us Q I r ⟨_, _, rfl, .inl h1, fn.here hh (.int _) (by rw [← h2.length]; exact k)⟩
  · obtain ⟨v, rfl, rv⟩ := rels1 rd
    cases rv
    split at k
    · rename_i em
      obtain ⟨xs, h1, h2⟩ := hh _ _ em
      exact call_len_seq pins s σ H _ us Q I r ⟨_, _, rfl, .inl (.inl (.inl h1)), fn.here hh (.int _) (by rw [← h2.length]; exact k)⟩
    · rename_i em
      obtain ⟨xs, h1, h2⟩ := hh _ _ em
      exact call_lenD pins s σ H _ us Q I r ⟨_, _, rfl, h1, fn.here hh (.int _) (by rw [← Paired.length h2]; exact k)⟩
    · exact k.elim
  · obtain ⟨v, w, rfl, rv, rw'⟩ := rels2 rd
    cases rv; cases rw'
    exact call_min2 hc pins s σ H _ us Q I r ⟨_, _, rfl, fn.here hh (.int _) k⟩
  · obtain ⟨v, w, rfl, rv, rw'⟩ := rels2 rd
    cases rv; cases rw'
    exact call_max2 hc pins s σ H _ us Q I r ⟨_, _, rfl, fn.here hh (.int _) k⟩
  · obtain ⟨ns, e, h0, k⟩ := k
    rename_i d
    by_cases hd : ∃ es, d = .tup es
    · obtain ⟨es, rfl⟩ := hd
      cases e
      obtain ⟨v, rfl, rv⟩ := rels1 rd
      obtain ⟨a, xs, rfl, h1, h2⟩ := rv.ofTup
      obtain rfl := rel_ints h2
      exact call_maxT hc I r h1 h0 fun m i1 i2 => fn.here hh (.int _) (k m i1 i2)
    have e : seqL M d = some (ns.map .int) := by
      cases d <;> first | exact e | exact absurd ⟨_, rfl⟩ hd
    obtain ⟨a, xs, rfl, h1, h2⟩ := seq rd e
    obtain rfl := rel_ints h2
    exact cr_max hc pins s σ H _ us Q I r ⟨a, ns, rfl, h1, h0, fun m i1 i2 => fn.here hh (.int _) (k m i1 i2)⟩
  · obtain ⟨ns, e, h0, k⟩ := k
    rename_i d
    by_cases hd : ∃ es, d = .tup es
    · obtain ⟨es, rfl⟩ := hd
      cases e
      obtain ⟨v, rfl, rv⟩ := rels1 rd
      obtain ⟨a, xs, rfl, h1, h2⟩ := rv.ofTup
      obtain rfl := rel_ints h2
      exact call_minT hc I r h1 h0 fun m i1 i2 => fn.here hh (.int _) (k m i1 i2)
    have e : seqL M d = some (ns.map .int) := by
      cases d <;> first | exact e | exact absurd ⟨_, rfl⟩ hd
    obtain ⟨a, xs, rfl, h1, h2⟩ := seq rd e
    obtain rfl := rel_ints h2
    exact cr_min hc pins s σ H _ us Q I r ⟨a, ns, rfl, h1, h0, fun m i1 i2 => fn.here hh (.int _) (k m i1 i2)⟩
  · obtain ⟨ns, e, k⟩ := k
    obtain ⟨a, xs, rfl, h1, h2⟩ := seq rd e
    obtain rfl := rel_ints h2
    exact cr_sum hc pins s σ H _ us Q I r ⟨a, ns, rfl, h1, fn.here hh (.int _) k⟩
  · obtain ⟨ns, e, k⟩ := k
    obtain ⟨a, xs, rfl, h1, h2⟩ := seq rd e
    obtain rfl := rel_bls h2
    exact cr_any hc pins s σ H _ us Q I r ⟨a, ns, rfl, h1, fn.here hh (.bl _) k⟩
  · obtain ⟨ns, e, k⟩ := k
    obtain ⟨a, xs, rfl, h1, h2⟩ := seq rd e
    obtain rfl := rel_bls h2
    exact cr_all hc pins s σ H _ us Q I r ⟨a, ns, rfl, h1, fn.here hh (.bl _) k⟩
  · obtain ⟨v, rfl, rv⟩ := rels1 rd
    obtain ⟨a, xs, rfl, h1, h2⟩ := rv.ofTup
    exact call_list_of pins s σ H _ us Q I r ⟨a, xs, rfl, .inr h1, fn.newL hh h2 k⟩
  · obtain ⟨ds, e, k⟩ := k
    obtain ⟨a, xs, rfl, h1, h2⟩ := seq rd e
    exact call_list_of pins s σ H _ us Q I r ⟨a, xs, rfl, .inl h1, fn.newL hh h2 k⟩
  · obtain ⟨v, rfl, rv⟩ := rels1 rd
    obtain ⟨a, xs, rfl, h1, h2⟩ := rv.ofTup
    exact call_tuple_of pins s σ H _ us Q I r ⟨a, xs, rfl, .inr ⟨h1, fn.here hh (.tup h1 h2) k⟩⟩
  · obtain ⟨ds, e, k⟩ := k
    obtain ⟨a, xs, rfl, h1, h2⟩ := seq rd e
    exact call_tuple_of pins s σ H _ us Q I r ⟨a, xs, rfl, .inl ⟨h1, fn.newT hh h2 k⟩⟩
  · obtain ⟨kvs, e, k⟩ := k
    obtain ⟨a, xs, rfl, h1, h2⟩ := seq rd e
    obtain ⟨ps, ks, rfl, h3, h4⟩ := pairs_rel h2
    refine call_dictP hc pins s σ H _ us Q I r ⟨a, ps, ks, rfl, h1, h3, fun p n => ?_⟩
    refine fn.at (k p (hh.none n)) (.ref p) (hh.newM n ⟨_, upd_same, ?_⟩) (Keeps.newM n)
    exact mergeKD (Paired.mapP h4 fun _ _ z => ⟨z.1, z.2.keep (Keeps.newM n)⟩) .nil
  · obtain ⟨ds, e, h1, h2, h3, k⟩ := k
    obtain ⟨a, xs, rfl, h4, h5⟩ := seq rd e
    obtain ⟨u, rfl, ru⟩ := vals1 r
    obtain rfl : u = Value.ref a := ru
    exact call_sorted hu I h4 h5 h1 h2 h3 fun ys ry => fn.newL hh ry k
  · obtain ⟨v, rfl, rv⟩ := rels1 rd
    cases rv
    exact call_abs pins s σ H _ us Q I r ⟨_, rfl, fn.here hh (.int _) k⟩
  · exact k.elim
end
end Fm

/-! The engine, part F: methods, isinstance, truth, stores, walks upon data. -/
namespace Fm
open PySem L2 PySem.Spec PyProof.Rows

section
variable {X : Cx} {K : PySem.W.Frag} {S : Addr → Prop} {cls : Nat → Addr} {M M' : Mm} {H H' : Hp} {q : QD} {Q : VK}
/-! ### methods -/
def miT : MI → String
  | .append => "list" | .pop => "list" | .clear => "list" | .reverse => "list" | .get1 => "dict" | .get2 => "dict"
def miV : MI → String
  | .append => "list.append" | .pop => "list.pop" | .clear => "list.clear" | .reverse => "list.reverse" | .get1 => "dict.get" | .get2 => "dict.get"
def miN : MI → Str
  | .append => "append" | .pop => "pop" | .clear => "clear" | .reverse => "reverse" | .get1 => "get" | .get2 => "get"
def rMi (K : PySem.W.Frag) (cls : Nat → Addr) (f : MI) : V → List V → Hp → VK → Prop := fun x vs H Q => ∃ S M u ds q, RelD K S M H u x ∧ RelDs K S M H ds vs ∧ Hold K S cls M H ∧ mtD f u ds M q ∧ Fin K S cls M H q Q
theorem mtOk_ty {m : MI} {u : Dt} {x : V} (hh : Hold K S cls M H) (r : RelD K S M H u x) (e : mtOk m M u = true) : tyV K (miT m) x H := by
  cases u with
  | ref a =>
    cases r
    replace e : mtOkMo m (M a) = true := e
    cases em : M a with
    | none => rw [em] at e; cases m <;> cases e
    | some o =>
      rw [em] at e
      cases o with
      | lst ds =>
        obtain ⟨xs, h1, _⟩ := hh _ _ em
        cases m <;> first | exact .inl ⟨rfl, xs, .inl (.inl h1)⟩ | cases e
      | dK ds =>
        obtain ⟨xs, h1, _⟩ := hh _ _ em
        cases m <;> first | exact .inr (.inr (.inl ⟨rfl, .inl ⟨xs, h1⟩⟩)) | cases e
      | dT ds => cases m <;> cases e
      | ins c fs => cases m <;> cases e
  | _ => cases e
theorem rels0 {vs : List V} (r : RelDs K S M H [] vs) : vs = [] := by cases r; rfl
theorem mtr_D (hu : X.A.units + 1 < cLine) (f : MI) : MtR X (miV f) (rMi X.K cls f) := by
  intro pins s σ H x vs v us Q I rx rv h
  obtain ⟨S, M, u, ds, q, ru, rd, hh, k, fn⟩ := h
  unfold mtD at k
  split at k
  · rename_i a d
    cases ru
    split at k
    · rename_i xs em
      obtain ⟨zs, h1, h2⟩ := hh _ _ em
      obtain ⟨w, rfl, rw'⟩ := rels1 rd
      refine mt_append pins s σ H _ _ v us Q I rx rv ⟨a, zs, w, rfl, rfl, h1, by rw [← h2.length]; exact k.1, ?_⟩
      have kp : Keeps X.K M H (mset M a (some (.lst (xs ++ [d])))) (upd H a (.lst (zs ++ [w]))) := Keeps.write hh em
      exact fn.at k.2 .non (hh.write em ⟨_, upd_same, (h2.append (.cons rw' .nil)).keep kp⟩) kp
    · exact k.elim
  · rename_i a
    cases ru
    split at k
    · rename_i xs em
      obtain ⟨zs, h1, h2⟩ := hh _ _ em
      obtain rfl := rels0 rd
      obtain ⟨d, e, k⟩ := k
      obtain ⟨y, ey, ry⟩ := h2.get e
      refine mt_pop pins s σ H _ _ v us Q I rx rv ⟨a, zs, y, rfl, rfl, h1, by rw [← h2.length]; exact ey, ?_⟩
      have kp : Keeps X.K M H (mset M a (some (.lst xs.dropLast))) (upd H a (.lst zs.dropLast)) := Keeps.write hh em
      exact fn.at k (ry.keep kp) (hh.write em ⟨_, upd_same, h2.dropLast.keep kp⟩) kp
    · exact k.elim
  · rename_i a
    cases ru
    split at k
    · rename_i xs em
      obtain ⟨zs, h1, h2⟩ := hh _ _ em
      obtain rfl := rels0 rd
      refine mt_clear pins s σ H _ _ v us Q I rx rv ⟨a, zs, rfl, rfl, h1, ?_⟩
      have kp : Keeps X.K M H (mset M a (some (.lst []))) (upd H a (.lst [])) := Keeps.write hh em
      exact fn.at k .non (hh.write em ⟨_, upd_same, .nil⟩) kp
    · exact k.elim
  · rename_i a
    cases ru
    split at k
    · rename_i xs em
      obtain ⟨zs, h1, h2⟩ := hh _ _ em
      obtain rfl := rels0 rd
      refine mt_reverse pins s σ H _ _ v us Q I rx rv ⟨a, zs, rfl, rfl, h1, ?_⟩
      have kp : Keeps X.K M H (mset M a (some (.lst xs.reverse))) (upd H a (.lst zs.reverse)) := Keeps.write hh em
      exact fn.at k .non (hh.write em ⟨_, upd_same, h2.reverse.keep kp⟩) kp
    · exact k.elim
  · rename_i a d
    cases ru
    obtain rfl : v = Value.ref a := rx
    split at k
    · rename_i kvs key em hk
      obtain ⟨ks, h1, h2⟩ := hh _ _ em
      obtain ⟨w, rfl, rw'⟩ := rels1 rd
      obtain rfl := keyV rw' hk
      obtain ⟨u1, rfl, r1⟩ := vals1 rv
      refine d_get1 hu I (DGet.k (k := key) h1) r1 fun w' s' I' rw2 => ⟨_, H, I', rw2, ?_⟩
      rcases valKD key h2 with ⟨e1, e2⟩ | ⟨d', z, e1, e2, rz⟩
      · rw [e2]; rw [e1] at k; exact fn.here hh .non k
      · rw [e2]; rw [e1] at k; exact fn.here hh rz k
    · exact k.elim
  · rename_i a d z
    cases ru
    obtain rfl : v = Value.ref a := rx
    split at k
    · rename_i kvs key em hk
      obtain ⟨ks, h1, h2⟩ := hh _ _ em
      obtain ⟨w, w2, rfl, rw', rw2⟩ := rels2 rd
      obtain rfl := keyV rw' hk
      obtain ⟨u1, u2, rfl, r1, r2⟩ := vals2 rv
      refine d_get2 hu I (DGet.k (k := key) h1) r1 r2 fun w' s' I' rw3 => ⟨_, H, I', rw3, ?_⟩
      rcases valKD key h2 with ⟨e1, e2⟩ | ⟨d', z, e1, e2, rz⟩
      · rw [e2]; rw [e1] at k; exact fn.here hh rw2 k
      · rw [e2]; rw [e1] at k; exact fn.here hh rz k
    · exact k.elim
  · exact k.elim

/-! ### truth -/
theorem tru_D {d : Dt} {x : V} {b : Bool} (hh : Hold K S cls M H) (r : RelD K S M H d x) (e : truD M d = some b) : TruV K x H b := by
  have em : ∀ {ds : List Dt} {xs : List V}, RelDs K S M H ds xs → (!ds.isEmpty) = !xs.isEmpty := fun r => by cases r <;> rfl
  have ek : ∀ {ds : List (Key × Dt)} {xs : List (Key × V)}, Paired (fun (p : Key × Dt) (q : Key × V) => p.1 = q.1 ∧ RelD K S M H p.2 q.2) ds xs → (!ds.isEmpty) = !xs.isEmpty := fun r => by cases r <;> rfl
  cases d with
  | non => cases r; cases e; rfl
  | bl b => cases r; cases e; rfl
  | int b => cases r; cases e; rfl
  | str b => cases e
  | tup ds =>
    obtain ⟨a, xs, rfl, h1, h2⟩ := r.ofTup
    cases e
    exact .inr (.inl ⟨xs, h1, em h2⟩)
  | lst ds =>
    obtain ⟨a, xs, rfl, h1, h2⟩ := r.ofLst
    cases e
    exact .inl ⟨xs, h1, em h2⟩
  | ref a =>
    cases r
    replace e : truMo (M a) = some b := e
    cases em2 : M a with
    | none => rw [em2] at e; cases e
    | some o =>
      rw [em2] at e
      cases o with
      | lst ds =>
        cases e
        obtain ⟨xs, h1, h2⟩ := hh _ _ em2
        exact .inl ⟨xs, .inl (.inl h1), em h2⟩
      | dK ds =>
        cases e
        obtain ⟨xs, h1, h2⟩ := hh _ _ em2
        exact .inr (.inr ⟨xs, h1, ek h2⟩)
      | dT ds => cases e
      | ins c fs => cases e

/-! ### isinstance -/
theorem rd_frz {a : Addr} {xs : List V} (h : Rd H a (.lst xs)) : TyX K H (.ref a) (.type "list") := by
  rcases h with h | ⟨o, h⟩
  · exact .base (.lst h)
  · exact .base (.frz h)
theorem tyD_ok {d : Dt} {x : V} {t : String} (hh : Hold K S cls M H) (r : RelD K S M H d x) (e : tyD M d = some t) : TyX K H x (.type t) := by
  cases d with
  | non => cases r; cases e; exact .base .non
  | bl b => cases r; cases e; exact .base (.bl b)
  | int b => cases r; cases e; exact .base (.int b)
  | str b => cases r; cases e; exact .base (.str b)
  | tup ds =>
    obtain ⟨a, xs, rfl, h1, h2⟩ := r.ofTup
    cases e
    rcases h1 with (h1 | ⟨o, h1⟩) | ⟨o, its, n, h1, h2, _⟩
    · exact .base (.tup h1)
    · exact .fTuple h1
    · exact .kTuple h1 h2
  | lst ds =>
    obtain ⟨a, xs, rfl, h1, h2⟩ := r.ofLst
    cases e
    rcases h1 with h1 | ⟨o, its, n, h1, h2, _⟩
    · exact rd_frz h1
    · exact .kList h1 h2
  | ref a =>
    cases r
    have e' : tyMo (M a) = some t := e
    cases em : M a with
    | none => rw [em] at e'; cases e'
    | some o =>
      rw [em] at e'
      cases o with
      | lst ds =>
        cases e'
        obtain ⟨xs, h1, h2⟩ := hh _ _ em
        exact .base (.lst h1)
      | dK ds =>
        cases e'
        obtain ⟨xs, h1, h2⟩ := hh _ _ em
        exact .base (.dK h1)
      | dT ds =>
        cases e'
        obtain ⟨xs, h1, h2⟩ := hh _ _ em
        exact .base (.dT h1)
      | ins c fs => cases e'

/-! ### stores by place or key -/
def rSetD (K : PySem.W.Frag) (cls : Nat → Addr) : TSet := fun o i v H Q => ∃ (S : Addr → Prop) (M : Mm) (u w d : Dt) (ρq : Mm → Prop), RelD K S M H u o ∧ RelD K S M H w i ∧ RelD K S M H d v ∧ Hold K S cls M H ∧ (∃ p, u = .ref p ∧ ((∃ ds k j, M p = some (.lst ds) ∧ w = .int k ∧ ixN ds.length k = some j ∧ ρq (mset M p (some (.lst (ds.set j d))))) ∨
    ∃ kvs k, M p = some (.dK kvs) ∧ keyOf w = some k ∧ kvs.length < sizeLine ∧ ρq (mset M p (some (.dK (putD kvs k d)))))) ∧ ∀ (M' : Mm) (H' : Hp), ρq M' → Hold K S cls M' H' → Keeps K M H M' H' → Q H'
theorem set_D (hu : X.A.units + 1 < cLine) : PSet X (rSetD X.K cls) := by
  intro pins s σ H o i v uo ui uv Q I ro ri rv h
  obtain ⟨S, M, u, w, d, ρq, ru, rw', rd, hh, ⟨p, rfl, h⟩, fn⟩ := h
  cases ru
  rcases h with ⟨ds, k, j, em, rfl, hj, k2⟩ | ⟨kvs, k, em, hk, hl, k2⟩
  · cases rw'
    obtain ⟨xs, h1, h2⟩ := hh _ _ em
    have kp : Keeps X.K M H (mset M p (some (.lst (ds.set j d)))) (upd H p (.lst (xs.set j v))) := Keeps.write hh em
    exact set_list pins s σ H _ _ v uo ui uv Q I ro ri rv ⟨p, xs, k, j, rfl, rfl, h1, by rw [← h2.length]; exact hj, fn _ _ k2 (hh.write em ⟨_, upd_same, (h2.set rd j).keep kp⟩) kp⟩
  · obtain ⟨ks, h1, h2⟩ := hh _ _ em
    obtain rfl := keyV rw' hk
    obtain rfl : uo = Value.ref p := ro
    have kp : Keeps X.K M H (mset M p (some (.dK (putD kvs k d)))) (upd H p (.dK (putK ks k v))) := Keeps.write hh em
    refine d_setItem hu I (DPut.k (k := k) (v := v) h1 (by rw [← Paired.length h2]; exact hl)) ri rv fun s' I' => ⟨_, I', fn _ _ k2 (hh.write em ⟨_, upd_same, ?_⟩) kp⟩
    exact putKD k (rd.keep kp) (Paired.mapP h2 fun _ _ z => ⟨z.1, z.2.keep kp⟩)
end
end Fm

/-! The engine, part G: contexts, promises, readings by wishes, the look that a text is the program's. -/
namespace Fm
open PySem L2 PySem.Spec PyProof.Rows

structure Tab where
  fns : List (Nat × Str × Nat)
  gls : List (Nat × Str)
  bis : List Str

section
variable (K : PySem.W.Frag) (S : Addr → Prop) (cls : Nat → Addr)
/-- slots -/
structure RelR (M : Mm) (H : Hp) (ρ : Rho) (σ : L2.St) : Prop where
  len : ρ.length = σ.length
  at_ : ∀ (i : Nat) (d : Dt), ρ[i]? = some (some d) → ∃ v, σ[i]? = some (some v) ∧ RelD K S M H d v
/-- an exception's own dict -/
def XcAt (M : Mm) (H : Hp) (z : Xc) (d : Addr) : Prop := ∃ gs, H d = some (.xd gs) ∧ Paired (fun (p : Str × Dt) (q : Str × V) => p.1 = q.1 ∧ RelD K S M H p.2 q.2) z.fs gs
def QW (Q : VK) (M : Mm) (H : Hp) : QD := fun d M' => ∀ v H', RelD K S M' H' d v → Hold K S cls M' H' → Keeps K M H M' H' → Q v H'
def XW (W : WX) (σ : L2.St) (M : Mm) (H : Hp) : QX := fun z M' => ∀ d H', XcAt K S M' H' z d → Hold K S cls M' H' → Keeps K M H M' H' → W (.ref (cls z.c)) (some d) σ H'
def RW (Q : L2.St → Hp → Prop) (M : Mm) (H : Hp) : QR := fun ρ' M' => ∀ σ' H', RelR K S M' H' ρ' σ' → Hold K S cls M' H' → Keeps K M H M' H' → Q σ' H'
def KW (W : WX) (D : Ends) (M : Mm) (H : Hp) : Kn where
  nx := RW K S cls D.nx M H
  rt := QW K S cls D.rt M H
  bk := RW K S cls D.bk M H
  ct := RW K S cls D.ct M H
  xx := fun z ρ' M' => ∀ σ' d H', RelR K S M' H' ρ' σ' → XcAt K S M' H' z d → Hold K S cls M' H' → Keeps K M H M' H' → W (.ref (cls z.c)) (some d) σ' H'
end
section
variable (K : PySem.W.Frag) (cls : Nat → Addr)
/-- a def's promise by what it does -/
def spW (n : Nat) (F : Wf) : Sp := fun vs H Q E => vs.length = n ∧ ∃ S ds M, RelDs K S M H ds vs ∧ Hold K S cls M H ∧
  F.run ds M (QW K S cls Q M H) fun z M' => ∀ d H', XcAt K S M' H' z d → Hold K S cls M' H' → Keeps K M H M' H' → E (.ref (cls z.c)) (some d) H'
variable (G : Gt) (W : WX)
def tE (e : E) : TE := fun σ H Q => ∃ S ρ M, RelR K S M H ρ σ ∧ Hold K S cls M H ∧ wpE G e ρ M (QW K S cls Q M H) (XW K S cls W σ M H)
def tEs (e : Es) : TA := fun σ H Q => ∃ S ρ M, RelR K S M H ρ σ ∧ Hold K S cls M H ∧ wpEs G e ρ M (fun ds M' => ∀ vs H', RelDs K S M' H' ds vs → Hold K S cls M' H' → Keeps K M H M' H' → Q vs H') (XW K S cls W σ M H)
def tO (e : EO) : TO := fun σ H Q => ∃ S ρ M, RelR K S M H ρ σ ∧ Hold K S cls M H ∧ wpO G e ρ M (fun o M' => ∀ H', Hold K S cls M' H' → Keeps K M H M' H' → Q o H') (XW K S cls W σ M H)
def tT (t : T) : TT := fun σ H Q => ∃ S ρ M, RelR K S M H ρ σ ∧ Hold K S cls M H ∧ wpT G t ρ M (fun b M' => ∀ H', Hold K S cls M' H' → Keeps K M H M' H' → Q b H') (XW K S cls W σ M H)
def tAl (t : Ts) : TT := fun σ H Q => ∃ S ρ M, RelR K S M H ρ σ ∧ Hold K S cls M H ∧ wpAll G t ρ M (fun b M' => ∀ H', Hold K S cls M' H' → Keeps K M H M' H' → Q b H') (XW K S cls W σ M H)
def tAn (t : Ts) : TT := fun σ H Q => ∃ S ρ M, RelR K S M H ρ σ ∧ Hold K S cls M H ∧ wpAny' G t ρ M (fun b M' => ∀ H', Hold K S cls M' H' → Keeps K M H M' H' → Q b H') (XW K S cls W σ M H)
def tBo (k : Bool) (e : Es) : TE := fun σ H Q => ∃ S ρ M, RelR K S M H ρ σ ∧ Hold K S cls M H ∧ wpB G k e ρ M (QW K S cls Q M H) (XW K S cls W σ M H)
end
section
variable (K : PySem.W.Frag) (S : Addr → Prop) (cls : Nat → Addr)
/-- what an iterator gives: the items, as long as they may be read -/
def Yld (ds : List Dt) (keep : Mm → Prop) (M0 : Mm) (H0 : Hp) (J : It) : Prop := ∀ S' : Addr → Prop, (∀ a, S' a → S a ∨ H0 a = none) → ∀ (i : Nat) M H, Hold K S' cls M H → Keeps K M0 H0 M H → keep M →
  (i < ds.length → J.go i H ∧ ∀ x H', J.yld i H x H' → ∃ d, ds[i]? = some d ∧ RelD K S' M H' d x ∧ Hold K S' cls M H' ∧ Keeps K M H M H') ∧ (ds.length ≤ i → J.stop i H)
end
section
variable (K : PySem.W.Frag) (cls : Nat → Addr) (G : Gt) (W : WX)
def tI (t : Ie) : TI := fun σ H R => ∃ S ρ M, RelR K S M H ρ σ ∧ Hold K S cls M H ∧ wpI G t ρ M (fun ds keep M' => ∀ J H', Yld K S cls ds keep M' H' J → Hold K S cls M' H' → Keeps K M H M' H' → R J H') (XW K S cls W σ M H)
def tG (t : Tg) : TG := fun v σ H Q => ∃ S d ρ M, RelD K S M H d v ∧ RelR K S M H ρ σ ∧ Hold K S cls M H ∧ wpG G t d ρ M (RW K S cls Q M H) (XW K S cls W σ M H)
def tGs (t : Tgs) : TGs := fun vs σ H Q => ∃ S ds ρ M, RelDs K S M H ds vs ∧ RelR K S M H ρ σ ∧ Hold K S cls M H ∧ wpGs G t ds ρ M (RW K S cls Q M H) (fun _ _ => False)
def tS (s : Sm) : TS := fun D σ H => ∃ S ρ M, RelR K S M H ρ σ ∧ Hold K S cls M H ∧ wpS G s (KW K S cls W D M H) ρ M
def tSs (s : Sms) : TS := fun D σ H => ∃ S ρ M, RelR K S M H ρ σ ∧ Hold K S cls M H ∧ wpSs G s (KW K S cls W D M H) ρ M
end
section
variable {K : PySem.W.Frag} {S : Addr → Prop} {cls : Nat → Addr} {G : Gt} {W : WX} {M M0 M1 M' : Mm} {H H0 H1 H' : Hp} {ρ : Rho} {σ : L2.St}
theorem RelR.keep (r : RelR K S M H ρ σ) (k : Keeps K M H M' H') : RelR K S M' H' ρ σ := ⟨r.len, fun i d e => by
  obtain ⟨v, h1, h2⟩ := r.at_ i d e
  exact ⟨v, h1, h2.keep k⟩⟩
theorem RelR.set (r : RelR K S M H ρ σ) (i : Nat) {d : Dt} {v : V} (rd : RelD K S M H d v) : RelR K S M H (ρ.set i (some d)) (σ.set i (some v)) := ⟨by rw [List.length_set, List.length_set, r.len], fun j e h => by
  by_cases hij : i = j
  · subst hij
    by_cases hl : i < ρ.length
    · rw [List.getElem?_set_self hl] at h
      cases h
      exact ⟨v, List.getElem?_set_self (by rw [← r.len]; exact hl), rd⟩
    · rw [List.getElem?_eq_none (by rw [List.length_set]; omega)] at h
      cases h
  · rw [List.getElem?_set_ne hij] at h
    rw [List.getElem?_set_ne hij]
    exact r.at_ j e h⟩
theorem RelR.unset (r : RelR K S M H ρ σ) (i : Nat) : RelR K S M H (ρ.set i none) (σ.set i none) := ⟨by rw [List.length_set, List.length_set, r.len], fun j e h => by
  by_cases hij : i = j
  · subst hij
    by_cases hl : i < ρ.length
    · rw [List.getElem?_set_self hl] at h
      cases h
    · rw [List.getElem?_eq_none (by rw [List.length_set]; omega)] at h
      cases h
  · rw [List.getElem?_set_ne hij] at h
    rw [List.getElem?_set_ne hij]
    exact r.at_ j e h⟩
theorem RelR.wipe (r : RelR K S M H ρ σ) : ∀ vs : List Nat, RelR K S M H (wipeR ρ vs) (L2.wipe σ vs)
  | [] => r
  | v :: vs => (RelR.wipe r vs).unset v
theorem XW.on {z : Xc} (k : Keeps K M H M1 H1) (x : XW K S cls W σ M H z M') : XW K S cls W σ M1 H1 z M' := fun d H' a b c => x d H' a b (k.trans c)
theorem KW.xw {D : Ends} {z : Xc} (r : RelR K S M1 H1 ρ σ) (k : Keeps K M H M1 H1) (x : (KW K S cls W D M H).xx z ρ M') : XW K S cls W σ M1 H1 z M' := fun d H' a b c => x σ d H' (r.keep c) a b (k.trans c)
variable {q : QD} {x : QX}
theorem tE_in {e : E} {Q : VK} (r : RelR K S M H ρ σ) (h : Hold K S cls M H) (w : wpE G e ρ M q x) (hx : ∀ z M', x z M' → XW K S cls W σ M H z M') (hq : ∀ d M' v H', q d M' → RelD K S M' H' d v → Hold K S cls M' H' → Keeps K M H M' H' → Q v H') : tE K cls G W e σ H Q :=
  ⟨S, ρ, M, r, h, wpE_mono e (fun d M' k v H' a b c => hq d M' v H' k a b c) hx w⟩
theorem tEs_inL {e : Es} {q : QL} {Q : List V → Hp → Prop} (r : RelR K S M H ρ σ) (h : Hold K S cls M H) (w : wpEs G e ρ M q x) (hx : ∀ z M', x z M' → XW K S cls W σ M H z M') (hq : ∀ d M' v H', d.length = e.len → q d M' → RelDs K S M' H' d v → Hold K S cls M' H' → Keeps K M H M' H' → Q v H') : tEs K cls G W e σ H Q :=
  ⟨S, ρ, M, r, h, wpEs_monoL e (fun d M' l k v H' a b c => hq d M' v H' l k a b c) hx w⟩
theorem tEs_in {e : Es} {q : QL} {Q : List V → Hp → Prop} (r : RelR K S M H ρ σ) (h : Hold K S cls M H) (w : wpEs G e ρ M q x) (hx : ∀ z M', x z M' → XW K S cls W σ M H z M') (hq : ∀ d M' v H', q d M' → RelDs K S M' H' d v → Hold K S cls M' H' → Keeps K M H M' H' → Q v H') : tEs K cls G W e σ H Q :=
  tEs_inL r h w hx fun d M' v H' _ => hq d M' v H'
theorem tO_in {e : EO} {q : Option Int → Mm → Prop} {Q : Option Int → Hp → Prop} (r : RelR K S M H ρ σ) (h : Hold K S cls M H) (w : wpO G e ρ M q x) (hx : ∀ z M', x z M' → XW K S cls W σ M H z M') (hq : ∀ d M' H', q d M' → Hold K S cls M' H' → Keeps K M H M' H' → Q d H') : tO K cls G W e σ H Q :=
  ⟨S, ρ, M, r, h, wpO_mono e (fun d M' k H' a b => hq d M' H' k a b) hx w⟩
theorem tT_in {e : T} {q : QB} {Q : Bool → Hp → Prop} (r : RelR K S M H ρ σ) (h : Hold K S cls M H) (w : wpT G e ρ M q x) (hx : ∀ z M', x z M' → XW K S cls W σ M H z M') (hq : ∀ d M' H', q d M' → Hold K S cls M' H' → Keeps K M H M' H' → Q d H') : tT K cls G W e σ H Q :=
  ⟨S, ρ, M, r, h, wpT_mono e (fun d M' k H' a b => hq d M' H' k a b) hx w⟩
theorem tAl_in {e : Ts} {q : QB} {Q : Bool → Hp → Prop} (r : RelR K S M H ρ σ) (h : Hold K S cls M H) (w : wpAll G e ρ M q x) (hx : ∀ z M', x z M' → XW K S cls W σ M H z M') (hq : ∀ d M' H', q d M' → Hold K S cls M' H' → Keeps K M H M' H' → Q d H') : tAl K cls G W e σ H Q :=
  ⟨S, ρ, M, r, h, wpAll_mono e (fun d M' k H' a b => hq d M' H' k a b) hx w⟩
theorem tAn_in {e : Ts} {q : QB} {Q : Bool → Hp → Prop} (r : RelR K S M H ρ σ) (h : Hold K S cls M H) (w : wpAny' G e ρ M q x) (hx : ∀ z M', x z M' → XW K S cls W σ M H z M') (hq : ∀ d M' H', q d M' → Hold K S cls M' H' → Keeps K M H M' H' → Q d H') : tAn K cls G W e σ H Q :=
  ⟨S, ρ, M, r, h, wpAny_mono' e (fun d M' k H' a b => hq d M' H' k a b) hx w⟩
theorem tBo_in {k : Bool} {e : Es} {Q : VK} (r : RelR K S M H ρ σ) (h : Hold K S cls M H) (w : wpB G k e ρ M q x) (hx : ∀ z M', x z M' → XW K S cls W σ M H z M') (hq : ∀ d M' v H', q d M' → RelD K S M' H' d v → Hold K S cls M' H' → Keeps K M H M' H' → Q v H') : tBo K cls G W k e σ H Q :=
  ⟨S, ρ, M, r, h, wpB_mono e (fun d M' k v H' a b c => hq d M' v H' k a b c) hx w⟩
theorem tI_in {e : Ie} {q : List Dt → (Mm → Prop) → Mm → Prop} {R : It → Hp → Prop} (r : RelR K S M H ρ σ) (h : Hold K S cls M H) (w : wpI G e ρ M q x) (hx : ∀ z M', x z M' → XW K S cls W σ M H z M')
    (hq : ∀ ds keep M' J H', q ds keep M' → Yld K S cls ds keep M' H' J → Hold K S cls M' H' → Keeps K M H M' H' → R J H') : tI K cls G W e σ H R :=
  ⟨S, ρ, M, r, h, wpI_mono e (fun ds keep M' k J H' a b c => hq ds keep M' J H' k a b c) hx w⟩
theorem tG_in {t : Tg} {d : Dt} {v : V} {q : QR} {Q : L2.St → Hp → Prop} (rd : RelD K S M H d v) (r : RelR K S M H ρ σ) (h : Hold K S cls M H) (w : wpG G t d ρ M q x) (hx : ∀ z M', x z M' → XW K S cls W σ M H z M')
    (hq : ∀ ρ' M' σ' H', q ρ' M' → RelR K S M' H' ρ' σ' → Hold K S cls M' H' → Keeps K M H M' H' → Q σ' H') : tG K cls G W t v σ H Q :=
  ⟨S, d, ρ, M, rd, r, h, wpG_mono t (fun ρ' M' k σ' H' a b c => hq ρ' M' σ' H' k a b c) hx w⟩
theorem KW.le {D : Ends} (k : Keeps K M H M1 H1) : Kn.Le (KW K S cls W D M H) (KW K S cls W D M1 H1) :=
  ⟨fun _ _ z σ' H' a b c => z σ' H' a b (k.trans c), fun _ _ z v H' a b c => z v H' a b (k.trans c), fun _ _ z σ' H' a b c => z σ' H' a b (k.trans c), fun _ _ z σ' H' a b c => z σ' H' a b (k.trans c), fun _ _ _ z σ' d H' a b c e => z σ' d H' a b c (k.trans e)⟩
theorem tSs_in {s : Sms} {k : Kn} {D : Ends} (r : RelR K S M H ρ σ) (h : Hold K S cls M H) (w : wpSs G s k ρ M) (le : Kn.Le k (KW K S cls W D M H)) : tSs K cls G W s D σ H :=
  ⟨S, ρ, M, r, h, wpSs_mono s le w⟩
theorem tS_in {s : Sm} {k : Kn} {D : Ends} (r : RelR K S M H ρ σ) (h : Hold K S cls M H) (w : wpS G s k ρ M) (le : Kn.Le k (KW K S cls W D M H)) : tS K cls G W s D σ H :=
  ⟨S, ρ, M, r, h, wpS_mono s le w⟩
end

/-! ### the surroundings of a text -/
section
variable (P : Program) (w : World) (K : PySem.W.Frag) (mg : Str → Option Value) (base : Heap) (cls : Nat → Addr) (k : Nat)
def FnIn (x : Str) (n : Nat) (F : Wf) : Prop := ∃ f fd ps, ps.length = n ∧ mg x = some (.ref f) ∧ PySem.W.keepIn K (.ref f) = true ∧ Binds K fd ps [] ∧ FnOk P w K mg base (L2.CX P w) k f fd ps (spW K cls n F)
structure EnvOk (Tb : Tab) (G : Gt) : Prop where
  fn : ∀ (g : Nat) x n, Tb.fns.lookup g = some (x, n) → FnIn P w K mg base cls k x n (G.call g)
  gl : ∀ (g : Nat) x, Tb.gls.lookup g = some x → ∃ v u, mg x = some u ∧ RelV v u ∧ ∀ (S : Addr → Prop) M H, RelD K S M H (G.gval g) v
  bi : ∀ x, x ∈ Tb.bis → mg x = none
end
structure Good (X : Cx) (cls : Nat → Addr) (k : Nat) (Tb : Tab) (G : Gt) (N : List Str) (nm : List (Str × NameKind)) (top : Bool) (W : WX) : Prop where
  env : EnvOk X.prog X.w X.K X.mg X.base cls k Tb G
  hN : X.N = N
  nd : N.Nodup
  nm : X.env.scope.names = nm
  kind : X.env.scope.kind = .function
  calm : X.calm = true
  room : Room k X.A
  fn : top = true → ∀ x, X.fn x = true
  pas : PassesOwn (model X.prog X.w) X.A X.env X.xe
  tk : Takes X W

/-! ### the look -/
def okN (y : Str) : Bool := !(y == ("__debug__" : Str)) && (!(y == ("__classdict__" : Str)) && !decide (y = ("__name__" : Str)))
def visB (nm : List (Str × NameKind)) (y : Str) : Bool := match nm.lookup y with
  | some .local => true
  | some .cell => true
  | some .free => true
  | _ => false
def glB (nm : List (Str × NameKind)) (y : Str) : Bool := match nm.lookup y with
  | some .globalImplicit => true
  | _ => false
def locB (nm : List (Str × NameKind)) (top : Bool) (y : Str) : Bool := match nm.lookup y with
  | some .local => true
  | some .cell => top
  | _ => false
def notStar : Expr → Bool
  | .Starred _ _ => false
  | _ => true
def noStars (es : List Expr) : Bool := es.all notStar
def notSet : Expr → Bool
  | .Set _ _ _ => false
  | _ => true
def notSlice : Expr → Bool
  | .Slice _ _ _ _ => false
  | _ => true
def noCall0 : Expr → Bool
  | .Call (.Name _ _) [] [] _ => false
  | _ => true
def noComp : Expr → Bool
  | .ListComp _ _ _ _ => false
  | .SetComp _ _ _ _ => false
  | .DictComp _ _ _ _ _ => false
  | _ => true
def plainT : Expr → Bool
  | .UnaryOp .Not _ _ => false
  | .BoolOp _ _ _ => false
  | .IfExp _ _ _ _ => false
  | .Compare _ _ _ _ => false
  | _ => true
def biN : BI → Str
  | .len => "len" | .min2 => "min" | .max2 => "max" | .maxL => "max" | .minL => "min" | .sumL => "sum" | .anyL => "any" | .allL => "all"
  | .listOf _ => "list" | .tupOf => "tuple" | .dictOf => "dict" | .sorted _ => "sorted" | .abs => "abs"
/-- no stores are exchanged -/
def swN (nm : List (Str × NameKind)) (tg e : Expr) : Bool := match tg, e with
  | .Tuple ts _ _, .Tuple vs _ _ => !(ts.length == 2 || ts.length == 3) || (vs.length != ts.length || (vs.all (foldedForSure 8) || (ts.filterMap fun
      | .Name id pos => if nm.lookup id == some .local && pos.line == (ts.head?.map (·.pos.line)).getD 0 then some id else none
      | _ => none).length != ts.length))
  | .List _ _, .Tuple _ _ _ => false
  | _, _ => true
/-- a comprehension's variables are not let go behind the store -/
def swT (nm : List (Str × NameKind)) : Expr → Bool
  | .Name t _ => (match nm.lookup t with
    | some .local => false
    | _ => true)
  | _ => true
def swC (nm : List (Str × NameKind)) (tg e : Expr) : Bool := noComp e || swT nm tg
def isiC (Tb : Tab) (nm : List (Str × NameKind)) : List TyR → Bool → Expr → Bool
  | [.ty n], false, .Name z _ => decide (z = Str.ofString n) && (decide (bootBuiltins z = some (.type n)) && (decide (z ∈ Tb.bis) && (glB nm z && okN z)))
  | _, _, _ => false
def relN (nm : List (Str × NameKind)) (scope : Scope) : List (Str × NameKind) := scope.names.map fun (n, k) => if (k == .free && nm.lookup n == some .cell) then (n, .cell) else (n, k)
mutual
def tgOwn (own : List Nat) : Tg → Bool
  | .name i => decide (i ∈ own)
  | .tup gs => tgsOwn own gs
  | .ix _ _ => false
def tgsOwn (own : List Nat) : Tgs → Bool
  | .nil => true
  | .cons g gs => tgOwn own g && tgsOwn own gs
end
section
variable (Tb : Tab) (N : List Str)
mutual
def ckE (nm : List (Str × NameKind)) (top : Bool) : E → Expr → Bool
  | .var i, .Name y _ => decide (N[i]? = some y) && (visB nm y && okN y)
  | .int z, .Constant (.int u) _ _ => decide (z = u)
  | .str z, .Constant (.str u) _ _ => decide (z = u)
  | .bl z, .Constant (.bool u) _ _ => decide (z = u)
  | .non, .Constant .none _ _ => true
  | .glob g, .Name y _ => decide (Tb.gls.lookup g = some y) && (glB nm y && okN y)
  | .bin o a b, .BinOp l p r _ => decide (opOf o = p) && (ckE nm top a l && ckE nm top b r)
  | .neg a, .UnaryOp .USub l _ => ckE nm top a l
  | .cmp o a b, .Compare l [p] [r] _ => decide (copOf o = p) && (notSet r && (ckE nm top a l && ckE nm top b r))
  | .cmp2 o o2 a b c, .Compare l [p, p2] [m, r] _ => decide (copOf o = p) && (decide (copOf o2 = p2) && (notSet m && (notSet r && (ckE nm top a l && (ckE nm top b m && ckE nm top c r)))))
  | .bop k as, .BoolOp p es _ => decide (p = if k = true then BoolOp.And else BoolOp.Or) && ckEs nm top as es
  | .not_ a, .UnaryOp .Not l _ => ckE nm top a l
  | .ite c a b, .IfExp t l r _ => ckT nm top c t && (ckE nm top a l && ckE nm top b r)
  | .tup as, .Tuple es _ _ => noStars es && ckEs nm top as es
  | .lst _ as, .List es _ => noStars es && ckEs nm top as es
  | .ix a b, .Subscript l r _ => notSlice r && (ckE nm top a l && ckE nm top b r)
  | .sl a lo hi, .Subscript l (.Slice u v none _) _ => ckE nm top a l && (ckO nm top lo u && ckO nm top hi v)
  | .call g as, .Call (.Name y _) (e :: es) [] _ => decide (Tb.fns.lookup g = some (y, (e :: es).length)) && (glB nm y && (okN y && (noStars (e :: es) && ckEs nm top as (e :: es))))
  | .bi f as, .Call (.Name y _) (e :: es) [] _ => decide (biN f = y) && (decide (y ∈ Tb.bis) && (glB nm y && (noStars (e :: es) && ckEs nm top as (e :: es))))
  | .mt m a as, .Call (.Attribute l y ap) es [] cp => decide (miN m = y) && (noCall0 l && ((ap.endLine == cp.line) && (decide (es.length < 29) && (noStars es && (ckE nm top a l && ckEs nm top as es)))))
  | .isi a ts tup, .Call (.Name y _) [l, c] [] _ => isiC Tb nm ts tup c && (decide (y = ("isinstance" : Str)) && (decide (y ∈ Tb.bis) && (glB nm y && (notStar l && (notStar c && ckE nm top a l)))))
  | .lc _ own t it cs e, .ListComp elt [c] scope _ => decide (c.is_async = 0) && (decide (c.ifs.length ≤ 1) && (blkC N ⟨.function, nm, false, false, []⟩ scope own && (notSet c.iter && (ckI nm top it c.iter && (ckG (relN nm scope) false t c.target && (tgOwn (own.map (·.2)) t && (ckTs (relN nm scope) false cs c.ifs && ckE (relN nm scope) false e elt)))))))
  | .frz a, x => ckE nm top a x
  | _, _ => false
def ckEs (nm : List (Str × NameKind)) (top : Bool) : Es → List Expr → Bool
  | .nil, [] => true
  | .cons e es, x :: xs => ckE nm top e x && ckEs nm top es xs
  | _, _ => false
def ckO (nm : List (Str × NameKind)) (top : Bool) : EO → Option Expr → Bool
  | .none, none => true
  | .some e, some x => ckE nm top e x
  | _, _ => false
def ckT (nm : List (Str × NameKind)) (top : Bool) : T → Expr → Bool
  | .val a, x => plainT x && ckE nm top a x
  | .cmp o a b, .Compare l [p] [r] _ => decide (copOf o = p) && (notSet r && (ckE nm top a l && ckE nm top b r))
  | .cmp2 o o2 a b c, .Compare l [p, p2] [m, r] _ => decide (copOf o = p) && (decide (copOf o2 = p2) && (notSet m && (notSet r && (ckE nm top a l && (ckE nm top b m && ckE nm top c r)))))
  | .not_ t, .UnaryOp .Not l _ => ckT nm top t l
  | .all ts, .BoolOp .And (x :: xs) _ => ckTs nm top ts (x :: xs)
  | .any ts, .BoolOp .Or (x :: xs) _ => ckTs nm top ts (x :: xs)
  | _, _ => false
def ckTs (nm : List (Str × NameKind)) (top : Bool) : Ts → List Expr → Bool
  | .nil, [] => true
  | .cons t ts, x :: xs => ckT nm top t x && ckTs nm top ts xs
  | _, _ => false
def ckI (nm : List (Str × NameKind)) (top : Bool) : Ie → Expr → Bool
  | .seq a, x => ckE nm top a x
  | .rng1 a, .Call (.Name y _) [l] [] _ => decide (y = ("range" : Str)) && (decide (y ∈ Tb.bis) && (glB nm y && (notStar l && ckE nm top a l)))
  | .rng2 a b, .Call (.Name y _) [l, r] [] _ => decide (y = ("range" : Str)) && (decide (y ∈ Tb.bis) && (glB nm y && (notStar l && (notStar r && (ckE nm top a l && ckE nm top b r)))))
  | _, _ => false
def ckG (nm : List (Str × NameKind)) (top : Bool) : Tg → Expr → Bool
  | .name i, .Name y _ => decide (N[i]? = some y) && locB nm top y
  | .tup gs, .Tuple es _ _ => noStars es && ckGs nm top gs es
  | .ix a b, .Subscript l r _ => notSlice r && (ckE nm top a l && ckE nm top b r)
  | _, _ => false
def ckGs (nm : List (Str × NameKind)) (top : Bool) : Tgs → List Expr → Bool
  | .nil, [] => true
  | .cons t ts, x :: xs => ckG nm top t x && ckGs nm top ts xs
  | _, _ => false
end
mutual
def ckS (nm : List (Str × NameKind)) : Sm → Stmt → Bool
  | .asg t e, .Assign [tg] x _ => swC nm tg x && (swN nm tg x && (ckG Tb N nm true t tg && ckE Tb N nm true e x))
  | .asgC i (.lc l own t it cs e), .Assign [.Name y py] (.ListComp elt gs scope pos) sp => decide (N[i]? = some y) && (decide (nm.lookup y = some .local) && ((py.line == pos.line) && (!(scope.names.any fun (n, k) => n == y && (k == .local || k == .cell)) && ckE Tb N nm true (.lc l own t it cs e) (.ListComp elt gs scope pos))))
  | .par i j a b, .Assign [.Tuple [.Name x px, .Name y py] _ _] (.Tuple [l, r] _ _) _ => decide (N[i]? = some x) && (decide (N[j]? = some y) && (decide (i ≠ j) && (decide (x ≠ y) && (decide (nm.lookup x = some .local) && (decide (nm.lookup y = some .local) && ((py.line == px.line) && (notStar l && (notStar r && (!([l, r].all (foldedForSure 8)) && (!([l, r].all (constantsAlone 8)) && (ckE Tb N nm true a l && ckE Tb N nm true b r)))))))))))
  | .aug i o e, .AugAssign (.Name y _) p x _ => decide (N[i]? = some y) && (locB nm true y && ((o == .add || o == .sub) && (decide (opOf o = p) && ckE Tb N nm true e x)))
  | .expr e, .Expr x _ => noComp x && ckE Tb N nm true e x
  | .if_ c a b, .If t l r _ => ckT Tb N nm true c t && (ckSs nm a l && ckSs nm b r)
  | .for_ t it b, .For tg iter body [] _ => notSet iter && (ckI Tb N nm true it iter && (ckG Tb N nm true t tg && ckSs nm b body))
  | .while_ c b, .While t body [] _ => ckT Tb N nm true c t && ckSs nm b body
  | .ret e, .Return (some x) _ => ckE Tb N nm true e x
  | .retN, .Return none _ => true
  | .brk, .Break _ => true
  | .cont, .Continue _ => true
  | .pass, .Pass _ => true
  | .never, _ => true
  | _, _ => false
def ckSs (nm : List (Str × NameKind)) : Sms → List Stmt → Bool
  | .nil, [] => true
  | .cons s ss, x :: xs => ckS nm s x && ckSs nm ss xs
  | _, _ => false
end
end
end Fm

/-! The engine, part H: side conditions, readings weakened, more rules of the layer. -/
namespace Fm
open PySem L2 PySem.Spec PyProof.Rows

theorem and2 {a b : Bool} (h : (a && b) = true) : a = true ∧ b = true := Bool.and_eq_true_iff.mp h
theorem dec1 {p : Prop} [Decidable p] (h : decide p = true) : p := of_decide_eq_true h

/-! ### side conditions -/
theorem star_cons {e : Expr} (h : notStar e = true) (es : List Expr) (env : Env) : starEach (e :: es) env = (false, eval e env) :: starEach es env := by
  cases e <;> first | rfl | cases h
theorem stars_any : ∀ {es : List Expr}, noStars es = true → ∀ (pos : Pos) (env : Env), (backTo pos (starEach es env)).any (·.1) = false
  | [], _, _, _ => rfl
  | e :: es, h, pos, env => by
    obtain ⟨h1, h2⟩ := and2 (show (notStar e && noStars es) = true from h)
    rw [star_cons h1]
    show (false || (backTo pos (starEach es env)).any (·.1)) = false
    rw [stars_any h2 pos env]; rfl
theorem stars_all : ∀ {es : List Expr}, noStars es = true → ∀ (pos : Pos) (env : Env), (backTo pos (starEach es env)).all (fun x => !x.1) = true
  | [], _, _, _ => rfl
  | e :: es, h, pos, env => by
    obtain ⟨h1, h2⟩ := and2 (show (notStar e && noStars es) = true from h)
    rw [star_cons h1]
    show (true && (backTo pos (starEach es env)).all (fun x => !x.1)) = true
    rw [stars_all h2 pos env]; rfl
theorem attr_base {o : Expr} (h : noCall0 o = true) (a : Str) (env : Env) : attributeBase o a env (eval o env) = eval o env := by
  cases o <;> first | rfl | skip
  rename_i f es ks pos
  cases f <;> first | rfl | skip
  cases es <;> first | rfl | skip
  cases ks <;> first | rfl | cases h
theorem true_plain {e : Expr} (h : plainT e = true) (env : Env) : ∀ whole, isTrue e env whole = (do let v ← whole; standAt e.pos; holding [v] (truthy v)) := fun whole => by
  cases e <;> first | rfl | skip
  all_goals first | (cases h; done) | skip
  rename_i op l pos
  cases op <;> first | rfl | cases h
theorem set_plain {e : Expr} (h : notSet e = true) (env : Env) : ∀ x, foldedSetIterable e env x = pure x := fun x => by
  cases e <;> first | rfl | cases h
theorem mark_plain {e : Expr} (h : notSet e = true) (op : CmpOp) : behindInMarks op e = false := by
  cases e <;> first | rfl | cases h
theorem slice_plain {e : Expr} (h : notSlice e = true) : PlainIx e := fun o i => by
  cases e <;> first | rfl | cases h
theorem swaps_plain {e : Expr} (h : noComp e = true) (t : Option Expr) (l : Nat) (env : Env) : swapsWith e t l env = pure false := by
  cases e <;> first | rfl | cases h
theorem swaps_C {nm : List (Str × NameKind)} {tg e : Expr} {env : Env} (hn : env.scope.names = nm) (h : swC nm tg e = true) (l : Nat) : swapsWithSole [tg] e l env = pure false := by
  show swapsWith e (some tg) l env = pure false
  unfold swC at h
  cases hc : noComp e with
  | true => exact swaps_plain hc _ _ _
  | false =>
    rw [hc] at h
    have h' : swT nm tg = true := h
    have key : ∀ t pos, tg = .Name t pos → env.kindOf t ≠ some .local := fun t pos e1 e2 => by
      subst e1
      have e3 : nm.lookup t = some .local := by rw [← hn]; exact e2
      have h2 : (match nm.lookup t with
        | some .local => false
        | _ => true) = true := h'
      rw [e3] at h2
      cases h2
    cases e <;> first | (cases hc; done) | skip
    all_goals
      cases tg <;> first | rfl | skip
      rename_i t pos
      have k := key t pos rfl
      have k' : (env.kindOf t == some NameKind.local) = false := by
        cases q : env.kindOf t with
        | none => rfl
        | some z => cases z <;> first | rfl | exact absurd q k
      unfold swapsWith
      simp [k']
theorem sw_none {nm : List (Str × NameKind)} {tg e : Expr} {env : Env} (hn : env.scope.names = nm) (h : swN nm tg e = true) : swappedStores [tg] e env = pure none := by
  have kn : ∀ id, env.kindOf id = nm.lookup id := fun id => by rw [← hn]; rfl
  cases tg <;> first | rfl | skip
  · cases e <;> first | rfl | cases h
  · rename_i ts k1 p1
    cases e <;> first | rfl | skip
    rename_i vs k2 p2
    unfold swN at h
    unfold swappedStores
    dsimp only at h ⊢
    simp only [kn]
    split
    · rfl
    · rename_i h1
      split
      · rfl
      · split
        · rfl
        · rename_i h3
          split
          · rfl
          · rename_i h4
            exfalso
            simp only [Bool.or_eq_true] at h h1 h3
            rcases h with h | h | h | h
            · exact h1 (.inl (.inl h))
            · exact h1 (.inl (.inr h))
            · exact h4 h
            · exact h3 (.inl h)
theorem boot_bi (f : BI) : bootBuiltins (biN f) = some (biV f) := by
  cases f with
  | listOf l => exact (by decide +kernel : bootBuiltins ("list" : Str) = some (.type "list"))
  | sorted l => exact (by decide +kernel : bootBuiltins ("sorted" : Str) = some (.builtin "sorted"))
  | _ => decide +kernel
theorem bi_ok (f : BI) : biN f ≠ ("__name__" : Str) ∧ ((biN f) == ("__debug__" : Str)) = false := by
  cases f with
  | listOf l => exact (by decide +kernel : ("list" : Str) ≠ ("__name__" : Str) ∧ (("list" : Str) == ("__debug__" : Str)) = false)
  | sorted l => exact (by decide +kernel : ("sorted" : Str) ≠ ("__name__" : Str) ∧ (("sorted" : Str) == ("__debug__" : Str)) = false)
  | _ => exact ⟨by decide +kernel, by decide +kernel⟩
theorem okN_of {y : Str} (h : okN y = true) : (y == ("__debug__" : Str)) = false ∧ (y == ("__classdict__" : Str)) = false ∧ y ≠ ("__name__" : Str) := by
  unfold okN at h
  obtain ⟨h1, h2⟩ := and2 h
  obtain ⟨h2, h3⟩ := and2 h2
  refine ⟨by simpa using h1, by simpa using h2, ?_⟩
  intro e
  rw [decide_eq_true e] at h3
  cases h3
theorem vis_of {X : Cx} {nm : List (Str × NameKind)} {y : Str} (hn : X.env.scope.names = nm) (h : visB nm y = true) : Vis X.env.scope y := by
  unfold visB at h
  show _ ∨ _ ∨ _
  rw [hn]
  split at h
  · exact .inl (by assumption)
  · exact .inr (.inl (by assumption))
  · exact .inr (.inr (by assumption))
  · cases h
theorem gl_of {X : Cx} {nm : List (Str × NameKind)} {y : Str} (hn : X.env.scope.names = nm) (h : glB nm y = true) : Gl X y := by
  unfold glB at h
  show X.env.scope.names.lookup y = some .globalImplicit
  rw [hn]
  split at h
  · assumption
  · cases h
theorem loc_of {X : Cx} {nm : List (Str × NameKind)} {top : Bool} {y : Str} (hn : X.env.scope.names = nm) (hf : top = true → ∀ x, X.fn x = true) (h : locB nm top y = true) : L2.Loc X.env.scope y ∧ (X.fn y = true ∨ X.env.scope.names.lookup y = some .local) := by
  unfold locB at h
  unfold L2.Loc
  rw [hn]
  split at h
  · exact ⟨.inl (by assumption), .inr (by assumption)⟩
  · exact ⟨.inr (by assumption), .inl (hf h y)⟩
  · cases h

/-! ### readings weakened -/
section
variable {X : Cx}
theorem PE.weak {e : Expr} {t t' : TE} (h : PE X e t) (w : ∀ σ H Q, t' σ H Q → t σ H Q) : PE X e t' := ⟨fun pins s σ H Q I k => h.run pins s σ H Q I (w σ H Q k)⟩
theorem PT.weak {e : Expr} {t t' : TT} (h : PT X e t) (w : ∀ σ H Q, t' σ H Q → t σ H Q) : PT X e t' := ⟨fun pins s σ H Q I k => h.run pins s σ H Q I (w σ H Q k)⟩
theorem PW.weak {e : Expr} {t t' : TT} (h : PW X e t) (w : ∀ σ H Q, t' σ H Q → t σ H Q) : PW X e t' := ⟨fun wh pins s σ H Q I k => h.run wh pins s σ H Q I (w σ H Q k)⟩
theorem PA.weak {e : List Expr} {t t' : TA} (h : PA X e t) (w : ∀ σ H Q, t' σ H Q → t σ H Q) : PA X e t' := ⟨fun pos pins s σ H Q I k => h.run pos pins s σ H Q I (w σ H Q k)⟩
theorem PO.weak {e : Option Expr} {t t' : TO} (h : PO X e t) (w : ∀ σ H Q, t' σ H Q → t σ H Q) : PO X e t' := ⟨fun pins s σ H Q I k => h.run pins s σ H Q I (w σ H Q k)⟩
theorem PS.weak {e : Stmt} {t t' : TS} (h : PS X e t) (w : ∀ D σ H, t' D σ H → t D σ H) : PS X e t' := ⟨fun pins s σ H D I k => h.run pins s σ H D I (w D σ H k)⟩
theorem PSs.weak {e : List Stmt} {t t' : TS} (h : PSs X e t) (w : ∀ D σ H, t' D σ H → t D σ H) : PSs X e t' := ⟨fun pins s σ H D I k => h.run pins s σ H D I (w D σ H k)⟩
theorem PG.weak {e : Expr} {t t' : TG} (h : PG X e t) (w : ∀ v σ H Q, t' v σ H Q → t v σ H Q) : PG X e t' := ⟨fun pins s σ H v u Q I r k => h.run pins s σ H v u Q I r (w v σ H Q k)⟩
theorem PGs.weak {e : List Expr} {t t' : TGs} (h : PGs X e t) (w : ∀ v σ H Q, t' v σ H Q → t v σ H Q) : PGs X e t' := ⟨fun pins s σ H v u Q I r k => h.run pins s σ H v u Q I r (w v σ H Q k)⟩
theorem PI.weak {tg e : Expr} {t t' : TI} (h : PI X tg e t) (w : ∀ σ H R, t' σ H R → t σ H R) : PI X tg e t' := ⟨fun pins s σ H R I k => h.run pins s σ H R I (w σ H R k)⟩
theorem PTs.weak {e : List Expr} {t t' : TT} (h : PTs X e t) (w : ∀ σ H Q, t' σ H Q → t σ H Q) : PTs X e t' := ⟨fun pins s σ H Q I k => h.run pins s σ H Q I (w σ H Q k)⟩

/-- a list or a tuple is walked -/
def iSeq (K : PySem.W.Frag) (tl : TE) : TI := fun σ H R => tl σ H fun x H1 => (∃ a xs, x = .ref a ∧ SqL K H1 a xs ∧ R (Itl K a) H1) ∨ ∃ a xs, x = .ref a ∧ SqT K H1 a xs ∧ R (Itt K a) H1
theorem pi_seq {tg l : Expr} {tl : TE} (hl : PE X l tl) : PI X tg l (iSeq X.K tl) := by
  refine ⟨fun pins s σ H R I h => ?_⟩
  refine thn (hl.run pins s σ H _ I h) fun v s1 ⟨x, H1, I1, r1, q1⟩ => ?_
  rcases q1 with ⟨a, xs, rfl, hq, q⟩ | ⟨a, xs, rfl, hq, q⟩
  · cases r1
    obtain ⟨its, rv, p, hz⟩ := I1.list hq
    refine wpAny_pyIter_list p.isList ?_
    refine ⟨s1.heap.objs.size, [s1.heap.objs.size], _, _, H1, rfl, I1.kept (t' := s1.toks) fun b o e => Heap.get?_push_of_some _ e, turn_list a _, ⟨_, Heap.get?_push_size _ rfl, rfl, rfl⟩, fun b hb => ?_, q⟩
    have e : b = s1.heap.objs.size := by simpa using hb
    subst e
    exact I1.fpOk (Nat.le_refl _) (I1.hok.fresh (Nat.le_refl _))
  · cases r1
    obtain ⟨its, rv, p, hz⟩ := I1.tuple hq
    refine wpAny_pyIter_tuple (show s1.heap.IsTuple a its.toArray from p) ?_
    refine ⟨s1.heap.objs.size, [s1.heap.objs.size], _, _, H1, rfl, I1.kept (t' := s1.toks) fun b o e => Heap.get?_push_of_some _ e, turn_tuple a _, ⟨_, Heap.get?_push_size _ rfl, rfl, rfl⟩, fun b hb => ?_, q⟩
    have e : b = s1.heap.objs.size := by simpa using hb
    subst e
    exact I1.fpOk (Nat.le_refl _) (I1.hok.fresh (Nat.le_refl _))

/-- and, or as values, whatever -/
theorem pe_andB {a b : Expr} {rest : List Expr} {pos : Pos} {ta tb : TE} (k : Bool) (ha : PE X a ta) (hb : PE X (.BoolOp (if k = true then BoolOp.And else BoolOp.Or) (b :: rest) pos) tb) :
    PE X (.BoolOp (if k = true then BoolOp.And else BoolOp.Or) (a :: b :: rest) pos) (fun σ H Q => ta σ H fun x H1 => ∃ c, x = .bl c ∧ if c = k then tb σ H1 Q else Q (.bl c) H1) := by
  cases k with
  | true =>
    refine PE.weak (pe_and ha hb) fun σ H Q h => ?_
    unfold tAndV
    have e : (fun (x : V) (H1 : Hp) => ∃ c, x = V.bl c ∧ if c = true then tb σ H1 Q else Q (V.bl c) H1) = fun (x : V) (H1 : Hp) => ∃ c, x = V.bl c ∧ if c = true then tb σ H1 Q else Q (V.bl false) H1 := by
      funext x H1
      refine propext ⟨?_, ?_⟩ <;> (rintro ⟨c, e, q⟩; refine ⟨c, e, ?_⟩; cases c <;> exact q)
    rw [← e]
    exact h
  | false =>
    refine PE.weak (pe_or ha hb) fun σ H Q h => ?_
    unfold tOrV
    have e : (fun (x : V) (H1 : Hp) => ∃ c, x = V.bl c ∧ if c = false then tb σ H1 Q else Q (V.bl c) H1) = fun (x : V) (H1 : Hp) => ∃ c, x = V.bl c ∧ if c = true then Q (V.bl true) H1 else tb σ H1 Q := by
      funext x H1
      refine propext ⟨?_, ?_⟩ <;> (rintro ⟨c, e, q⟩; refine ⟨c, e, ?_⟩; cases c <;> exact q)
    rw [← e]
    exact h
theorem opr_ibin {cls : Nat → Addr} (o : BO) (ho : o = .add ∨ o = .sub) : OpR X (inplaceOp (opOf o)) (rBin X.K cls o) := by
  intro pins s σ H x y v u Q I rx ry h
  obtain ⟨S, M, a, b, q, ra, rb, hh, k, f⟩ := h
  unfold binD at k
  split at k
  · cases ra; cases rb; exact iop_add pins s σ H _ _ v u Q I rx ry ⟨_, _, rfl, rfl, f.here hh (.int _) k⟩
  · cases ra; cases rb; exact iop_add_str pins s σ H _ _ v u Q I rx ry ⟨_, _, rfl, rfl, k.1, f.here hh (.str _) k.2⟩
  · cases ra; cases rb; exact iop_sub pins s σ H _ _ v u Q I rx ry ⟨_, _, rfl, rfl, f.here hh (.int _) k⟩
  all_goals first | exact k.elim | (rcases ho with ho | ho <;> cases ho)
end
theorem PG.or {X : Cx} {x : Expr} {t1 t2 : TG} (h1 : PG X x t1) (h2 : PG X x t2) : PG X x (fun v σ H Q => t1 v σ H Q ∨ t2 v σ H Q) :=
  ⟨fun pins s σ H v u Q I r h => h.elim (h1.run pins s σ H v u Q I r) (h2.run pins s σ H v u Q I r)⟩
theorem items_rel {K : PySem.W.Frag} {S : Addr → Prop} {cls : Nat → Addr} {M : Mm} {H : Hp} {d : Dt} {v : V} {ds : List Dt} (h : Hold K S cls M H) (r : RelD K S M H d v) (e : itemsD M d = some ds) : ∃ a xs, v = .ref a ∧ (SqT K H a xs ∨ SqL K H a xs) ∧ RelDs K S M H ds xs := by
  by_cases hd : ∃ es, d = .tup es
  · obtain ⟨es, rfl⟩ := hd
    cases e
    obtain ⟨a, xs, rfl, h1, h2⟩ := r.ofTup
    exact ⟨a, xs, rfl, .inl h1, h2⟩
  · have e : seqL M d = some ds := by
      cases d <;> first | exact e | exact absurd ⟨_, rfl⟩ hd
    obtain ⟨a, xs, rfl, h1, h2⟩ := seqL_rel h r e
    exact ⟨a, xs, rfl, .inr h1, h2⟩
end Fm

/-! The engine, part I: what is wanted of a text is enough (expressions). -/
namespace Fm
open PySem L2 PySem.Spec PyProof.Rows

theorem wipe_set {i : Nat} {z : Option V} : ∀ (vs : List Nat) (σ : L2.St), L2.wipe (σ.set i z) vs = if i ∈ vs then L2.wipe σ vs else (L2.wipe σ vs).set i z
  | [], σ => by rw [if_neg (by simp)]; rfl
  | v :: vs, σ => by
    show (L2.wipe (σ.set i z) vs).set v none = if i ∈ v :: vs then (L2.wipe σ vs).set v none else ((L2.wipe σ vs).set v none).set i z
    rw [wipe_set vs σ]
    by_cases h : i ∈ vs
    · rw [if_pos h, if_pos (List.mem_cons_of_mem _ h)]
    · rw [if_neg h]
      by_cases e : i = v
      · subst e
        rw [if_pos List.mem_cons_self, List.set_set]
      · rw [if_neg (by simp [e, h]), List.set_comm _ _ e]
theorem wipe_own {i : Nat} {z : Option V} {vs : List Nat} (h : i ∈ vs) (σ : L2.St) : L2.wipe (σ.set i z) vs = L2.wipe σ vs := by rw [wipe_set, if_pos h]
theorem wipe_wipe (σ : L2.St) : ∀ (vs ws : List Nat), (∀ v, v ∈ vs → v ∈ ws) → L2.wipe (L2.wipe σ vs) ws = L2.wipe σ ws
  | [], ws, _ => rfl
  | v :: vs, ws, h => by
    show L2.wipe ((L2.wipe σ vs).set v none) ws = _
    rw [wipe_own (h v List.mem_cons_self), wipe_wipe σ vs ws fun u m => h u (List.mem_cons_of_mem _ m)]

/-- targets of a comprehension: its own names -/
def RWo (K : PySem.W.Frag) (S : Addr → Prop) (cls : Nat → Addr) (own : List Nat) (σ : L2.St) (Q : L2.St → Hp → Prop) (M : Mm) (H : Hp) : QR := fun ρ' M' => ∀ σ' H', RelR K S M' H' ρ' σ' → Hold K S cls M' H' → Keeps K M H M' H' → L2.wipe σ' own = L2.wipe σ own → Q σ' H'
def tGo (K : PySem.W.Frag) (cls : Nat → Addr) (G : Gt) (own : List Nat) (t : Tg) : TG := fun v σ H Q => ∃ S d ρ M, RelD K S M H d v ∧ RelR K S M H ρ σ ∧ Hold K S cls M H ∧ wpG G t d ρ M (RWo K S cls own σ Q M H) (fun _ _ => False)
def tGso (K : PySem.W.Frag) (cls : Nat → Addr) (G : Gt) (own : List Nat) (t : Tgs) : TGs := fun vs σ H Q => ∃ S ds ρ M, RelDs K S M H ds vs ∧ RelR K S M H ρ σ ∧ Hold K S cls M H ∧ wpGs G t ds ρ M (RWo K S cls own σ Q M H) (fun _ _ => False)

theorem assign_len : ∀ (es : List Expr) (env : Env), noStars es = true → (assignEach es env).length = es.length ∧ (assignEach es env).findIdx? (·.1) = none
  | [], _, _ => ⟨rfl, rfl⟩
  | e :: es, env, h => by
    obtain ⟨h1, h2⟩ := and2 (show (notStar e && noStars es) = true from h)
    obtain ⟨l, f⟩ := assign_len es env h2
    have q : assignEach (e :: es) env = (false, assign e env) :: assignEach es env := by cases e <;> first | rfl | cases h1
    rw [q]
    refine ⟨by rw [List.length_cons, l, List.length_cons], ?_⟩
    rw [List.findIdx?_cons, f]
    rfl

section
variable {cls : Nat → Addr} {k : Nat} {Tb : Tab} {G : Gt} {N : List Str}
abbrev bad {p : Prop} (h : false = true) : p := absurd h Bool.false_ne_true

theorem ckGs_len : ∀ (gs : Tgs) {nm : List (Str × NameKind)} {top : Bool} {es : List Expr}, ckGs Tb N nm top gs es = true → gs.len = es.length
  | .nil, _, _, es, h => by
    cases es with
    | nil => rfl
    | cons _ _ => exact bad h
  | .cons g gs, nm, top, es, h => by
    cases es with
    | nil => exact bad h
    | cons y ys =>
      obtain ⟨h1, h2⟩ := and2 (show (ckG Tb N nm top g y && ckGs Tb N nm top gs ys) = true from h)
      show gs.len + 1 = ys.length + 1
      rw [ckGs_len gs h2]
theorem ckG_star {g : Tg} {nm : List (Str × NameKind)} {top : Bool} {y : Expr} (h : ckG Tb N nm top g y = true) (ys : List Expr) (env : Env) : (assignEach (y :: ys) env).map (·.2) = assign y env :: (assignEach ys env).map (·.2) := by
  cases y <;> first | rfl | skip
  cases g <;> exact bad h
mutual
theorem sGo : ∀ (t : Tg) {X : Cx} {nm : List (Str × NameKind)} {W : WX} {own : List Nat} {x : Expr}, Good X cls k Tb G N nm false W → tgOwn own t = true → ckG Tb N nm false t x = true → PG X x (tGo X.K cls G own t)
  | .name i, X, nm, W, own, x, gd, ho, h => by
    cases x with
    | Name y p =>
      obtain ⟨h1, h2⟩ := and2 (show (decide (N[i]? = some y) && locB nm false y) = true from h)
      obtain ⟨hl, hf⟩ := loc_of gd.nm gd.fn h2
      refine PG.weak (pg_name (i := i) (by rw [gd.hN]; exact gd.nd) (by rw [gd.hN]; exact dec1 h1) hl hf) fun v σ H Q ⟨S, d, ρ, M, rd, r, hh, w⟩ => ?_
      exact w _ _ (r.set i rd) hh Keeps.refl (wipe_own (dec1 ho) σ)
    | _ => exact bad h
  | .tup gs, X, nm, W, own, x, gd, ho, h => by
    cases x with
    | Tuple es q p =>
      obtain ⟨h1, h2⟩ := and2 (show (noStars es && ckGs Tb N nm false gs es) = true from h)
      obtain ⟨l1, l2⟩ := assign_len es X.env h1
      refine PG.weak (PG.or (pg_tup gd.calm (sGso gs gd ho h2) l1 l2) (pg_lst gd.calm (sGso gs gd ho h2) l1 l2)) fun v σ H Q ⟨S, d, ρ, M, rd, r, hh, w⟩ => ?_
      obtain ⟨ds, e, w1, w2⟩ := w
      obtain ⟨a, xs, rfl, hs, rs⟩ := items_rel hh rd e
      have hl : xs.length = es.length := by rw [← rs.length, w1]; exact ckGs_len gs h2
      rcases hs with hs | hs
      · exact .inl ⟨a, xs, rfl, hs, hl, S, ds, ρ, M, rs, r, hh, w2⟩
      · exact .inr ⟨a, xs, rfl, hs, hl, S, ds, ρ, M, rs, r, hh, w2⟩
    | _ => exact bad h
  | .ix a b, X, nm, W, own, x, gd, ho, h => bad ho
theorem sGso : ∀ (t : Tgs) {X : Cx} {nm : List (Str × NameKind)} {W : WX} {own : List Nat} {xs : List Expr}, Good X cls k Tb G N nm false W → tgsOwn own t = true → ckGs Tb N nm false t xs = true → PGs X xs (tGso X.K cls G own t)
  | .nil, X, nm, W, own, xs, gd, ho, h => by
    cases xs with
    | nil =>
      refine PGs.weak pgs_nil fun v σ H Q ⟨S, ds, ρ, M, rd, r, hh, e, w⟩ => ?_
      subst e
      cases rd
      exact ⟨rfl, w _ _ r hh Keeps.refl rfl⟩
    | cons _ _ => exact bad h
  | .cons g gs, X, nm, W, own, xs, gd, ho, h => by
    cases xs with
    | nil => exact bad h
    | cons y ys =>
      obtain ⟨h1, h2⟩ := and2 (show (ckG Tb N nm false g y && ckGs Tb N nm false gs ys) = true from h)
      obtain ⟨o1, o2⟩ := and2 (show (tgOwn own g && tgsOwn own gs) = true from ho)
      refine PGs.weak (pgs_cons (sGo g gd o1 h1) (sGso gs gd o2 h2) (ckG_star h1 ys X.env)) fun v σ H Q ⟨S, ds, ρ, M, rd, r, hh, d, rr, e, w⟩ => ?_
      subst e
      cases rd with
      | cons r1 r2 =>
        refine ⟨_, _, rfl, S, d, ρ, M, r1, r, hh, wpG_mono g (fun ρ' M' w' σ' H' a b c e => ?_) (fun _ _ z => z) w⟩
        refine ⟨S, rr, ρ', M', r2.keep c, a, b, wpGs_mono gs (fun ρ2 M2 z σ2 H2 a2 b2 c2 e2 => z σ2 H2 a2 b2 (c.trans c2) (e2.trans e)) (fun _ _ z => z) w'⟩
end
end
end Fm

/-! The engine, part J: what is wanted of a text is enough (expressions). -/
namespace Fm
open PySem L2 PySem.Spec PyProof.Rows

abbrev W0 : WX := fun _ _ _ _ => False
section
variable {K : PySem.W.Frag} {S : Addr → Prop} {cls : Nat → Addr} {G : Gt} {W : WX}
theorem xw_id {σ : L2.St} {M M1 : Mm} {H H1 : Hp} (k : Keeps K M H M1 H1) : ∀ z M', XW K S cls W σ M H z M' → XW K S cls W σ M1 H1 z M' := fun _ _ x => x.on k
/-- the walk of a comprehension -/
theorem lc_weak {live : Bool} {own : List (Str × Nat)} {t : Tg} {it : Ie} {cs : Ts} {e : E} : ∀ σ H Q, tE K cls G W (.lc live own t it cs e) σ H Q →
    tLc (tI K cls G W it) (tGo K cls G (own.map (·.2)) t) (tAl K cls G W0 cs) (tE K cls G W0 e) (own.map (·.2)) σ H Q := by
  intro σ H Q ⟨S, ρ, M, r, hh, w⟩
  refine tI_in r hh w (fun _ _ z => z) fun ds keep M1 J H1 q y h1 k1 D hD => ?_
  have nS : ¬ S D := h1.noS hD
  refine ⟨fun i m H2 => m = ds.length - i ∧ i ≤ ds.length ∧ ∃ (acc : List Dt) (M2 : Mm) (xs : List V), H2 D = some (.lst xs) ∧ RelDs K (hidS S D) M2 H2 acc xs ∧ Hold K (hidS S D) cls M2 H2 ∧ Keeps K M1 H1 M2 H2 ∧ lcRun _ (ds.drop i) acc M2 _,
    ⟨ds.length, rfl, Nat.zero_le _, [], M1, [], upd_same, .nil, h1.hide hD [], Keeps.newH hD, q⟩, ?_⟩
  rintro i m H2 ⟨rfl, hi, acc, M2, xs, eD, ra, h2, k2, w2⟩
  have mD : M2 D = none := (h2.hid D (.inr rfl)).1
  have yy := y (hidS S D) (hidS_new hD) i M2 H2 h2 k2
  by_cases hlt : i < ds.length
  · rw [List.drop_eq_getElem_cons hlt] at w2
    obtain ⟨wk, w2⟩ := w2
    obtain ⟨go, yi⟩ := (yy wk).1 hlt
    refine .inr ⟨go, fun H' => ∃ (acc : List Dt) (M2 : Mm) (xs : List V), H' D = some (.lst xs) ∧ RelDs K (hidS S D) M2 H' acc xs ∧ Hold K (hidS S D) cls M2 H' ∧ Keeps K M1 H1 M2 H' ∧ lcRun _ (ds.drop (i + 1)) acc M2 _,
      fun H' ⟨a, b, c, d1, d2, d3, d4, d5⟩ => ⟨ds.length - (i + 1), by omega, rfl, hlt, a, b, c, d1, d2, d3, d4, d5⟩, fun x H3 hx => ?_⟩
    obtain ⟨d, ed, rd, h3, k3⟩ := yi x H3 hx
    have ed' : ds[i] = d := by rw [List.getElem?_eq_getElem hlt] at ed; exact Option.some.inj ed
    rw [ed'] at w2
    have rr : RelR K (hidS S D) M2 H3 (wipeR ρ (own.map (·.2))) (L2.wipe σ (own.map (·.2))) := by
      have r1 : RelR K S M1 H1 ρ σ := r.keep k1
      have r2 : RelR K (hidS S D) M1 H1 ρ σ := ⟨r1.len, fun j d e => by
        obtain ⟨v, a, b⟩ := r1.at_ j d e
        exact ⟨v, a, b.hide hD⟩⟩
      exact ((r2.keep k2).keep k3).wipe _
    refine ⟨hidS S D, d, _, M2, rd, rr, h3, wpG_mono t (fun ρ3 M3 w3 σ3 H4 a3 b3 c3 e3 => ⟨e3.trans (wipe_wipe σ _ _ fun _ m => m), ?_⟩) (fun _ _ z => z) w2⟩
    refine ⟨hidS S D, ρ3, M3, a3, b3, wpAll_mono cs (fun b M4 w4 H5 h5 k5 => ?_) (fun _ _ z => z.elim) w3⟩
    cases b with
    | true =>
      rw [if_pos rfl] at w4 ⊢
      refine ⟨hidS S D, ρ3, M4, a3.keep k5, h5, wpE_mono e (fun y M5 w5 v H6 r6 h6 k6 => ?_) (fun _ _ z => z.elim) w4⟩
      have kk : Keeps K M2 H2 M5 H6 := ((k3.trans c3).trans k5).trans k6
      have e6 : H6 D = some (.lst xs) := (kk.stay D _ mD eD).2
      refine ⟨xs, e6, by rw [← ra.length]; exact w5.1, acc ++ [y], M5, xs ++ [v], upd_same, ?_, h6.grow (.inr rfl) _ e6, ((k2.trans kk).grown hD e6), w5.2⟩
      exact ((ra.keep kk).append (.cons r6 .nil)).grow (.inr rfl) e6
    | false =>
      rw [if_neg Bool.false_ne_true] at w4 ⊢
      have kk : Keeps K M2 H2 M4 H5 := (k3.trans c3).trans k5
      exact ⟨acc, M4, xs, (kk.stay D _ mD eD).2, ra.keep kk, h5, k2.trans kk, w4⟩
  · have ei : i = ds.length := by omega
    rw [List.drop_eq_nil_of_le (by omega)] at w2
    obtain ⟨wk, w2⟩ := w2
    refine .inl ⟨(yy wk).2 (by omega), ?_⟩
    unfold newL at w2
    split at w2
    · refine w2 D mD _ H2 (.ref D) (h2.thaw nS eD ra) ?_
      exact k1.trans (k2.told hD)
    · exact w2 _ H2 (.lst mD nS (.inl eD) ra.show) h2.show (k1.trans k2)
end

section
variable {cls : Nat → Addr} {k : Nat} {Tb : Tab} {G : Gt} {N : List Str}
theorem blk_good {X : Cx} {nm : List (Str × NameKind)} {top : Bool} {W : WX} (gd : Good X cls k Tb G N nm top W) {scope : Scope} (hk : scope.kind = .function) (s : Shared) (H : Hp) (C : Addr) (cl : List (Str × Addr)) (fp : List Addr) :
    Good (X.blk s H scope (compEnvC scope cl C X.env) fp) cls k Tb G N (relN nm scope) false W0 where
  env := gd.env
  hN := gd.hN
  nd := gd.nd
  nm := by
    show (relabel scope X.env).names = _
    unfold relabel relN
    have e : ∀ n, X.env.kindOf n = nm.lookup n := fun n => by rw [← gd.nm]; rfl
    simp only [gd.kind, e]
    simp
  kind := hk
  calm := gd.calm
  room := gd.room
  fn := fun z => absurd z Bool.false_ne_true
  pas := PassesOwn.never
  tk := takes0
theorem ckEs_len : ∀ (gs : Es) {nm : List (Str × NameKind)} {top : Bool} {es : List Expr}, ckEs Tb N nm top gs es = true → gs.len = es.length
  | .nil, _, _, es, h => by
    cases es with
    | nil => rfl
    | cons _ _ => exact bad h
  | .cons g gs, nm, top, es, h => by
    cases es with
    | nil => exact bad h
    | cons y ys =>
      obtain ⟨h1, h2⟩ := and2 (show (ckE Tb N nm top g y && ckEs Tb N nm top gs ys) = true from h)
      show gs.len + 1 = ys.length + 1
      rw [ckEs_len gs h2]

mutual
theorem sE : ∀ (e : E) {X : Cx} {nm : List (Str × NameKind)} {top : Bool} {W : WX} {x : Expr}, Good X cls k Tb G N nm top W → ckE Tb N nm top e x = true → PE X x (tE X.K cls G W e)
  | .var i, X, nm, top, W, x, gd, h => by
    cases x with
    | Name y p =>
      obtain ⟨h1, h2⟩ := and2 (show (decide (N[i]? = some y) && (visB nm y && okN y)) = true from h)
      obtain ⟨h2, h3⟩ := and2 h2
      obtain ⟨o1, o2, _⟩ := okN_of h3
      refine PE.weak (pe_var (i := i) (by rw [gd.hN]; exact dec1 h1) (vis_of gd.nm h2) o1 o2) fun σ H Q ⟨S, ρ, M, r, hh, d, e, w⟩ => ?_
      obtain ⟨v, e1, rd⟩ := r.at_ i d e
      exact ⟨v, e1, w v H rd hh Keeps.refl⟩
    | _ => exact bad h
  | .int z, X, nm, top, W, x, gd, h => by
    cases x with
    | Constant c j p =>
      cases c with
      | int u =>
        obtain rfl : z = u := dec1 h
        exact PE.weak pe_int fun σ H Q ⟨S, ρ, M, r, hh, w⟩ => w _ H (.int z) hh Keeps.refl
      | _ => exact bad h
    | _ => exact bad h
  | .str z, X, nm, top, W, x, gd, h => by
    cases x with
    | Constant c j p =>
      cases c with
      | str u =>
        obtain rfl : z = u := dec1 h
        exact PE.weak pe_str fun σ H Q ⟨S, ρ, M, r, hh, w⟩ => w _ H (.str z) hh Keeps.refl
      | _ => exact bad h
    | _ => exact bad h
  | .bl z, X, nm, top, W, x, gd, h => by
    cases x with
    | Constant c j p =>
      cases c with
      | bool u =>
        obtain rfl : z = u := dec1 h
        exact PE.weak pe_bl fun σ H Q ⟨S, ρ, M, r, hh, w⟩ => w _ H (.bl z) hh Keeps.refl
      | _ => exact bad h
    | _ => exact bad h
  | .non, X, nm, top, W, x, gd, h => by
    cases x with
    | Constant c j p =>
      cases c with
      | none => exact PE.weak pe_non fun σ H Q ⟨S, ρ, M, r, hh, w⟩ => w _ H .non hh Keeps.refl
      | _ => exact bad h
    | _ => exact bad h
  | .glob g, X, nm, top, W, x, gd, h => by
    cases x with
    | Name y p =>
      obtain ⟨h1, h2⟩ := and2 (show (decide (Tb.gls.lookup g = some y) && (glB nm y && okN y)) = true from h)
      obtain ⟨h2, h3⟩ := and2 h2
      obtain ⟨o1, _, _⟩ := okN_of h3
      obtain ⟨v, u, hm, rv, rd⟩ := gd.env.gl g y (dec1 h1)
      exact PE.weak (pe_glob (gl_of gd.nm h2) hm rv o1) fun σ H Q ⟨S, ρ, M, r, hh, w⟩ => w _ H (rd S M H) hh Keeps.refl
    | _ => exact bad h
  | .bin o a b, X, nm, top, W, x, gd, h => by
    cases x with
    | BinOp l p rr pos =>
      obtain ⟨h1, h2⟩ := and2 (show (decide (opOf o = p) && (ckE Tb N nm top a l && ckE Tb N nm top b rr)) = true from h)
      obtain ⟨h2, h3⟩ := and2 h2
      obtain rfl := dec1 h1
      refine PE.weak (pe_op (opr_bin (K := X.K) (cls := cls) o) (sE a gd h2) (sE b gd h3)) fun σ H Q ⟨S, ρ, M, r, hh, w⟩ => ?_
      refine tE_in r hh w (fun _ _ z => z) fun d1 M1 v1 H1 w1 r1 h1 k1 => ?_
      refine tE_in (r.keep k1) h1 w1 (xw_id k1) fun d2 M2 v2 H2 w2 r2 h2 k2 => ?_
      exact ⟨S, M2, d1, d2, _, r1.keep k2, r2, h2, w2, fun d M' z H' q rz hz kz => q z H' rz hz ((k1.trans k2).trans kz)⟩
    | _ => exact bad h
  | .neg a, X, nm, top, W, x, gd, h => by
    cases x with
    | UnaryOp op l pos =>
      cases op with
      | USub =>
        refine PE.weak (pe_un un_neg (sE a gd h)) fun σ H Q ⟨S, ρ, M, r, hh, w⟩ => ?_
        refine tE_in r hh w (fun _ _ z => z) fun d1 M1 v1 H1 ⟨i, e, w1⟩ r1 h1 k1 => ?_
        subst e
        cases r1
        exact ⟨i, rfl, w1 _ H1 (.int _) h1 k1⟩
      | _ => exact bad h
    | _ => exact bad h
  | .cmp o a b, X, nm, top, W, x, gd, h => by
    cases x with
    | Compare l ps rs pos =>
      cases ps with
      | nil => exact bad h
      | cons p ps =>
        cases ps with
        | cons _ _ => exact bad h
        | nil =>
          cases rs with
          | nil => exact bad h
          | cons rr rs =>
            cases rs with
            | cons _ _ => exact bad h
            | nil =>
              obtain ⟨h1, h2⟩ := and2 (show (decide (copOf o = p) && (notSet rr && (ckE Tb N nm top a l && ckE Tb N nm top b rr))) = true from h)
              obtain ⟨h2, h3⟩ := and2 h2
              obtain ⟨h3, h4⟩ := and2 h3
              obtain rfl := dec1 h1
              refine PE.weak (pe_cmpR (opr_cmp (cls := cls) gd.room.units o) (sE a gd h3) (sE b gd h4) (mark_plain h2 _)) fun σ H Q ⟨S, ρ, M, r, hh, w⟩ => ?_
              refine tE_in r hh w (fun _ _ z => z) fun d1 M1 v1 H1 w1 r1 h1 k1 => ?_
              refine tE_in (r.keep k1) h1 w1 (xw_id k1) fun d2 M2 v2 H2 ⟨kk, e, w2⟩ r2 h2 k2 => ?_
              exact ⟨S, M2, d1, d2, kk, r1.keep k2, r2, h2, e, w2 _ H2 (.bl kk) h2 (k1.trans k2)⟩
    | _ => exact bad h
  | .cmp2 o o2 a b c, X, nm, top, W, x, gd, h => by
    cases x with
    | Compare l ps rs pos =>
      cases ps with
      | nil => exact bad h
      | cons p ps =>
        cases ps with
        | nil => exact bad h
        | cons p2 ps =>
          cases ps with
          | cons _ _ => exact bad h
          | nil =>
            cases rs with
            | nil => exact bad h
            | cons m rs =>
              cases rs with
              | nil => exact bad h
              | cons rr rs =>
                cases rs with
                | cons _ _ => exact bad h
                | nil =>
                  obtain ⟨h1, h2⟩ := and2 (show (decide (copOf o = p) && (decide (copOf o2 = p2) && (notSet m && (notSet rr && (ckE Tb N nm top a l && (ckE Tb N nm top b m && ckE Tb N nm top c rr)))))) = true from h)
                  obtain ⟨h2, h3⟩ := and2 h2
                  obtain ⟨h3, h4⟩ := and2 h3
                  obtain ⟨h4, h5⟩ := and2 h4
                  obtain ⟨h5, h6⟩ := and2 h5
                  obtain ⟨h6, h7⟩ := and2 h6
                  obtain rfl := dec1 h1
                  obtain rfl := dec1 h2
                  refine PE.weak (pe_chain (opr_cmp (cls := cls) gd.room.units o) (opr_cmp (cls := cls) gd.room.units o2) (sE a gd h5) (sE b gd h6) (sE c gd h7) (mark_plain h4 _)) fun σ H Q ⟨S, ρ, M, r, hh, w⟩ => ?_
                  refine tE_in r hh w (fun _ _ z => z) fun d1 M1 v1 H1 w1 r1 h1 k1 => ?_
                  refine tE_in (r.keep k1) h1 w1 (xw_id k1) fun d2 M2 v2 H2 ⟨kk, e, w2⟩ r2 h2 k2 => ?_
                  refine ⟨S, M2, d1, d2, kk, r1.keep k2, r2, h2, e, kk, rfl, ?_⟩
                  cases kk with
                  | true =>
                    rw [if_pos rfl] at w2 ⊢
                    refine tE_in ((r.keep k1).keep k2) h2 w2 (xw_id (k1.trans k2)) fun d3 M3 v3 H3 ⟨kk, e, w3⟩ r3 h3 k3 => ?_
                    exact ⟨S, M3, d2, d3, kk, r2.keep k3, r3, h3, e, w3 _ H3 (.bl kk) h3 ((k1.trans k2).trans k3)⟩
                  | false =>
                    rw [if_neg Bool.false_ne_true] at w2 ⊢
                    exact w2 _ H2 (.bl _) h2 (k1.trans k2)
    | _ => exact bad h
  | .bop kk as, X, nm, top, W, x, gd, h => by
    cases x with
    | BoolOp p es pos =>
      obtain ⟨h1, h2⟩ := and2 (show (decide (p = if kk = true then BoolOp.And else BoolOp.Or) && ckEs Tb N nm top as es) = true from h)
      obtain rfl := dec1 h1
      exact sB as kk gd h2
    | _ => exact bad h
  | .not_ a, X, nm, top, W, x, gd, h => by
    cases x with
    | UnaryOp op l pos =>
      cases op with
      | Not =>
        refine PE.weak (pe_not (sE a gd h)) fun σ H Q ⟨S, ρ, M, r, hh, w⟩ => ?_
        refine tE_in r hh w (fun _ _ z => z) fun d1 M1 v1 H1 ⟨i, e, w1⟩ r1 h1 k1 => ?_
        subst e
        cases r1
        exact ⟨i, rfl, w1 _ H1 (.bl _) h1 k1⟩
      | _ => exact bad h
    | _ => exact bad h
  | .ite c a b, X, nm, top, W, x, gd, h => by
    cases x with
    | IfExp t l rr pos =>
      obtain ⟨h1, h2⟩ := and2 (show (ckT Tb N nm top c t && (ckE Tb N nm top a l && ckE Tb N nm top b rr)) = true from h)
      obtain ⟨h2, h3⟩ := and2 h2
      refine PE.weak (pe_ifExp (sT c gd h1) (sE a gd h2) (sE b gd h3)) fun σ H Q ⟨S, ρ, M, r, hh, w⟩ => ?_
      refine tT_in r hh w (fun _ _ z => z) fun b1 M1 H1 w1 h1 k1 => ?_
      cases b1 with
      | true =>
        rw [if_pos rfl] at w1 ⊢
        exact tE_in (r.keep k1) h1 w1 (xw_id k1) fun d M2 v H2 w2 r2 h2 k2 => w2 v H2 r2 h2 (k1.trans k2)
      | false =>
        rw [if_neg Bool.false_ne_true] at w1 ⊢
        exact tE_in (r.keep k1) h1 w1 (xw_id k1) fun d M2 v H2 w2 r2 h2 k2 => w2 v H2 r2 h2 (k1.trans k2)
    | _ => exact bad h
  | .tup as, X, nm, top, W, x, gd, h => by
    cases x with
    | Tuple es q pos =>
      obtain ⟨h1, h2⟩ := and2 (show (noStars es && ckEs Tb N nm top as es) = true from h)
      refine PE.weak (pe_tup (sEs as gd h1 h2)) fun σ H Q ⟨S, ρ, M, r, hh, w⟩ => ?_
      refine tEs_in r hh w (fun _ _ z => z) fun ds M1 vs H1 ⟨hl, w1⟩ r1 h1 k1 => ⟨by rw [← r1.length]; exact hl, fun p n => ?_⟩
      exact w1 _ _ (.tup (.inl (.inl upd_same)) (r1.keep (Keeps.newH n))) (h1.newH n) (k1.trans (Keeps.newH n))
    | _ => exact bad h
  | .lst live as, X, nm, top, W, x, gd, h => by
    cases x with
    | List es pos =>
      obtain ⟨h1, h2⟩ := and2 (show (noStars es && ckEs Tb N nm top as es) = true from h)
      refine PE.weak (pe_lst (sEs as gd h1 h2)) fun σ H Q ⟨S, ρ, M, r, hh, w⟩ => ?_
      refine tEs_in r hh w (fun _ _ z => z) fun ds M1 vs H1 ⟨hl, w1⟩ r1 h1 k1 => ⟨by rw [← r1.length]; exact hl, ?_⟩
      exact Fin.newL (cls := cls) (fun d M' z H' q rz hz kz => q z H' rz hz (k1.trans kz)) h1 r1 w1
    | _ => exact bad h
  | .ix a b, X, nm, top, W, x, gd, h => by
    cases x with
    | Subscript l rr pos =>
      obtain ⟨h1, h2⟩ := and2 (show (notSlice rr && (ckE Tb N nm top a l && ckE Tb N nm top b rr)) = true from h)
      obtain ⟨h2, h3⟩ := and2 h2
      refine PE.weak (pe_ix (ixr_D (cls := cls) (by have := gd.room.units; omega)) (sE a gd h2) (sE b gd h3) (slice_plain h1)) fun σ H Q ⟨S, ρ, M, r, hh, w⟩ => ?_
      refine tE_in r hh w (fun _ _ z => z) fun d1 M1 v1 H1 w1 r1 h1 k1 => ?_
      refine tE_in (r.keep k1) h1 w1 (xw_id k1) fun d2 M2 v2 H2 ⟨d, e, w2⟩ r2 h2 k2 => ?_
      exact ⟨S, M2, d1, d2, d, r1.keep k2, r2, h2, e, fun z rz => w2 z H2 rz h2 (k1.trans k2)⟩
    | _ => exact bad h
  | .sl a lo hi, X, nm, top, W, x, gd, h => by
    cases x with
    | Subscript l rr pos =>
      cases rr with
      | Slice u v st p2 =>
        cases st with
        | some _ => exact bad h
        | none =>
          obtain ⟨h1, h2⟩ := and2 (show (ckE Tb N nm top a l && (ckO Tb N nm top lo u && ckO Tb N nm top hi v)) = true from h)
          obtain ⟨h2, h3⟩ := and2 h2
          refine PE.weak (pe_slice (sl_D (cls := cls)) (sE a gd h1) (sO lo gd h2) (sO hi gd h3)) fun σ H Q ⟨S, ρ, M, r, hh, w⟩ => ?_
          refine tE_in r hh w (fun _ _ z => z) fun d1 M1 v1 H1 w1 r1 h1 k1 => ?_
          refine tO_in (r.keep k1) h1 w1 (xw_id k1) fun o1 M2 H2 w2 h2 k2 => ?_
          refine tO_in ((r.keep k1).keep k2) h2 w2 (xw_id (k1.trans k2)) fun o2 M3 H3 ⟨ds, e, w3⟩ h3 k3 => ?_
          exact ⟨S, M3, d1, ds, _, (r1.keep k2).keep k3, h3, e, w3, fun d M' z H' q rz hz kz => q z H' rz hz (((k1.trans k2).trans k3).trans kz)⟩
      | _ => exact bad h
    | _ => exact bad h
  | .call g as, X, nm, top, W, x, gd, h => by
    cases x with
    | Call f es ks pos =>
      cases f with
      | Name y p =>
        cases es with
        | nil => exact bad h
        | cons e es =>
          cases ks with
          | cons _ _ => exact bad h
          | nil =>
            obtain ⟨h1, h2⟩ := and2 (show (decide (Tb.fns.lookup g = some (y, (e :: es).length)) && (glB nm y && (okN y && (noStars (e :: es) && ckEs Tb N nm top as (e :: es))))) = true from h)
            obtain ⟨h2, h3⟩ := and2 h2
            obtain ⟨h3, h4⟩ := and2 h3
            obtain ⟨h4, h5⟩ := and2 h4
            obtain ⟨n1, n2⟩ := and2 (show (notStar e && noStars es) = true from h4)
            obtain ⟨o1, _, _⟩ := okN_of h3
            obtain ⟨fa, fd, ps, hl, hm, kp, bd, F⟩ := gd.env.fn g y _ (dec1 h1)
            refine PE.weak (pe_callS (E := WE W) F gd.room (gl_of gd.nm h2) hm kp bd (fun σ => passAt gd.tk σ) (sEs as gd h4 h5) o1 (star_cons n1 es _) (stars_any n2 _ _)) fun σ H Q ⟨S, ρ, M, r, hh, w⟩ => ?_
            refine tEs_inL r hh w (fun _ _ z => z) fun ds M1 vs H1 ln w1 r1 h1 k1 => ?_
            refine ⟨?_, S, ds, M1, r1, h1, (G.call g).mono (fun d M' q v H' a b c => q v H' a b (k1.trans c)) (fun z M' x d H' a b c => x d H' a b (k1.trans c)) w1⟩
            rw [← r1.length, ln]
            exact ckEs_len as h5
      | _ => exact bad (by cases es <;> exact h)
    | _ => exact bad h
  | .bi f as, X, nm, top, W, x, gd, h => by
    cases x with
    | Call fx es ks pos =>
      cases fx with
      | Name y p =>
        cases es with
        | nil => exact bad h
        | cons e es =>
          cases ks with
          | cons _ _ => exact bad h
          | nil =>
            obtain ⟨h1, h2⟩ := and2 (show (decide (biN f = y) && (decide (y ∈ Tb.bis) && (glB nm y && (noStars (e :: es) && ckEs Tb N nm top as (e :: es))))) = true from h)
            obtain ⟨h2, h3⟩ := and2 h2
            obtain ⟨h3, h4⟩ := and2 h3
            obtain ⟨h4, h5⟩ := and2 h4
            obtain ⟨n1, n2⟩ := and2 (show (notStar e && noStars es) = true from h4)
            obtain rfl := dec1 h1
            have hm := gd.env.bi _ (dec1 h2)
            have base : PE X (.Call (.Name (biN f) p) (e :: es) [] pos) (tCB (rBi X.K cls f) (tEs X.K cls G W as)) := by
              have cr := callR_bi (cls := cls) gd.calm gd.room.units f
              have bt := boot_bi f
              obtain ⟨b1, b2⟩ := bi_ok f
              cases hv : biV f with
              | builtin id =>
                rw [hv] at cr bt
                exact pe_callB cr (gl_of gd.nm h3) hm bt (sEs as gd h4 h5) b1 b2 (star_cons n1 es _) (stars_any n2 _ _)
              | type n =>
                rw [hv] at cr bt
                exact pe_callTy cr (gl_of gd.nm h3) hm bt (sEs as gd h4 h5) b1 b2 (star_cons n1 es _) (stars_any n2 _ _)
              | _ => cases f <;> cases hv
            refine PE.weak base fun σ H Q ⟨S, ρ, M, r, hh, w⟩ => ?_
            refine tEs_in r hh w (fun _ _ z => z) fun ds M1 vs H1 w1 r1 h1 k1 => ?_
            exact ⟨S, M1, ds, _, r1, h1, w1, fun d M' z H' q rz hz kz => q z H' rz hz (k1.trans kz)⟩
      | _ => exact bad (by cases es <;> exact h)
    | _ => exact bad h
  | .mt m a as, X, nm, top, W, x, gd, h => by
    cases x with
    | Call fx es ks pos =>
      cases fx with
      | Attribute l y ap =>
        cases ks with
        | cons _ _ => exact bad (by cases es <;> exact h)
        | nil =>
          obtain ⟨h1, h2⟩ := and2 (show (decide (miN m = y) && (noCall0 l && ((ap.endLine == pos.line) && (decide (es.length < 29) && (noStars es && (ckE Tb N nm top a l && ckEs Tb N nm top as es)))))) = true from (by cases es <;> exact h))
          obtain ⟨g2, h3⟩ := and2 h2
          obtain ⟨g3, h4⟩ := and2 h3
          obtain ⟨g4, h5⟩ := and2 h4
          obtain ⟨g5, h6⟩ := and2 h5
          obtain ⟨g6, g7⟩ := and2 h6
          obtain rfl := dec1 h1
          have hu : X.A.units + 1 < cLine := by have := gd.room.units; omega
          have facts : ∃ (pa : PySem.PlainAttrs (miT m)) (sl : PySem.Slot (miT m) (miN m) (miV m)), typeOf (.builtin (miV m)) = pure (.type "method_descriptor") := by
            cases m
            · exact ⟨PySem.F.plainAttrs_list, PySem.F.slot_list_append, PySem.F.type_list_append⟩
            · exact ⟨PySem.F.plainAttrs_list, PySem.F.slot_list_pop, PySem.F.type_list_pop⟩
            · exact ⟨PySem.F.plainAttrs_dict, PySem.F.slot_dict_get, PySem.F.type_dict_get⟩
            · exact ⟨PySem.F.plainAttrs_dict, PySem.F.slot_dict_get, PySem.F.type_dict_get⟩
            · exact ⟨PySem.F.plainAttrs_list, PySem.F.slot_list_clear, PySem.F.type_list_clear⟩
            · exact ⟨PySem.F.plainAttrs_list, PySem.F.slot_list_reverse, PySem.F.type_list_reverse⟩
          obtain ⟨pa, sl, ty⟩ := facts
          cases es with
          | nil =>
            refine PE.weak (pe_bm0 pa sl ty (mtr_D (cls := cls) hu m) (sE a gd g6) (attr_base g2 _ _) g3) fun σ H Q ⟨S, ρ, M, r, hh, w⟩ => ?_
            refine tE_in r hh w (fun _ _ z => z) fun d1 M1 v1 H1 ⟨ok, w1⟩ r1 h1 k1 => ⟨mtOk_ty h1 r1 ok, ?_⟩
            cases as with
            | nil => exact ⟨S, M1, d1, [], _, r1, .nil, h1, w1, fun d M' z H' q rz hz kz => q z H' rz hz (k1.trans kz)⟩
            | cons _ _ => exact bad g7
          | cons e es =>
            obtain ⟨n1, n2⟩ := and2 (show (notStar e && noStars es) = true from g5)
            refine PE.weak (pe_bm pa sl ty (mtr_D (cls := cls) hu m) (sE a gd g6) (sEs as gd g5 g7) (attr_base g2 _ _) ?_ g3 (star_cons n1 es _) (stars_any n2 _ _)) fun σ H Q ⟨S, ρ, M, r, hh, w⟩ => ?_
            · rw [stars_all g5]
              have l4 := dec1 g4
              have : decide ((e :: es).length + ([] : List Keyword).length + (if ([] : List Keyword).isEmpty then 0 else 1) < 30) = true := decide_eq_true (by
                show (e :: es).length + 0 + 0 < 30
                omega)
              rw [this]
              rfl
            · refine tE_in r hh w (fun _ _ z => z) fun d1 M1 v1 H1 ⟨ok, w1⟩ r1 h1 k1 => ⟨mtOk_ty h1 r1 ok, ?_⟩
              refine tEs_in (r.keep k1) h1 w1 (xw_id k1) fun ds M2 vs H2 w2 r2 h2 k2 => ?_
              exact ⟨S, M2, d1, ds, _, r1.keep k2, r2, h2, w2, fun d M' z H' q rz hz kz => q z H' rz hz ((k1.trans k2).trans kz)⟩
      | _ => exact bad (by cases es <;> first | exact h | (cases ks <;> exact h))
    | _ => exact bad h
  | .fld a f, X, nm, top, W, x, gd, h => bad h
  | .isi a ts tup, X, nm, top, W, x, gd, h => by
    cases x with
    | Call fx es ks pos =>
      cases fx with
      | Name y p =>
        cases es with
        | nil => exact bad h
        | cons l es =>
          cases es with
          | nil => exact bad h
          | cons c es =>
            cases es with
            | cons _ _ => exact bad h
            | nil =>
              cases ks with
              | cons _ _ => exact bad h
              | nil =>
                obtain ⟨h0, h1⟩ := and2 (show (isiC Tb nm ts tup c && (decide (y = ("isinstance" : Str)) && (decide (y ∈ Tb.bis) && (glB nm y && (notStar l && (notStar c && ckE Tb N nm top a l)))))) = true from h)
                obtain ⟨f1, h2⟩ := and2 h1
                obtain ⟨f2, h3⟩ := and2 h2
                obtain ⟨f3, h4⟩ := and2 h3
                obtain ⟨f4, h5⟩ := and2 h4
                obtain ⟨f5, f6⟩ := and2 h5
                obtain ⟨n, z, pz, rfl, rfl, rfl, e0⟩ : ∃ n z pz, ts = [.ty n] ∧ tup = false ∧ c = .Name z pz ∧ (decide (z = Str.ofString n) && (decide (bootBuiltins z = some (.type n)) && (decide (z ∈ Tb.bis) && (glB nm z && okN z)))) = true := by
                  unfold isiC at h0
                  split at h0
                  · exact ⟨_, _, _, rfl, rfl, rfl, h0⟩
                  · exact bad h0
                · obtain ⟨g1, m2⟩ := and2 e0
                  obtain ⟨g2, m3⟩ := and2 m2
                  obtain ⟨g3, m4⟩ := and2 m3
                  obtain ⟨g4, g5⟩ := and2 m4
                  obtain ⟨o1, _, o3⟩ := okN_of g5
                  obtain rfl := dec1 f1
                  have pc : PE X (.Name z pz) (tC (.ty n)) := pe_bltn (gl_of gd.nm g4) (gd.env.bi _ (dec1 g3)) (dec1 g2) rfl o3 o1
                  have pa := pa_cons (sE a gd f6) (pa_cons pc pa_nil (star_cons f5 [] _)) (star_cons f4 _ _)
                  refine PE.weak (pe_callB call_isi (gl_of gd.nm f3) (gd.env.bi _ (dec1 f2)) (by decide +kernel) pa (by decide) (by decide) (star_cons f4 _ _) (by rw [star_cons f5]; rfl)) fun σ H Q ⟨S, ρ, M, r, hh, w⟩ => ?_
                  refine tE_in r hh w (fun _ _ z => z) fun d1 M1 v1 H1 ⟨kk, e, w1⟩ r1 h1 k1 => ?_
                  have e' : (match tyD M1 d1 with
                    | some t => (match kitB t n with
                      | some true => some true
                      | some false => some false
                      | none => none)
                    | none => none) = some kk := e
                  cases ht : tyD M1 d1 with
                  | none => rw [ht] at e'; cases e'
                  | some t =>
                    rw [ht] at e'
                    cases hk : kitB t n with
                    | none => simp only [hk] at e'; cases e'
                    | some b =>
                      have eb : kk = b := by
                        simp only [hk] at e'
                        cases b <;> exact (Option.some.inj e').symm
                      subst eb
                      exact ⟨v1, .ty n, .type t, .type n, kk, rfl, .ty n, tyD_ok h1 r1 ht, kit_ty hk, w1 _ H1 (.bl kk) h1 k1⟩
      | _ => exact bad (by cases es <;> exact h)
    | _ => exact bad h
  | .lc live own t it cs e, X, nm, top, W, x, gd, h => by
    cases x with
    | ListComp elt gens scope pos =>
      cases gens with
      | nil => exact bad h
      | cons c gens =>
        cases gens with
        | cons _ _ => exact bad h
        | nil =>
          obtain ⟨tg, iter, ifs, asy⟩ := c
          obtain ⟨h1, h2⟩ := and2 (show (decide (asy = 0) && (decide (ifs.length ≤ 1) && (blkC N ⟨.function, nm, false, false, []⟩ scope own && (notSet iter && (ckI Tb N nm top it iter && (ckG Tb N (relN nm scope) false t tg && (tgOwn (own.map (·.2)) t && (ckTs Tb N (relN nm scope) false cs ifs && ckE Tb N (relN nm scope) false e elt)))))))) = true from h)
          obtain ⟨h2, h3⟩ := and2 h2
          obtain ⟨h3, h4⟩ := and2 h3
          obtain ⟨h4, h5⟩ := and2 h4
          obtain ⟨h5, h6⟩ := and2 h5
          obtain ⟨h6, h7⟩ := and2 h6
          obtain ⟨h7, h8⟩ := and2 h7
          obtain ⟨h8, h9⟩ := and2 h8
          obtain rfl := dec1 h1
          have ok0 := blkOk_by h3
          have ok : BlkOk X.N X.env.scope scope own := by
            rw [gd.hN]
            exact ⟨ok0.kind, ok0.uniq, ok0.ix, fun y a b => by rw [gd.nm]; exact ok0.free y a b, ok0.own⟩
          refine PE.weak (pe_lc gd.calm (by rw [gd.hN]; exact gd.nd) (sI it gd h5) ok (fun s H C cl fp => sGo t (blk_good gd ok0.kind s H C cl fp) h7 h6) (fun s H C cl fp => sTt cs (blk_good gd ok0.kind s H C cl fp) (dec1 h2) h8)
            (fun s H C cl fp => sE e (blk_good gd ok0.kind s H C cl fp) h9) (set_plain h4 _)) lc_weak
    | _ => exact bad h
  | .frz a, X, nm, top, W, x, gd, h => by
    refine PE.weak (sE a gd (show ckE Tb N nm top a x = true by cases x <;> exact h)) fun σ H Q ⟨S, ρ, M, r, hh, w⟩ => ?_
    refine tE_in r hh w (fun _ _ z => z) fun d M1 v H1 w1 r1 h1 k1 => ?_
    cases d with
    | ref p =>
      cases r1
      cases em : M1 p with
      | none =>
        simp only [em] at w1
        exact w1 _ H1 (.ref p) h1 k1
      | some o =>
        cases o with
        | lst ds =>
          simp only [em] at w1
          exact w1 _ H1 (relD_freeze h1 em) h1.freeze (k1.trans Keeps.freeze)
        | _ =>
          simp only [em] at w1
          exact w1 _ H1 (.ref p) h1 k1
    | _ => exact w1 _ H1 r1 h1 k1
theorem sEs : ∀ (es : Es) {X : Cx} {nm : List (Str × NameKind)} {top : Bool} {W : WX} {xs : List Expr}, Good X cls k Tb G N nm top W → noStars xs = true → ckEs Tb N nm top es xs = true → PA X xs (tEs X.K cls G W es)
  | .nil, X, nm, top, W, xs, gd, hs, h => by
    cases xs with
    | nil => exact PA.weak pa_nil fun σ H Q ⟨S, ρ, M, r, hh, w⟩ => w _ H .nil hh Keeps.refl
    | cons _ _ => exact bad h
  | .cons e es, X, nm, top, W, xs, gd, hs, h => by
    cases xs with
    | nil => exact bad h
    | cons y ys =>
      obtain ⟨h1, h2⟩ := and2 (show (ckE Tb N nm top e y && ckEs Tb N nm top es ys) = true from h)
      obtain ⟨n1, n2⟩ := and2 (show (notStar y && noStars ys) = true from hs)
      refine PA.weak (pa_cons (sE e gd h1) (sEs es gd n2 h2) (star_cons n1 ys _)) fun σ H Q ⟨S, ρ, M, r, hh, w⟩ => ?_
      refine tE_in r hh w (fun _ _ z => z) fun d1 M1 v1 H1 w1 r1 h1 k1 => ?_
      refine tEs_in (r.keep k1) h1 w1 (xw_id k1) fun ds M2 vs H2 w2 r2 h2 k2 => ?_
      exact w2 _ H2 (.cons (r1.keep k2) r2) h2 (k1.trans k2)
theorem sO : ∀ (eo : EO) {X : Cx} {nm : List (Str × NameKind)} {top : Bool} {W : WX} {x : Option Expr}, Good X cls k Tb G N nm top W → ckO Tb N nm top eo x = true → PO X x (tO X.K cls G W eo)
  | .none, X, nm, top, W, x, gd, h => by
    cases x with
    | none => exact PO.weak po_none fun σ H Q ⟨S, ρ, M, r, hh, w⟩ => w H hh Keeps.refl
    | some _ => exact bad h
  | .some e, X, nm, top, W, x, gd, h => by
    cases x with
    | none => exact bad h
    | some y =>
      refine PO.weak (po_some (sE e gd h)) fun σ H Q ⟨S, ρ, M, r, hh, w⟩ => ?_
      refine tE_in r hh w (fun _ _ z => z) fun d1 M1 v1 H1 ⟨i, e, w1⟩ r1 h1 k1 => ?_
      subst e
      cases r1
      exact ⟨i, rfl, w1 H1 h1 k1⟩
theorem sB : ∀ (es : Es) (kk : Bool) {X : Cx} {nm : List (Str × NameKind)} {top : Bool} {W : WX} {xs : List Expr} {pos : Pos}, Good X cls k Tb G N nm top W → ckEs Tb N nm top es xs = true →
    PE X (.BoolOp (if kk = true then BoolOp.And else BoolOp.Or) xs pos) (tBo X.K cls G W kk es)
  | .nil, kk, X, nm, top, W, xs, pos, gd, h => ⟨fun pins s σ H Q I ⟨S, ρ, M, r, hh, w⟩ => False.elim w⟩
  | .cons e .nil, kk, X, nm, top, W, xs, pos, gd, h => by
    cases xs with
    | nil => exact bad h
    | cons y ys =>
      obtain ⟨h1, h2⟩ := and2 (show (ckE Tb N nm top e y && ckEs Tb N nm top .nil ys) = true from h)
      cases ys with
      | cons _ _ => exact bad h2
      | nil => exact PE.weak (pe_one (sE e gd h1)) fun σ H Q ⟨S, ρ, M, r, hh, w⟩ => ⟨S, ρ, M, r, hh, w⟩
  | .cons e (.cons e2 es), kk, X, nm, top, W, xs, pos, gd, h => by
    cases xs with
    | nil => exact bad h
    | cons y ys =>
      obtain ⟨h1, h2⟩ := and2 (show (ckE Tb N nm top e y && ckEs Tb N nm top (.cons e2 es) ys) = true from h)
      cases ys with
      | nil => exact bad h2
      | cons y2 ys =>
        refine PE.weak (pe_andB kk (sE e gd h1) (sB (.cons e2 es) kk gd h2)) fun σ H Q ⟨S, ρ, M, r, hh, w⟩ => ?_
        refine tE_in r hh w (fun _ _ z => z) fun d1 M1 v1 H1 ⟨b, e, w1⟩ r1 h1 k1 => ?_
        subst e
        cases r1
        refine ⟨b, rfl, ?_⟩
        by_cases hb : b = kk
        · rw [if_pos hb] at w1 ⊢
          exact tBo_in (r.keep k1) h1 w1 (xw_id k1) fun d M2 v H2 w2 r2 h2 k2 => w2 v H2 r2 h2 (k1.trans k2)
        · rw [if_neg hb] at w1 ⊢
          exact w1 _ H1 (.bl b) h1 k1
theorem sT : ∀ (t : T) {X : Cx} {nm : List (Str × NameKind)} {top : Bool} {W : WX} {x : Expr}, Good X cls k Tb G N nm top W → ckT Tb N nm top t x = true → PT X x (tT X.K cls G W t)
  | .val a, X, nm, top, W, x, gd, h => by
    obtain ⟨h1, h2⟩ := and2 (show (plainT x && ckE Tb N nm top a x) = true by cases x <;> exact h)
    refine PT.weak (pt_truth (sE a gd h2) (true_plain h1 _)) fun σ H Q ⟨S, ρ, M, r, hh, w⟩ => ?_
    exact tE_in r hh w (fun _ _ z => z) fun d1 M1 v1 H1 ⟨b, e, w1⟩ r1 h1 k1 => ⟨b, tru_D h1 r1 e, w1 H1 h1 k1⟩
  | .cmp o a b, X, nm, top, W, x, gd, h => by
    cases x with
    | Compare l ps rs pos =>
      cases ps with
      | nil => exact bad h
      | cons p ps =>
        cases ps with
        | cons _ _ => exact bad h
        | nil =>
          cases rs with
          | nil => exact bad h
          | cons rr rs =>
            cases rs with
            | cons _ _ => exact bad h
            | nil =>
              obtain ⟨h1, h2⟩ := and2 (show (decide (copOf o = p) && (notSet rr && (ckE Tb N nm top a l && ckE Tb N nm top b rr))) = true from h)
              obtain ⟨h2, h3⟩ := and2 h2
              obtain ⟨h3, h4⟩ := and2 h3
              obtain rfl := dec1 h1
              refine PT.weak (pt_cmpR (opr_cmp (cls := cls) gd.room.units o) (sE a gd h3) (sE b gd h4) (mark_plain h2 _)) fun σ H Q ⟨S, ρ, M, r, hh, w⟩ => ?_
              refine tE_in r hh w (fun _ _ z => z) fun d1 M1 v1 H1 w1 r1 h1 k1 => ?_
              refine tE_in (r.keep k1) h1 w1 (xw_id k1) fun d2 M2 v2 H2 ⟨kk, e, w2⟩ r2 h2 k2 => ?_
              exact ⟨S, M2, d1, d2, kk, r1.keep k2, r2, h2, e, kk, rfl, w2 H2 h2 (k1.trans k2)⟩
    | _ => exact bad h
  | .cmp2 o o2 a b c, X, nm, top, W, x, gd, h => by
    cases x with
    | Compare l ps rs pos =>
      cases ps with
      | nil => exact bad h
      | cons p ps =>
        cases ps with
        | nil => exact bad h
        | cons p2 ps =>
          cases ps with
          | cons _ _ => exact bad h
          | nil =>
            cases rs with
            | nil => exact bad h
            | cons m rs =>
              cases rs with
              | nil => exact bad h
              | cons rr rs =>
                cases rs with
                | cons _ _ => exact bad h
                | nil =>
                  obtain ⟨h1, h2⟩ := and2 (show (decide (copOf o = p) && (decide (copOf o2 = p2) && (notSet m && (notSet rr && (ckE Tb N nm top a l && (ckE Tb N nm top b m && ckE Tb N nm top c rr)))))) = true from h)
                  obtain ⟨h2, h3⟩ := and2 h2
                  obtain ⟨h3, h4⟩ := and2 h3
                  obtain ⟨h4, h5⟩ := and2 h4
                  obtain ⟨h5, h6⟩ := and2 h5
                  obtain ⟨h6, h7⟩ := and2 h6
                  obtain rfl := dec1 h1
                  obtain rfl := dec1 h2
                  refine PT.weak (pt_chain (opr_cmp (cls := cls) gd.room.units o) (opr_cmp (cls := cls) gd.room.units o2) (sE a gd h5) (sE b gd h6) (sE c gd h7) (mark_plain h4 _)) fun σ H Q ⟨S, ρ, M, r, hh, w⟩ => ?_
                  refine tE_in r hh w (fun _ _ z => z) fun d1 M1 v1 H1 w1 r1 h1 k1 => ?_
                  refine tE_in (r.keep k1) h1 w1 (xw_id k1) fun d2 M2 v2 H2 ⟨kk, e, w2⟩ r2 h2 k2 => ?_
                  refine ⟨S, M2, d1, d2, kk, r1.keep k2, r2, h2, e, kk, rfl, ?_⟩
                  cases kk with
                  | true =>
                    rw [if_pos rfl] at w2 ⊢
                    refine tE_in ((r.keep k1).keep k2) h2 w2 (xw_id (k1.trans k2)) fun d3 M3 v3 H3 ⟨kk, e, w3⟩ r3 h3 k3 => ?_
                    exact ⟨S, M3, d2, d3, kk, r2.keep k3, r3, h3, e, kk, rfl, w3 H3 h3 ((k1.trans k2).trans k3)⟩
                  | false =>
                    rw [if_neg Bool.false_ne_true] at w2 ⊢
                    exact ⟨false, rfl, w2 H2 h2 (k1.trans k2)⟩
    | _ => exact bad h
  | .not_ t, X, nm, top, W, x, gd, h => by
    cases x with
    | UnaryOp op l pos =>
      cases op with
      | Not =>
        refine PT.weak (pt_not (sT t gd h)) fun σ H Q ⟨S, ρ, M, r, hh, w⟩ => ?_
        exact tT_in r hh w (fun _ _ z => z) fun b M1 H1 w1 h1 k1 => w1 H1 h1 k1
      | _ => exact bad h
    | _ => exact bad h
  | .all ts, X, nm, top, W, x, gd, h => by
    cases x with
    | BoolOp op es pos =>
      cases op with
      | Or => exact bad (by cases es <;> exact h)
      | And =>
        cases es with
        | nil => exact bad h
        | cons y ys => exact PT.weak (sTa ts gd h).pt fun σ H Q ⟨S, ρ, M, r, hh, w⟩ => ⟨S, ρ, M, r, hh, w⟩
    | _ => exact bad h
  | .any ts, X, nm, top, W, x, gd, h => by
    cases x with
    | BoolOp op es pos =>
      cases op with
      | And => exact bad (by cases es <;> exact h)
      | Or =>
        cases es with
        | nil => exact bad h
        | cons y ys => exact PT.weak (sTo ts gd h).pt fun σ H Q ⟨S, ρ, M, r, hh, w⟩ => ⟨S, ρ, M, r, hh, w⟩
    | _ => exact bad h
theorem sTa : ∀ (ts : Ts) {X : Cx} {nm : List (Str × NameKind)} {top : Bool} {W : WX} {y : Expr} {ys : List Expr} {pos : Pos}, Good X cls k Tb G N nm top W → ckTs Tb N nm top ts (y :: ys) = true → PW X (.BoolOp .And (y :: ys) pos) (tAl X.K cls G W ts)
  | .nil, X, nm, top, W, y, ys, pos, gd, h => bad h
  | .cons t ts, X, nm, top, W, y, ys, pos, gd, h => by
    obtain ⟨h1, h2⟩ := and2 (show (ckT Tb N nm top t y && ckTs Tb N nm top ts ys) = true from h)
    cases ys with
    | nil =>
      refine PW.weak (pw_and1 (sT t gd h1)) fun σ H Q ⟨S, ρ, M, r, hh, w⟩ => ?_
      refine tT_in r hh w (fun _ _ z => z) fun b M1 H1 w1 h1 k1 => ?_
      cases ts with
      | cons _ _ => exact bad h2
      | nil =>
        cases b with
        | true => rw [if_pos rfl] at w1; exact w1 H1 h1 k1
        | false => rw [if_neg Bool.false_ne_true] at w1; exact w1 H1 h1 k1
    | cons y2 ys =>
      refine PW.weak (pw_and (sT t gd h1) (sTa ts gd h2)) fun σ H Q ⟨S, ρ, M, r, hh, w⟩ => ?_
      refine tT_in r hh w (fun _ _ z => z) fun b M1 H1 w1 h1 k1 => ?_
      cases b with
      | true =>
        rw [if_pos rfl] at w1 ⊢
        exact tAl_in (r.keep k1) h1 w1 (xw_id k1) fun b M2 H2 w2 h2 k2 => w2 H2 h2 (k1.trans k2)
      | false => rw [if_neg Bool.false_ne_true] at w1 ⊢; exact w1 H1 h1 k1
theorem sTo : ∀ (ts : Ts) {X : Cx} {nm : List (Str × NameKind)} {top : Bool} {W : WX} {y : Expr} {ys : List Expr} {pos : Pos}, Good X cls k Tb G N nm top W → ckTs Tb N nm top ts (y :: ys) = true → PW X (.BoolOp .Or (y :: ys) pos) (tAn X.K cls G W ts)
  | .nil, X, nm, top, W, y, ys, pos, gd, h => bad h
  | .cons t ts, X, nm, top, W, y, ys, pos, gd, h => by
    obtain ⟨h1, h2⟩ := and2 (show (ckT Tb N nm top t y && ckTs Tb N nm top ts ys) = true from h)
    cases ys with
    | nil =>
      refine PW.weak (pw_or1 (sT t gd h1)) fun σ H Q ⟨S, ρ, M, r, hh, w⟩ => ?_
      refine tT_in r hh w (fun _ _ z => z) fun b M1 H1 w1 h1 k1 => ?_
      cases ts with
      | cons _ _ => exact bad h2
      | nil =>
        cases b with
        | true => rw [if_pos rfl] at w1; exact w1 H1 h1 k1
        | false => rw [if_neg Bool.false_ne_true] at w1; exact w1 H1 h1 k1
    | cons y2 ys =>
      refine PW.weak (pw_or (sT t gd h1) (sTo ts gd h2)) fun σ H Q ⟨S, ρ, M, r, hh, w⟩ => ?_
      refine tT_in r hh w (fun _ _ z => z) fun b M1 H1 w1 h1 k1 => ?_
      cases b with
      | true => rw [if_pos rfl] at w1 ⊢; exact w1 H1 h1 k1
      | false =>
        rw [if_neg Bool.false_ne_true] at w1 ⊢
        exact tAn_in (r.keep k1) h1 w1 (xw_id k1) fun b M2 H2 w2 h2 k2 => w2 H2 h2 (k1.trans k2)
/-- a comprehension's tests: none or one -/
theorem sTt : ∀ (ts : Ts) {X : Cx} {nm : List (Str × NameKind)} {top : Bool} {W : WX} {xs : List Expr}, Good X cls k Tb G N nm top W → xs.length ≤ 1 → ckTs Tb N nm top ts xs = true → PTs X xs (tAl X.K cls G W ts)
  | .nil, X, nm, top, W, xs, gd, hl, h => by
    cases xs with
    | nil => exact PTs.weak pts_nil fun σ H Q ⟨S, ρ, M, r, hh, w⟩ => w H hh Keeps.refl
    | cons _ _ => exact bad h
  | .cons t ts, X, nm, top, W, xs, gd, hl, h => by
    cases xs with
    | nil => exact bad h
    | cons y ys =>
      obtain ⟨h1, h2⟩ := and2 (show (ckT Tb N nm top t y && ckTs Tb N nm top ts ys) = true from h)
      cases ys with
      | cons _ _ =>
        simp only [List.length_cons] at hl
        omega
      | nil =>
        refine PTs.weak (pts_one (sT t gd h1)) fun σ H Q ⟨S, ρ, M, r, hh, w⟩ => ?_
        refine tT_in r hh w (fun _ _ z => z) fun b M1 H1 w1 h1 k1 => ?_
        cases ts with
        | cons _ _ => exact bad h2
        | nil =>
          cases b with
          | true => rw [if_pos rfl] at w1; exact w1 H1 h1 k1
          | false => rw [if_neg Bool.false_ne_true] at w1; exact w1 H1 h1 k1
theorem sI : ∀ (it : Ie) {X : Cx} {nm : List (Str × NameKind)} {top : Bool} {W : WX} {tg x : Expr}, Good X cls k Tb G N nm top W → ckI Tb N nm top it x = true → PI X tg x (tI X.K cls G W it)
  | .seq a, X, nm, top, W, tg, x, gd, h => by
    refine PI.weak (pi_seq (sE a gd (show ckE Tb N nm top a x = true by cases x <;> exact h))) fun σ H R ⟨S, ρ, M, r, hh, w⟩ => ?_
    refine tE_in r hh w (fun _ _ z => z) fun d M1 v H1 w1 r1 h1 k1 => ?_
    cases d with
    | tup ds =>
      obtain ⟨a, xs, rfl, hs, rs⟩ := r1.ofTup
      refine .inr ⟨a, xs, rfl, hs, w1 _ H1 ?_ h1 k1⟩
      intro S' hS i M2 H2 h2 k2 _
      have r2 : RelD X.K S' M2 H2 (.tup ds) (.ref a) := (RelD.more hS (.tup hs rs)).keep k2
      obtain ⟨a', xs', e, hs', rs'⟩ := r2.ofTup
      cases e
      refine ⟨fun hi => ?_, fun hi => ⟨xs', hs', by rw [← rs'.length]; exact hi⟩⟩
      obtain ⟨z, ez, rz⟩ := rs'.get (List.getElem?_eq_getElem hi)
      refine ⟨⟨xs', z, hs', ez⟩, fun x H' ⟨e, hx⟩ => ⟨_, List.getElem?_eq_getElem hi, ?_, ?_, ?_⟩⟩
      · rw [e]
        have e2 := hx xs' hs'
        rw [ez] at e2
        cases e2
        exact rz
      · rw [e]; exact h2
      · rw [e]; exact Keeps.refl
    | lst ds =>
      obtain ⟨a, xs, rfl, hs, rs⟩ := r1.ofLst
      refine .inl ⟨a, xs, rfl, hs, w1 _ H1 ?_ h1 k1⟩
      intro S' hS i M2 H2 h2 k2 _
      have r2 : RelD X.K S' M2 H2 (.lst ds) (.ref a) := (RelD.more hS r1).keep k2
      obtain ⟨a', xs', e, hs', rs'⟩ := r2.ofLst
      cases e
      refine ⟨fun hi => ?_, fun hi => ⟨xs', hs', by rw [← rs'.length]; exact hi⟩⟩
      obtain ⟨z, ez, rz⟩ := rs'.get (List.getElem?_eq_getElem hi)
      refine ⟨⟨xs', z, hs', ez⟩, fun x H' ⟨e, hx⟩ => ⟨_, List.getElem?_eq_getElem hi, ?_, ?_, ?_⟩⟩
      · rw [e]
        have e2 := hx xs' hs'
        rw [ez] at e2
        cases e2
        exact rz
      · rw [e]; exact h2
      · rw [e]; exact Keeps.refl
    | ref p =>
      cases r1
      cases em : M1 p with
      | none => simp only [em] at w1
      | some o =>
        cases o with
        | lst ds =>
          simp only [em] at w1
          obtain ⟨xs, hp, rs⟩ := h1 _ _ em
          refine .inl ⟨p, xs, rfl, .inl (.inl hp), w1 _ H1 ?_ h1 k1⟩
          intro S' hS i M2 H2 h2 k2 hk
          obtain ⟨xs', hp', rs'⟩ := h2 _ _ hk
          have hs' : SqL X.K H2 p xs' := .inl (.inl hp')
          refine ⟨fun hi => ?_, fun hi => ⟨xs', hs', by rw [← rs'.length]; exact hi⟩⟩
          obtain ⟨z, ez, rz⟩ := rs'.get (List.getElem?_eq_getElem hi)
          refine ⟨⟨xs', z, hs', ez⟩, fun x H' ⟨e, hx⟩ => ⟨_, List.getElem?_eq_getElem hi, ?_, ?_, ?_⟩⟩
          · rw [e]
            have e2 := hx xs' hs'
            rw [ez] at e2
            cases e2
            exact rz
          · rw [e]; exact h2
          · rw [e]; exact Keeps.refl
        | _ => simp only [em] at w1
    | _ => exact False.elim w1
  | .rng1 a, X, nm, top, W, tg, x, gd, h => by
    cases x with
    | Call fx es ks pos =>
      cases fx with
      | Name y p =>
        cases es with
        | nil => exact bad h
        | cons l es =>
          cases es with
          | cons _ _ => exact bad h
          | nil =>
            cases ks with
            | cons _ _ => exact bad h
            | nil =>
              obtain ⟨h1, h2⟩ := and2 (show (decide (y = ("range" : Str)) && (decide (y ∈ Tb.bis) && (glB nm y && (notStar l && ckE Tb N nm top a l)))) = true from h)
              obtain ⟨h2, h3⟩ := and2 h2
              obtain ⟨h3, h4⟩ := and2 h3
              obtain ⟨h4, h5⟩ := and2 h4
              obtain rfl := dec1 h1
              refine PI.weak (pi_range1 (gl_of gd.nm h3) (gd.env.bi _ (dec1 h2)) (pa_cons (sE a gd h5) pa_nil (star_cons h4 _ _)) (star_cons h4 _ _)) fun σ H R ⟨S, ρ, M, r, hh, w⟩ => ?_
              refine tE_in r hh w (fun _ _ z => z) fun d M1 v H1 ⟨j, e, b1, b2, w1⟩ r1 h1 k1 => ?_
              subst e
              cases r1
              refine ⟨j, rfl, b1, b2, w1 _ H1 ?_ h1 k1⟩
              intro S' hS i M2 H2 h2 k2 _
              rw [List.length_map, List.length_range]
              refine ⟨fun hi => ⟨hi, fun x H' ⟨e1, e2⟩ => ⟨.int (0 + (i : Int)), ?_, ?_, ?_, ?_⟩⟩, fun hi => hi⟩
              · rw [List.getElem?_map, List.getElem?_range hi, Int.zero_add]; rfl
              · rw [e2, e1]; exact .int _
              · rw [e1]; exact h2
              · rw [e1]; exact Keeps.refl
      | _ => exact bad (by cases es <;> exact h)
    | _ => exact bad h
  | .rng2 a b, X, nm, top, W, tg, x, gd, h => by
    cases x with
    | Call fx es ks pos =>
      cases fx with
      | Name y p =>
        cases es with
        | nil => exact bad h
        | cons l es =>
          cases es with
          | nil => exact bad h
          | cons l2 es =>
            cases es with
            | cons _ _ => exact bad h
            | nil =>
              cases ks with
              | cons _ _ => exact bad h
              | nil =>
                obtain ⟨h1, h2⟩ := and2 (show (decide (y = ("range" : Str)) && (decide (y ∈ Tb.bis) && (glB nm y && (notStar l && (notStar l2 && (ckE Tb N nm top a l && ckE Tb N nm top b l2)))))) = true from h)
                obtain ⟨h2, h3⟩ := and2 h2
                obtain ⟨h3, h4⟩ := and2 h3
                obtain ⟨h4, h5⟩ := and2 h4
                obtain ⟨h5, h6⟩ := and2 h5
                obtain ⟨h6, h7⟩ := and2 h6
                obtain rfl := dec1 h1
                have q1 := star_cons h4 [l2] X.env
                have q2 := star_cons h5 [] X.env
                refine PI.weak (pi_range2 (gl_of gd.nm h3) (gd.env.bi _ (dec1 h2)) (pa_cons (sE a gd h6) (pa_cons (sE b gd h7) pa_nil q2) q1) (q1.trans (by rw [q2]; rfl)) q2) fun σ H R ⟨S, ρ, M, r, hh, w⟩ => ?_
                refine tE_in r hh w (fun _ _ z => z) fun d1 M1 v1 H1 w1 r1 h1 k1 => ?_
                refine tE_in (r.keep k1) h1 w1 (xw_id k1) fun d2 M2 v2 H2 ⟨i, j, e1, e2, bb, w2⟩ r2 h2 k2 => ?_
                subst e1; subst e2
                cases r1; cases r2
                refine ⟨i, j, rfl, bb, w2 _ H2 ?_ h2 (k1.trans k2)⟩
                intro S' hS n M3 H3 h3 k3 _
                rw [List.length_map, List.length_range]
                refine ⟨fun hi => ⟨hi, fun x H' ⟨e1, e2⟩ => ⟨.int (i + (n : Int)), ?_, ?_, ?_, ?_⟩⟩, fun hi => hi⟩
                · rw [List.getElem?_map, List.getElem?_range hi]; rfl
                · rw [e2, e1]; exact .int _
                · rw [e1]; exact h3
                · rw [e1]; exact Keeps.refl
      | _ => exact bad (by cases es <;> exact h)
    | _ => exact bad h
end
end
end Fm

/-! The engine, part K: what is wanted of a text is enough (statements, defs). -/
namespace Fm
open PySem L2 PySem.Spec PyProof.Rows

section
variable {cls : Nat → Addr} {k : Nat} {Tb : Tab} {G : Gt} {N : List Str}
theorem sub_ha {X : Cx} {l r : Expr} (h : notSlice r = true) (pos : Pos) : ∀ v, assign (.Subscript l r pos) X.env v = (do
      let ov ← holding [v] (eval l X.env)
      let iv ← holding [v, ov] (eval r X.env)
      standAt pos
      holding [v, ov, iv] (setItem ov iv v)
      release [v, ov, iv] []) := by
  intro v
  cases r <;> first | rfl | cases h
mutual
theorem sG : ∀ (t : Tg) {X : Cx} {nm : List (Str × NameKind)} {top : Bool} {W : WX} {x : Expr}, Good X cls k Tb G N nm top W → ckG Tb N nm top t x = true → PG X x (tG X.K cls G W t)
  | .name i, X, nm, top, W, x, gd, h => by
    cases x with
    | Name y p =>
      obtain ⟨h1, h2⟩ := and2 (show (decide (N[i]? = some y) && locB nm top y) = true from h)
      obtain ⟨hl, hf⟩ := loc_of gd.nm gd.fn h2
      refine PG.weak (pg_name (i := i) (by rw [gd.hN]; exact gd.nd) (by rw [gd.hN]; exact dec1 h1) hl hf) fun v σ H Q ⟨S, d, ρ, M, rd, r, hh, w⟩ => ?_
      exact w _ _ (r.set i rd) hh Keeps.refl
    | _ => exact bad h
  | .tup gs, X, nm, top, W, x, gd, h => by
    cases x with
    | Tuple es q p =>
      obtain ⟨h1, h2⟩ := and2 (show (noStars es && ckGs Tb N nm top gs es) = true from h)
      obtain ⟨l1, l2⟩ := assign_len es X.env h1
      refine PG.weak (PG.or (pg_tup gd.calm (sGs gs gd h2) l1 l2) (pg_lst gd.calm (sGs gs gd h2) l1 l2)) fun v σ H Q ⟨S, d, ρ, M, rd, r, hh, w⟩ => ?_
      obtain ⟨ds, e, w1, w2⟩ := w
      obtain ⟨a, xs, rfl, hs, rs⟩ := items_rel hh rd e
      have hl : xs.length = es.length := by rw [← rs.length, w1]; exact ckGs_len gs h2
      rcases hs with hs | hs
      · exact .inl ⟨a, xs, rfl, hs, hl, S, ds, ρ, M, rs, r, hh, w2⟩
      · exact .inr ⟨a, xs, rfl, hs, hl, S, ds, ρ, M, rs, r, hh, w2⟩
    | _ => exact bad h
  | .ix a b, X, nm, top, W, x, gd, h => by
    cases x with
    | Subscript l rr pos =>
      obtain ⟨h0, h1⟩ := and2 (show (notSlice rr && (ckE Tb N nm top a l && ckE Tb N nm top b rr)) = true from h)
      obtain ⟨h1, h2⟩ := and2 h1
      refine PG.weak (pg_sub (sE a gd h1) (sE b gd h2) (set_D (cls := cls) (by have := gd.room.units; omega)) (sub_ha h0 pos)) fun v σ H Q ⟨S, d, ρ, M, rd, r, hh, w⟩ => ?_
      refine tE_in r hh w (fun _ _ z => z) fun d1 M1 v1 H1 w1 r1 h1 k1 => ?_
      refine tE_in (r.keep k1) h1 w1 (xw_id k1) fun d2 M2 v2 H2 w2 r2 h2 k2 => ?_
      have rd2 := (rd.keep k1).keep k2
      have rr2 := (r.keep k1).keep k2
      cases d1 with
      | ref p =>
        have fin : ∀ (M' : Mm) (H' : Hp), RW X.K S cls Q M H ρ M' → Hold X.K S cls M' H' → Keeps X.K M2 H2 M' H' → Q σ H' := fun M' H' q hz kz => q σ H' (rr2.keep kz) hz ((k1.trans k2).trans kz)
        cases em : M2 p with
        | none => simp only [em] at w2
        | some o =>
          cases o with
          | lst ds =>
            simp only [em] at w2
            obtain ⟨i, j, e1, e2, w2⟩ := w2
            exact ⟨S, M2, .ref p, d2, d, fun M' => RW X.K S cls Q M H ρ M', r1.keep k2, r2, rd2, h2, ⟨p, rfl, .inl ⟨ds, i, j, em, e1, e2, w2⟩⟩, fin⟩
          | dK kvs =>
            simp only [em] at w2
            obtain ⟨ky, e1, e2, w2⟩ := w2
            exact ⟨S, M2, .ref p, d2, d, fun M' => RW X.K S cls Q M H ρ M', r1.keep k2, r2, rd2, h2, ⟨p, rfl, .inr ⟨kvs, ky, em, e1, e2, w2⟩⟩, fin⟩
          | _ => simp only [em] at w2
      | _ => exact False.elim w2
    | _ => exact bad h
theorem sGs : ∀ (t : Tgs) {X : Cx} {nm : List (Str × NameKind)} {top : Bool} {W : WX} {xs : List Expr}, Good X cls k Tb G N nm top W → ckGs Tb N nm top t xs = true → PGs X xs (tGs X.K cls G t)
  | .nil, X, nm, top, W, xs, gd, h => by
    cases xs with
    | nil =>
      refine PGs.weak pgs_nil fun v σ H Q ⟨S, ds, ρ, M, rd, r, hh, e, w⟩ => ?_
      subst e
      cases rd
      exact ⟨rfl, w _ _ r hh Keeps.refl⟩
    | cons _ _ => exact bad h
  | .cons g gs, X, nm, top, W, xs, gd, h => by
    cases xs with
    | nil => exact bad h
    | cons y ys =>
      obtain ⟨h1, h2⟩ := and2 (show (ckG Tb N nm top g y && ckGs Tb N nm top gs ys) = true from h)
      refine PGs.weak (pgs_cons (sG g gd h1) (sGs gs gd h2) (ckG_star h1 ys X.env)) fun v σ H Q ⟨S, ds, ρ, M, rd, r, hh, d, rr, e, w⟩ => ?_
      subst e
      cases rd with
      | cons r1 r2 =>
        refine ⟨_, _, rfl, tG_in r1 r hh w (fun _ _ z => False.elim z) fun ρ' M' σ' H' w' a b c => ?_⟩
        exact ⟨S, rr, ρ', M', r2.keep c, a, b, wpGs_mono gs (fun ρ2 M2 z σ2 H2 a2 b2 c2 => z σ2 H2 a2 b2 (c.trans c2)) (fun z M2 q => q) w'⟩
end
theorem not_star {e : Expr} (h : notStar e = true) : (match e with | .Starred .. => true | _ => false) = false := by cases e <;> first | rfl | cases h
theorem sw_par {nm : List (Str × NameKind)} {x y : Str} {px py pt p2 : Pos} {kt k2 : Nat} {l r : Expr} {env : Env} (hn : env.scope.names = nm) (hk : env.scope.kind = .function) (hx : nm.lookup x = some .local) (hy : nm.lookup y = some .local) (hxy : x ≠ y)
    (hp : (py.line == px.line) = true) (hl : notStar l = true) (hr : notStar r = true) (hf : (!([l, r].all (foldedForSure 8))) = true) (hc : (!([l, r].all (constantsAlone 8))) = true) :
    swappedStores [.Tuple [.Name x px, .Name y py] kt pt] (.Tuple [l, r] k2 p2) env = pure (some [x, y]) := by
  have e1 : env.kindOf x = some .local := by rw [← hn] at hx; exact hx
  have e2 : env.kindOf y = some .local := by rw [← hn] at hy; exact hy
  have e3 : env.blockKind = .function := by first | exact hk | (unfold Env.blockKind; rw [hk]; rfl)
  have e5 : ([l, r].all (foldedForSure 8)) = false := by revert hf; cases ([l, r].all (foldedForSure 8)) <;> simp
  have e6 : ([l, r].all (constantsAlone 8)) = false := by revert hc; cases ([l, r].all (constantsAlone 8)) <;> simp
  have hyx : (y == x) = false := by simpa using Ne.symm hxy
  have hxl : (px.line == px.line) = true := by simp
  have e7 : [x, y].eraseDups.length = 2 := by simp [List.eraseDups_cons, hyx]
  have h1 : ((NameKind.local : NameKind) == .local) = true := by decide
  have h1' : (some (NameKind.local : NameKind) == some .local) = true := by decide
  have h2 : ((ScopeKind.function : ScopeKind) != .function) = false := by decide
  unfold swappedStores
  simp only [List.length_cons, List.length_nil, e3, h2, List.any_cons, List.any_nil, List.head?_cons, Option.map_some, Option.getD_some, List.filterMap_cons, List.filterMap_nil, e1, e2, h1', Bool.true_and, hxl, hp, if_true, e5, e6]
  have hp' : (py.line == (Expr.Name x px).pos.line) = true := hp
  have hx' : (px.line == (Expr.Name x px).pos.line) = true := hxl
  rw [hp', hx']
  cases l <;> cases r <;> first | (cases hl; done) | (cases hr; done) | (simp only [if_true, e7]; rfl)

mutual
theorem sS : ∀ (t : Sm) {X : Cx} {nm : List (Str × NameKind)} {W : WX} {x : Stmt}, Good X cls k Tb G N nm true W → ckS Tb N nm t x = true → PS X x (tS X.K cls G W t)
  | .asg t e, X, nm, W, x, gd, h => by
    cases x with
    | Assign tgs v pos =>
      cases tgs with
      | nil => exact bad h
      | cons tg tgs =>
        cases tgs with
        | cons _ _ => exact bad h
        | nil =>
          obtain ⟨h1, h2⟩ := and2 (show (swC nm tg v && (swN nm tg v && (ckG Tb N nm true t tg && ckE Tb N nm true e v))) = true from h)
          obtain ⟨h2, h3⟩ := and2 h2
          obtain ⟨h3, h4⟩ := and2 h3
          refine PS.weak (ps_asg (sE e gd h4) (sG t gd h3) (swaps_C gd.nm h1 _) (sw_none gd.nm h2) (ckG_star h3 [] X.env)) fun D σ H ⟨S, ρ, M, r, hh, w⟩ => ?_
          refine tE_in r hh w (fun z M' q => KW.xw r Keeps.refl q) fun d M1 v H1 w1 r1 h1 k1 => ?_
          exact tG_in r1 (r.keep k1) h1 w1 (fun z M' q => KW.xw (r.keep k1) k1 q) fun ρ' M' σ' H' q a b c => q σ' H' a b (k1.trans c)
    | _ => exact bad h
  | .asgC i e, X, nm, W, x, gd, h => by
    cases e with
    | lc live own t it cs e =>
      cases x with
      | Assign tgs v spos =>
        cases tgs with
        | nil => exact bad h
        | cons tg tgs =>
          cases tg with
          | Name y py =>
            cases tgs with
            | cons _ _ => exact bad h
            | nil =>
              cases v with
              | ListComp elt gens scope pos =>
                obtain ⟨h1, h2⟩ := and2 (show (decide (N[i]? = some y) && (decide (nm.lookup y = some .local) && ((py.line == pos.line) && (!(scope.names.any fun (n, k) => n == y && (k == .local || k == .cell)) && ckE Tb N nm true (.lc live own t it cs e) (.ListComp elt gens scope pos))))) = true from h)
                obtain ⟨g2, h3⟩ := and2 h2
                obtain ⟨g3, h4⟩ := and2 h3
                obtain ⟨g4, g5⟩ := and2 h4
                cases gens with
                | nil => exact bad g5
                | cons c gens =>
                  cases gens with
                  | cons _ _ => exact bad g5
                  | nil =>
                    obtain ⟨tg, iter, ifs, asy⟩ := c
                    obtain ⟨f1, m2⟩ := and2 (show (decide (asy = 0) && (decide (ifs.length ≤ 1) && (blkC N ⟨.function, nm, false, false, []⟩ scope own && (notSet iter && (ckI Tb N nm true it iter && (ckG Tb N (relN nm scope) false t tg && (tgOwn (own.map (·.2)) t && (ckTs Tb N (relN nm scope) false cs ifs && ckE Tb N (relN nm scope) false e elt)))))))) = true from g5)
                    obtain ⟨f2, m3⟩ := and2 m2
                    obtain ⟨f3, m4⟩ := and2 m3
                    obtain ⟨f4, m5⟩ := and2 m4
                    obtain ⟨f5, m6⟩ := and2 m5
                    obtain ⟨f6, m7⟩ := and2 m6
                    obtain ⟨f7, m8⟩ := and2 m7
                    obtain ⟨f8, f9⟩ := and2 m8
                    obtain rfl := dec1 f1
                    have ok0 := blkOk_by f3
                    have ok : BlkOk X.N X.env.scope scope own := by
                      rw [gd.hN]
                      exact ⟨ok0.kind, ok0.uniq, ok0.ix, fun y a b => by rw [gd.nm]; exact ok0.free y a b, ok0.own⟩
                    have hy : X.env.scope.names.lookup y = some .local := by rw [gd.nm]; exact dec1 g2
                    refine PS.weak (ps_setLc (wi := tI X.K cls G W it) (g := tGo X.K cls G (own.map (·.2)) t) (tt := tAl X.K cls G W0 cs) (te := tE X.K cls G W0 e) (i := i) gd.calm (by rw [gd.hN]; exact gd.nd) (by rw [gd.hN]; exact dec1 h1) hy (sw_true gd.kind hy g3 (by simpa using g4)) (sI it gd f5) ok (fun s H C cl fp => sGo t (blk_good gd ok0.kind s H C cl fp) f7 f6) (fun s H C cl fp => sTt cs (blk_good gd ok0.kind s H C cl fp) (dec1 f2) f8)
                      (fun s H C cl fp => sE e (blk_good gd ok0.kind s H C cl fp) f9) (set_plain f4 _)) fun D σ H ⟨S, ρ, M, r, hh, w⟩ => ?_
                    refine lc_weak (live := live) σ H _ (tE_in r hh w (fun z M' q => KW.xw r Keeps.refl q) fun d M1 v H1 w1 r1 h1 k1 => ?_)
                    exact w1 _ H1 ((r.keep k1).set i r1) h1 k1
              | _ => exact bad h
          | _ => exact bad h
      | _ => exact bad h
    | _ => exact bad (by cases x <;> exact h)
  | .par i j a b, X, nm, W, x, gd, h => by
    cases x with
    | Assign tgs v spos =>
      cases tgs with
      | nil => exact bad h
      | cons tg tgs =>
        cases tgs with
        | cons _ _ => exact bad (by cases tg with
          | Tuple ts kt pt => exact (by cases ts with
            | nil => exact h
            | cons t1 ts => exact (by cases t1 <;> first | exact h | (cases ts with
              | nil => exact h
              | cons t2 ts => exact (by cases t2 <;> first | exact h | (cases ts <;> exact h)))))
          | _ => exact h)
        | nil =>
          cases tg with
          | Tuple ts kt pt =>
            cases ts with
            | nil => exact bad h
            | cons t1 ts =>
              cases t1 with
              | Name x px =>
                cases ts with
                | nil => exact bad h
                | cons t2 ts =>
                  cases t2 with
                  | Name y py =>
                    cases ts with
                    | cons _ _ => exact bad h
                    | nil =>
                      cases v with
                      | Tuple vs k2 p2 =>
                        cases vs with
                        | nil => exact bad h
                        | cons l vs =>
                          cases vs with
                          | nil => exact bad h
                          | cons rr vs =>
                            cases vs with
                            | cons _ _ => exact bad h
                            | nil =>
                              obtain ⟨f1, m2⟩ := and2 (show (decide (N[i]? = some x) && (decide (N[j]? = some y) && (decide (i ≠ j) && (decide (x ≠ y) && (decide (nm.lookup x = some .local) && (decide (nm.lookup y = some .local) && ((py.line == px.line) && (notStar l && (notStar rr && (!([l, rr].all (foldedForSure 8)) && (!([l, rr].all (constantsAlone 8)) && (ckE Tb N nm true a l && ckE Tb N nm true b rr)))))))))))) = true from h)
                              obtain ⟨f2, m3⟩ := and2 m2
                              obtain ⟨f3, m4⟩ := and2 m3
                              obtain ⟨f4, m5⟩ := and2 m4
                              obtain ⟨f5, m6⟩ := and2 m5
                              obtain ⟨f6, m7⟩ := and2 m6
                              obtain ⟨f7, m8⟩ := and2 m7
                              obtain ⟨f8, m9⟩ := and2 m8
                              obtain ⟨f9, m10⟩ := and2 m9
                              obtain ⟨f10, m11⟩ := and2 m10
                              obtain ⟨f11, m12⟩ := and2 m11
                              obtain ⟨f12, f13⟩ := and2 m12
                              have hx : X.env.scope.names.lookup x = some .local := by rw [gd.nm]; exact dec1 f5
                              have hy : X.env.scope.names.lookup y = some .local := by rw [gd.nm]; exact dec1 f6
                              refine PS.weak (ps_par (i := i) (j := j) gd.calm (by rw [gd.hN]; exact gd.nd) (by rw [gd.hN]; exact dec1 f1) (by rw [gd.hN]; exact dec1 f2) (dec1 f3) hx hy (pa_cons (sE a gd f12) (pa_cons (sE b gd f13) pa_nil (star_cons f9 _ _)) (star_cons f8 _ _))
                                (sw_par gd.nm gd.kind (dec1 f5) (dec1 f6) (dec1 f4) f7 f8 f9 f10 f11)) fun D σ H ⟨S, ρ, M, r, hh, w⟩ => ?_
                              refine tE_in r hh w (fun z M' q => KW.xw r Keeps.refl q) fun d1 M1 v1 H1 w1 r1 h1 k1 => ?_
                              refine tE_in (r.keep k1) h1 w1 (fun z M' q => KW.xw (r.keep k1) k1 q) fun d2 M2 v2 H2 w2 r2 h2 k2 => ?_
                              exact ⟨v1, v2, rfl, w2 _ H2 ((((r.keep k1).keep k2).set i (r1.keep k2)).set j r2) h2 (k1.trans k2)⟩
                      | _ => exact bad h
                  | _ => exact bad h
              | _ => exact bad h
          | _ => exact bad h
    | _ => exact bad h
  | .aug i o e, X, nm, W, x, gd, h => by
    cases x with
    | AugAssign tg p v pos =>
      cases tg with
      | Name y py =>
        obtain ⟨f1, m2⟩ := and2 (show (decide (N[i]? = some y) && (locB nm true y && ((o == .add || o == .sub) && (decide (opOf o = p) && ckE Tb N nm true e v)))) = true from h)
        obtain ⟨f2, m3⟩ := and2 m2
        obtain ⟨f3, m4⟩ := and2 m3
        obtain ⟨f4, f5⟩ := and2 m4
        obtain rfl := dec1 f4
        obtain ⟨hl, hf⟩ := loc_of gd.nm gd.fn f2
        have ho : o = .add ∨ o = .sub := by cases o <;> first | exact .inl rfl | exact .inr rfl | cases f3
        refine PS.weak (ps_aug (i := i) (by rw [gd.hN]; exact gd.nd) (by rw [gd.hN]; exact dec1 f1) hl (sE e gd f5) (opr_ibin (cls := cls) o ho) hf) fun D σ H ⟨S, ρ, M, r, hh, u, e1, w⟩ => ?_
        obtain ⟨x, ex, rx⟩ := r.at_ i u e1
        refine ⟨x, ex, tE_in r hh w (fun z M' q => KW.xw r Keeps.refl q) fun d1 M1 v1 H1 w1 r1 h1 k1 => ?_⟩
        exact ⟨S, M1, u, d1, _, rx.keep k1, r1, h1, w1, fun d M' z H' q rz hz kz => q _ H' (((r.keep k1).keep kz).set i rz) hz (k1.trans kz)⟩
      | _ => exact bad h
    | _ => exact bad h
  | .expr e, X, nm, W, x, gd, h => by
    cases x with
    | Expr v pos =>
      obtain ⟨f1, f2⟩ := and2 (show (noComp v && ckE Tb N nm true e v) = true from h)
      refine PS.weak (ps_expr (sE e gd f2) (swaps_plain f1 _ _ _)) fun D σ H ⟨S, ρ, M, r, hh, w⟩ => ?_
      exact tE_in r hh w (fun z M' q => KW.xw r Keeps.refl q) fun d1 M1 v1 H1 w1 r1 h1 k1 => w1 σ H1 (r.keep k1) h1 k1
    | _ => exact bad h
  | .if_ c a b, X, nm, W, x, gd, h => by
    cases x with
    | If t l rr pos =>
      obtain ⟨f1, m2⟩ := and2 (show (ckT Tb N nm true c t && (ckSs Tb N nm a l && ckSs Tb N nm b rr)) = true from h)
      obtain ⟨f2, f3⟩ := and2 m2
      refine PS.weak (ps_if (sT c gd f1) (sSs a gd f2) (sSs b gd f3)) fun D σ H ⟨S, ρ, M, r, hh, w⟩ => ?_
      refine tT_in r hh w (fun z M' q => KW.xw r Keeps.refl q) fun b1 M1 H1 w1 h1 k1 => ?_
      cases b1 with
      | true => rw [if_pos rfl] at w1 ⊢; exact tSs_in (r.keep k1) h1 w1 (KW.le k1)
      | false => rw [if_neg Bool.false_ne_true] at w1 ⊢; exact tSs_in (r.keep k1) h1 w1 (KW.le k1)
    | _ => exact bad h
  | .for_ t it b, X, nm, W, x, gd, h => by
    cases x with
    | For tg iter body orelse pos =>
      cases orelse with
      | cons _ _ => exact bad h
      | nil =>
        obtain ⟨f1, m2⟩ := and2 (show (notSet iter && (ckI Tb N nm true it iter && (ckG Tb N nm true t tg && ckSs Tb N nm b body))) = true from h)
        obtain ⟨f2, m3⟩ := and2 m2
        obtain ⟨f3, f4⟩ := and2 m3
        refine PS.weak (ps_for gd.pas gd.calm (sI it gd f2) (sG t gd f3) (sSs b gd f4) (set_plain f1 _)) fun D σ H ⟨S, ρ, M, r, hh, w⟩ => ?_
        refine tI_in r hh w (fun z M' q => KW.xw r Keeps.refl q) fun ds keep M1 J H1 q y h1 k1 => ?_
        refine ⟨fun i m σ2 H2 => m = ds.length - i ∧ i ≤ ds.length ∧ ∃ (ρ2 : Rho) (M2 : Mm), RelR X.K S M2 H2 ρ2 σ2 ∧ Hold X.K S cls M2 H2 ∧ Keeps X.K M1 H1 M2 H2 ∧ forRun keep _ (ds.drop i) ρ2 M2 _,
          ⟨ds.length, rfl, Nat.zero_le _, ρ, M1, r.keep k1, h1, Keeps.refl, q⟩, ?_⟩
        rintro i m σ2 H2 ⟨rfl, hi, ρ2, M2, r2, h2, k2, w2⟩
        have yy := y S (fun _ s => .inl s) i M2 H2 h2 k2
        by_cases hlt : i < ds.length
        · rw [List.drop_eq_getElem_cons hlt] at w2
          obtain ⟨wk, w2⟩ := w2
          obtain ⟨go, yi⟩ := (yy wk).1 hlt
          refine .inr ⟨go, fun σ' H' => ∃ (ρ2 : Rho) (M2 : Mm), RelR X.K S M2 H' ρ2 σ' ∧ Hold X.K S cls M2 H' ∧ Keeps X.K M1 H1 M2 H' ∧ forRun keep _ (ds.drop (i + 1)) ρ2 M2 _,
            fun σ' H' ⟨a, b, c1, c2, c3, c4⟩ => ⟨ds.length - (i + 1), by omega, rfl, hlt, a, b, c1, c2, c3, c4⟩, fun x H3 hx => ?_⟩
          obtain ⟨d, ed, rd, h3, k3⟩ := yi x H3 hx
          have ed' : ds[i] = d := by rw [List.getElem?_eq_getElem hlt] at ed; exact Option.some.inj ed
          rw [ed'] at w2
          have k13 := (k1.trans k2).trans k3
          refine tG_in rd (r2.keep k3) h3 w2 (fun z M' q => KW.xw (r2.keep k3) k13 q) fun ρ4 M4 σ4 H4 w4 r4 h4 k4 => ?_
          have k14 := k13.trans k4
          refine tSs_in r4 h4 w4 ⟨fun ρ' M' z σ' H' a b c => ⟨ρ', M', a, b, ((k2.trans k3).trans k4).trans c, z⟩, fun _ _ z v H' a b c => z v H' a b (k14.trans c), fun _ _ z σ' H' a b c => z σ' H' a b (k14.trans c),
            fun ρ' M' z σ' H' a b c => ⟨ρ', M', a, b, ((k2.trans k3).trans k4).trans c, z⟩, fun _ _ _ z σ' d H' a b c e => z σ' d H' a b c (k14.trans e)⟩
        · rw [List.drop_eq_nil_of_le (by omega)] at w2
          obtain ⟨wk, w2⟩ := w2
          exact .inl ⟨(yy wk).2 (by omega), w2 σ2 H2 r2 h2 (k1.trans k2)⟩
    | _ => exact bad h
  | .while_ c b, X, nm, W, x, gd, h => by
    cases x with
    | While t body orelse pos =>
      cases orelse with
      | cons _ _ => exact bad h
      | nil =>
        obtain ⟨f1, f2⟩ := and2 (show (ckT Tb N nm true c t && ckSs Tb N nm b body) = true from h)
        refine PS.weak (ps_while gd.pas (sT c gd f1) (sSs b gd f2)) fun D σ H ⟨S, ρ, M, r, hh, n, w⟩ => ?_
        refine ⟨fun m σ2 H2 => ∃ (ρ2 : Rho) (M2 : Mm), RelR X.K S M2 H2 ρ2 σ2 ∧ Hold X.K S cls M2 H2 ∧ Keeps X.K M H M2 H2 ∧ whRun _ m ρ2 M2, ⟨n, ρ, M, r, hh, Keeps.refl, w⟩, ?_⟩
        rintro m σ2 H2 ⟨ρ2, M2, r2, h2, k2, w2⟩
        cases m with
        | zero => exact False.elim w2
        | succ m =>
          have w2' : wpT G c ρ2 M2 (fun t M1 => if t = true then wpSs G b { (KW X.K S cls W D M H) with nx := whRun _ m, ct := whRun _ m, bk := (KW X.K S cls W D M H).nx } ρ2 M1 else (KW X.K S cls W D M H).nx ρ2 M1) (fun z M' => (KW X.K S cls W D M H).xx z ρ2 M') := w2
          refine tT_in r2 h2 w2' (fun z M' q => KW.xw r2 k2 q) fun b1 M3 H3 w3 h3 k3 => ?_
          have k13 := k2.trans k3
          cases b1 with
          | true =>
            rw [if_pos rfl] at w3 ⊢
            refine ⟨fun σ' H' => ∃ (ρ2 : Rho) (M2 : Mm), RelR X.K S M2 H' ρ2 σ' ∧ Hold X.K S cls M2 H' ∧ Keeps X.K M H M2 H' ∧ whRun _ m ρ2 M2, fun σ' H' z => ⟨m, Nat.lt_succ_self m, z⟩, ?_⟩
            exact tSs_in (r2.keep k3) h3 w3 ⟨fun ρ' M' z σ' H' a b c => ⟨ρ', M', a, b, k13.trans c, z⟩, fun _ _ z v H' a b c => z v H' a b (k13.trans c), fun _ _ z σ' H' a b c => z σ' H' a b (k13.trans c),
              fun ρ' M' z σ' H' a b c => ⟨ρ', M', a, b, k13.trans c, z⟩, fun _ _ _ z σ' d H' a b c e => z σ' d H' a b c (k13.trans e)⟩
          | false =>
            rw [if_neg Bool.false_ne_true] at w3 ⊢
            exact w3 σ2 H3 (r2.keep k3) h3 k13
    | _ => exact bad h
  | .ret e, X, nm, W, x, gd, h => by
    cases x with
    | Return v pos =>
      cases v with
      | none => exact bad h
      | some v =>
        refine PS.weak (ps_ret (sE e gd h)) fun D σ H ⟨S, ρ, M, r, hh, w⟩ => ?_
        exact tE_in r hh w (fun z M' q => KW.xw r Keeps.refl q) fun d1 M1 v1 H1 w1 r1 h1 k1 => w1 v1 H1 r1 h1 k1
    | _ => exact bad h
  | .retN, X, nm, W, x, gd, h => by
    cases x with
    | Return v pos =>
      cases v with
      | some _ => exact bad h
      | none => exact PS.weak ps_retN fun D σ H ⟨S, ρ, M, r, hh, w⟩ => w _ H .non hh Keeps.refl
    | _ => exact bad h
  | .brk, X, nm, W, x, gd, h => by
    cases x with
    | Break pos => exact PS.weak ps_break fun D σ H ⟨S, ρ, M, r, hh, w⟩ => w σ H r hh Keeps.refl
    | _ => exact bad h
  | .cont, X, nm, W, x, gd, h => by
    cases x with
    | Continue pos => exact PS.weak ps_continue fun D σ H ⟨S, ρ, M, r, hh, w⟩ => w σ H r hh Keeps.refl
    | _ => exact bad h
  | .pass, X, nm, W, x, gd, h => by
    cases x with
    | Pass pos => exact PS.weak ps_pass fun D σ H ⟨S, ρ, M, r, hh, w⟩ => w σ H r hh Keeps.refl
    | _ => exact bad h
  | .never, X, nm, W, x, gd, h => PS.weak ps_never fun D σ H ⟨S, ρ, M, r, hh, w⟩ => False.elim w
theorem sSs : ∀ (ts : Sms) {X : Cx} {nm : List (Str × NameKind)} {W : WX} {xs : List Stmt}, Good X cls k Tb G N nm true W → ckSs Tb N nm ts xs = true → PSs X xs (tSs X.K cls G W ts)
  | .nil, X, nm, W, xs, gd, h => by
    cases xs with
    | nil => exact PSs.weak pss_nil fun D σ H ⟨S, ρ, M, r, hh, w⟩ => w σ H r hh Keeps.refl
    | cons _ _ => exact bad h
  | .cons s ss, X, nm, W, xs, gd, h => by
    cases xs with
    | nil => exact bad h
    | cons y ys =>
      obtain ⟨f1, f2⟩ := and2 (show (ckS Tb N nm s y && ckSs Tb N nm ss ys) = true from h)
      refine PSs.weak (pss_cons (sS s gd f1) (sSs ss gd f2)) fun D σ H ⟨S, ρ, M, r, hh, w⟩ => ?_
      refine tS_in r hh w ⟨fun ρ' M' z σ' H' a b c => tSs_in a b z (KW.le c), fun _ _ z => z, fun _ _ z => z, fun _ _ z => z, fun _ _ _ z => z⟩
end
end
end Fm

/-! The engine, part L: defs by their texts, all defs of a law at once, the law's end. -/
namespace Fm
open PySem L2 PySem.Spec PyProof.Rows

def startR (N : List Str) (ds : List Dt) : Rho := ds.map some ++ List.replicate (N.length - ds.length) none
def bodyK (q : QD) (x : QX) : Kn := ⟨fun _ M' => q .non M', q, fun _ _ => False, fun _ _ => False, fun z _ M' => x z M'⟩
def wfB (G : Gt) (N : List Str) (n : Nat) (b : Sms) : Wf where
  run ds M q x := ds.length = n ∧ wpSs G b (bodyK q x) (startR N ds) M
  mono := fun hq hx h => ⟨h.1, wpSs_mono b (k := bodyK _ _) (k' := bodyK _ _) ⟨fun _ M z => hq .non M z, fun d M z => hq d M z, fun _ _ z => z, fun _ _ z => z, fun z _ M y => hx z M y⟩ h.2⟩
def botW : Wf where
  run _ _ _ _ := False
  mono := fun _ _ h => h

section
variable {K : PySem.W.Frag} {S : Addr → Prop} {M : Mm} {H : Hp}
theorem RelR.start {N : List Str} : ∀ {ds : List Dt} {vs : List V}, RelDs K S M H ds vs → RelR K S M H (startR N ds) (L2.start N vs) := by
  intro ds vs r
  have l := r.length
  refine ⟨?_, fun i d e => ?_⟩
  · unfold startR L2.start
    rw [List.length_append, List.length_append, List.length_map, List.length_map, List.length_replicate, List.length_replicate, l]
  · unfold startR at e
    unfold L2.start
    by_cases hi : i < ds.length
    · rw [List.getElem?_append_left (by rw [List.length_map]; exact hi), List.getElem?_map] at e
      rw [List.getElem?_append_left (by rw [List.length_map, ← l]; exact hi), List.getElem?_map]
      cases q : ds[i]? with
      | none => rw [q] at e; cases e
      | some d' =>
        rw [q] at e
        cases e
        obtain ⟨v, h1, h2⟩ := r.get q
        exact ⟨v, by rw [h1]; rfl, h2⟩
    · rw [List.getElem?_append_right (by rw [List.length_map]; omega), List.getElem?_replicate] at e
      split at e <;> cases e
end

structure DD where
  name : Str
  st : Stmt
  N : List Str
  np : Nat
  body : Sms
def DD.ps (d : DD) : List Str := d.N.take d.np
def DD.toD (d : DD) : He.DefD := ⟨(d.name, none), d.name, d.name, defArgs d.st, defBody d.st, defScope d.st, [], []⟩
def DD.scB (d : DD) : Bool := decide ((defScope d.st).kind = .function) && (!(defScope d.st).isCoroutine && (!(defScope d.st).isGenerator && (decide d.N.Nodup && (decide (d.ps.length = d.np) &&
  (d.ps.all (fun x => decide ((defScope d.st).names.lookup x = some .local) || decide ((defScope d.st).names.lookup x = some .cell)) && (defScope d.st).names.all fun y => !decide (y.2 = .free))))))
def DD.Bind (d : DD) : Prop := ∀ (kV doc pm : Value) (an : Option Addr) (cdv ct : Value) (us : List Value), us.length = d.ps.length → bindArgs (PySem.W.fnOf d.name d.name (defArgs d.st) (defBody d.st) (defScope d.st) .none kV doc pm an cdv ct) ⟨us, []⟩ = pure (d.ps.zip us)
def AllBind : List (Nat × DD) → Prop
  | [] => True
  | d :: r => d.2.Bind ∧ AllBind r
theorem mem_lk {α : Type} {g : Nat} {b : α} : ∀ {l : List (Nat × α)}, l.lookup g = some b → (g, b) ∈ l
  | (a, c) :: r, h => by
    rw [List.lookup_cons] at h
    cases q : g == a with
    | true =>
      rw [q] at h
      have e1 : g = a := beq_iff_eq.mp q
      subst e1
      cases h
      exact List.mem_cons_self
    | false =>
      rw [q] at h
      exact List.mem_cons_of_mem _ (mem_lk h)
theorem AllBind.mem_ : ∀ {ds : List (Nat × DD)} {p : Nat × DD}, AllBind ds → p ∈ ds → p.2.Bind
  | d :: r, p, h, e => by
    rcases List.mem_cons.mp e with e | e
    · subst e; exact h.1
    · exact AllBind.mem_ h.2 e
theorem AllBind.at_ {ds : List (Nat × DD)} {g : Nat} {d : DD} (h : AllBind ds) (e : ds.lookup g = some d) : d.Bind := AllBind.mem_ (p := (g, d)) h (mem_lk e)
theorem lookup_map {α β : Type} (f : α → β) (g : Nat) : ∀ l : List (Nat × α), (l.map fun p => (p.1, f p.2)).lookup g = (l.lookup g).map f
  | [] => rfl
  | (a, b) :: r => by
    rw [List.map_cons, List.lookup_cons, List.lookup_cons]
    cases g == a with
    | true => rfl
    | false => exact lookup_map f g r
/-- a value that a name of the module holds -/
inductive Gv where | int (i : Int) | str (s : Str)
def Gv.d : Gv → Dt
  | .int i => .int i
  | .str s => .str s
def Gv.fa (x : Str) : Gv → He.Fa
  | .int i => .int x i
  | .str s => .str x s
/-- all of a law's text -/
structure Txt where
  defs : List (Nat × DD)
  gls : List (Nat × Str × Gv)
  bis : List Str
def Txt.tab (T : Txt) : Tab := ⟨T.defs.map fun p => (p.1, p.2.name, p.2.np), T.gls.map fun p => (p.1, p.2.1), T.bis⟩
def Txt.ok (T : Txt) : Bool := T.defs.all fun p => p.2.scB && ckSs T.tab p.2.N (defScope p.2.st).names p.2.body (defBody p.2.st)
def Txt.gv (T : Txt) (g : Nat) : Dt := match T.gls.lookup g with
  | some p => p.2.d
  | none => .non
def Gn (T : Txt) : Nat → Gt
  | 0 => ⟨fun _ => botW, T.gv⟩
  | n + 1 => ⟨fun g => match T.defs.lookup g with
    | some d => wfB (Gn T n) d.N d.np d.body
    | none => botW, T.gv⟩
theorem DD.scope {d : DD} (h : d.scB = true) : FnScope d.N d.ps (defScope d.st) ∧ d.ps.length = d.np := by
  obtain ⟨h1, h⟩ := and2 h
  obtain ⟨h2, h⟩ := and2 h
  obtain ⟨h3, h⟩ := and2 h
  obtain ⟨h4, h⟩ := and2 h
  obtain ⟨h5, h⟩ := and2 h
  obtain ⟨h6, h7⟩ := and2 h
  refine ⟨⟨dec1 h1, by simpa using h2, by simpa using h3, dec1 h4, ?_, fun x hx => ?_, fun y hy => ?_⟩, dec1 h5⟩
  · rw [dec1 h5]; rfl
  · have := List.all_eq_true.mp h6 x hx
    simpa using this
  · have := List.all_eq_true.mp h7 y hy
    simpa using this

section
variable {P : Program} {w : World} {K : PySem.W.Frag} {mg : Str → Option Value} {base : Heap} {cls : Nat → Addr}
theorem fn_sound {x : Str} {d : DD} {f : Addr} {fd : FuncData} {k : Nat} {Tb : Tab} {G : Gt} (F : FunD K x x (defArgs d.st) (defBody d.st) (defScope d.st) [] [] f fd) (hs : d.scB = true) (env : EnvOk P w K mg base cls k Tb G)
    (hck : ckSs Tb d.N (defScope d.st).names d.body (defBody d.st) = true) : FnOk P w K mg base (L2.CX P w) (k + 1) f fd d.ps (spW K cls d.np (wfB G d.N d.np d.body)) := by
  obtain ⟨S, hl⟩ := DD.scope hs
  refine F.ok S (fun vs H Q E h => h.1.trans hl.symm) fun cdv A outer s H vs Q E hr h => ?_
  have gd : Good (cxOf (L2.CX P w) P w K mg base d.N x (defScope d.st) f cdv A outer s H E) cls k Tb G d.N (defScope d.st).names true (fun c z _ H' => E c z H') :=
    ⟨env, rfl, S.nd, rfl, S.kind, rfl, hr, fun _ _ => rfl, passes_of rfl, takes_of rfl rfl rfl rfl⟩
  refine ⟨_, sSs d.body gd hck, ?_⟩
  obtain ⟨hlen, S', ds, M, rd, hh, w0⟩ := h
  obtain ⟨hl2, w2⟩ : ds.length = d.np ∧ wpSs G d.body (bodyK _ _) (startR d.N ds) M := w0
  refine tSs_in (RelR.start rd) hh w2 ⟨fun ρ' M' z σ' H' a b c => z .non H' .non b c, fun _ _ z => z, fun _ _ z => False.elim z, fun _ _ z => False.elim z, fun z ρ' M' q σ' dd H' a b c e => q dd H' b c e⟩

def DefsIn (K : PySem.W.Frag) (mg : Str → Option Value) (T : Txt) : Prop := ∀ (g : Nat) (d : DD), T.defs.lookup g = some d → ∃ f fd, mg d.name = some (.ref f) ∧ FunD K d.name d.name (defArgs d.st) (defBody d.st) (defScope d.st) [] [] f fd
def GlsIn (mg : Str → Option Value) (T : Txt) : Prop := ∀ (g : Nat) (x : Str) (v : Gv), T.gls.lookup g = some (x, v) → match v with
  | .int i => ∃ t, mg x = some (.int i t)
  | .str s => ∃ t, mg x = some (.str s t)
theorem env_all {T : Txt} (hok : T.ok = true) (hb : AllBind T.defs) (hd : DefsIn K mg T) (hg : GlsIn mg T) (hbi : ∀ x, x ∈ T.bis → mg x = none) : ∀ n, EnvOk P w K mg base cls n T.tab (Gn T n) := by
  intro n
  have gl : ∀ n (g : Nat) x, T.tab.gls.lookup g = some x → ∃ v u, mg x = some u ∧ RelV v u ∧ ∀ (S : Addr → Prop) M H, RelD K S M H ((Gn T n).gval g) v := by
    intro n g x e
    have e' : (T.gls.map fun p => (p.1, p.2.1)).lookup g = some x := e
    rw [lookup_map fun z : Str × Gv => z.1] at e'
    have eg : (Gn T n).gval g = T.gv g := by cases n <;> rfl
    cases q : T.gls.lookup g with
    | none => rw [q] at e'; cases e'
    | some p =>
      rw [q] at e'
      obtain ⟨y, v⟩ := p
      cases e'
      have hg' := hg g y v q
      rw [eg]
      unfold Txt.gv
      rw [q]
      cases v with
      | int i =>
        obtain ⟨t, ht⟩ := hg'
        exact ⟨.int i, _, ht, ⟨_, rfl⟩, fun _ _ _ => .int i⟩
      | str s =>
        obtain ⟨t, ht⟩ := hg'
        exact ⟨.str s, _, ht, ⟨_, rfl⟩, fun _ _ _ => .str s⟩
  have getD : ∀ (g : Nat) x m, T.tab.fns.lookup g = some (x, m) → ∃ d, T.defs.lookup g = some d ∧ d.name = x ∧ d.np = m := by
    intro g x m e
    have e' : (T.defs.map fun p => (p.1, p.2.name, p.2.np)).lookup g = some (x, m) := e
    rw [lookup_map fun z : DD => (z.name, z.np)] at e'
    cases q : T.defs.lookup g with
    | none => rw [q] at e'; cases e'
    | some d =>
      rw [q] at e'
      cases e'
      exact ⟨d, rfl, rfl, rfl⟩
  induction n with
  | zero =>
    refine ⟨fun g x m e => ?_, gl 0, hbi⟩
    obtain ⟨d, q, rfl, rfl⟩ := getD g x m e
    obtain ⟨f, fd, h1, h2⟩ := hd g d q
    have h3 := List.all_eq_true.mp hok (g, d) (mem_lk q)
    obtain ⟨hs, hc⟩ := and2 h3
    refine ⟨f, fd, d.ps, (DD.scope hs).2, h1, h2.kp, h2.bindsN (hb.at_ q), ⟨fun vs H Q E h => h.1.trans (DD.scope hs).2.symm, fun A outer s H args us vs Q E _ _ _ _ h => ?_⟩⟩
    obtain ⟨_, _, _, _, _, _, z⟩ := h
    exact False.elim z
  | succ n ih =>
    refine ⟨fun g x m e => ?_, gl (n + 1), hbi⟩
    obtain ⟨d, q, rfl, rfl⟩ := getD g x m e
    obtain ⟨f, fd, h1, h2⟩ := hd g d q
    have h3 := List.all_eq_true.mp hok (g, d) (mem_lk q)
    obtain ⟨hs, hc⟩ := and2 h3
    have eg : (Gn T (n + 1)).call g = wfB (Gn T n) d.N d.np d.body := by
      show (match T.defs.lookup g with | some d => wfB (Gn T n) d.N d.np d.body | none => botW) = _
      rw [q]
    refine ⟨f, fd, d.ps, (DD.scope hs).2, h1, h2.kp, h2.bindsN (hb.at_ q), ?_⟩
    rw [eg]
    exact fn_sound h2 hs ih hc
end

/-! ### the head's facts -/
def Txt.fn (T : Txt) : List He.DefD := T.defs.map fun p => p.2.toD
def Txt.fa (T : Txt) : List He.Fa := T.defs.map (fun p => .glo p.2.name) ++ (T.bis.map .free ++ T.gls.map fun p => p.2.2.fa p.2.1)
theorem SaysD.fact' {fa : List He.Fa} {fn : List He.DefD} {K : PySem.W.Frag} (c : He.SaysD fa fn K) {f : He.Fa} (h : f ∈ fa) : f.ok K = true := by
  obtain ⟨i, hi⟩ := List.getElem?_of_mem h
  exact c.fact i hi
section
variable {K : PySem.W.Frag} {mg : Str → Option Value} {h : Heap} {T : Txt}
theorem defsIn (X : K.In h) (G : h.Ns mainGlobals mg) (c : He.SaysD T.fa T.fn K) : DefsIn K mg T := by
  intro g d e
  obtain ⟨i, hi⟩ := List.getElem?_of_mem (mem_lk e)
  have e1 : T.fn[i]? = some d.toD := by
    show (T.defs.map fun p => p.2.toD)[i]? = _
    rw [List.getElem?_map, hi]; rfl
  obtain ⟨fd, F⟩ := c.def_ i e1
  have m1 : (He.Fa.glo d.name) ∈ T.fa := List.mem_append_left _ (List.mem_map.mpr ⟨(g, d), mem_lk e, rfl⟩)
  exact ⟨_, fd, He.glo_ok X G (SaysD.fact' c m1), F⟩
theorem glsIn (X : K.In h) (G : h.Ns mainGlobals mg) (c : He.SaysD T.fa T.fn K) : GlsIn mg T := by
  intro g x v e
  have m1 : v.fa x ∈ T.fa := List.mem_append_right _ (List.mem_append_right _ (List.mem_map.mpr ⟨(g, x, v), mem_lk e, rfl⟩))
  cases v with
  | int i => exact He.int_ok X G (SaysD.fact' c m1)
  | str s => exact He.str_ok X G (SaysD.fact' c m1)
theorem bisIn (X : K.In h) (G : h.Ns mainGlobals mg) (c : He.SaysD T.fa T.fn K) : ∀ x, x ∈ T.bis → mg x = none := by
  intro x hx
  have m1 : He.Fa.free x ∈ T.fa := List.mem_append_right _ (List.mem_append_left _ (List.mem_map.mpr ⟨x, hx, rfl⟩))
  exact He.free_ok X G (SaysD.fact' c m1)
end

/-- a law's promise, in plain words -/
def LawIs (T : Txt) (n g : Nat) : Prop := ∀ ns : List Int, ns.length ≤ 63 → ((Gn T n).call g).run [.lst (ns.map Dt.int)] (fun _ => none) (fun d _ => d = .bl true) (fun _ _ => False)
theorem RelDs.ints {K : PySem.W.Frag} {S : Addr → Prop} {M : Mm} {H : Hp} : ∀ ns : List Int, RelDs K S M H (ns.map Dt.int) (ns.map V.int)
  | [] => .nil
  | n :: ns => .cons (.int n) (RelDs.ints ns)

def CXb (P : Program) : CXT := fun o H s E u s' => ∃ w, L2.CX P w o H s E u s'
theorem FnOk.any {P : Program} {w : World} {K : PySem.W.Frag} {mg : Str → Option Value} {base : Heap} {k : Nat} {f : Addr} {fd : FuncData} {ps : List Str} {sp : Sp} (F : FnOk P w K mg base (L2.CX P w) k f fd ps sp) : FnOk P w K mg base (CXb P) k f fd ps sp :=
  ⟨F.len, fun A outer s H args us vs Q E hr he hb hv hs => codeAny_mono (F.run A outer s H args us vs Q E hr he hb hv hs) fun r s' h => by
    cases r with
    | error e => exact ⟨w, h⟩
    | ok fl => cases fl <;> exact h⟩
theorem law_end {l : PySem.W.OpenLaw} {q : Program} {loose : List Str} {XP : (Str → Option Value) → Heap → Prop} {YP : World → Heap → Prop} {d : DefRec} {T : Txt} {n g : Nat} {lw : DD} {x : Str}
    (hok : T.ok = true) (hb : AllBind T.defs) (hlw : T.defs.lookup g = some lw) (hps : lw.ps = [x]) (hn : l.most = some 63) (hdf : d.params.defaults = []) (hname : d.name = lw.name) (hr : Room (n + 1) callerA) (law : LawIs T (n + 1) g)
    (hY : ∀ w h, YP w h → ∃ K : PySem.W.Frag, K.In h ∧ He.SaysD T.fa T.fn K) :
    PySem.W.WalkO q loose XP YP l.row.toRowW d [] (fun f vs => PySem.call f vs) := by
  refine L2.walk_ofE (l := l) (n := 63) (k := n + 1) (x := x) (CX := CXb l.prog) hn (by decide) hdf hr ?F ?C
  case C =>
    rintro H s e s' ⟨w, _, _, _, _, _, _, _, _, _, _, _, _, z⟩
    exact z
  intro w mg fa h Y G hmg
  obtain ⟨K, KX, c⟩ := hY w h Y
  have D : DefsIn K mg T := defsIn KX G c
  obtain ⟨f, fd, h1, F⟩ := D g lw hlw
  rw [hname] at hmg
  have e := hmg.symm.trans h1
  cases e
  have h3 := List.all_eq_true.mp hok (g, lw) (mem_lk hlw)
  obtain ⟨hs, hc⟩ := and2 h3
  refine ⟨K, fd, spW K (fun _ => 0) lw.np ((Gn T (n + 1)).call g), KX, fun s u => ?_, fun H a ns hl hO hS => ?_, fun base KXb Gb => ?_⟩
  · have := F.bindsA (ps := [x]) (by rw [← hps]; exact hb.at_ hlw) s [u] rfl
    exact this
  · have hnp : lw.np = 1 := by rw [← (DD.scope hs).2, hps]; rfl
    refine ⟨hnp.symm, fun _ => False, [.lst (ns.map Dt.int)], fun _ => none, .cons ?_ .nil, Hold.mk (fun a o z => nomatch (show (none : Option Mo) = some o from z)) (fun a z => False.elim z), ((Gn T (n + 1)).call g).mono (fun d' M' e => ?_) (fun z M' e => False.elim e) (law ns hl)⟩
    · rcases hS with h1 | h1
      · exact .lst rfl id h1 (RelDs.ints ns)
      · exact .lstK h1 (RelDs.ints ns)
    · subst e
      intro v H' r _ _
      cases r
      rfl
  · have E : EnvOk l.prog w K mg base (fun _ => 0) n T.tab (Gn T n) := env_all hok hb D (glsIn KX G c) (bisIn KX G c) n
    have R := fn_sound (base := base) F hs E hc
    have eg : (Gn T (n + 1)).call g = wfB (Gn T n) lw.N lw.np lw.body := by
      show (match T.defs.lookup g with | some d => wfB (Gn T n) d.N d.np d.body | none => botW) = _
      rw [hlw]
    rw [eg, ← hps]
    exact FnOk.any R
end Fm

/-! The engine, part M: running texts, the drawing defs that every law has. -/
namespace Fm
open PySem L2 PySem.Spec PyProof.Rows

theorem wpSs_cons {G : Gt} {s : Sm} {ss : Sms} {k : Kn} {ρ : Rho} {M : Mm} : wpSs G (.cons s ss) k ρ M = wpS G s ⟨wpSs G ss k, k.rt, k.bk, k.ct, k.xx⟩ ρ M := rfl
theorem wpSs_nil {G : Gt} {k : Kn} {ρ : Rho} {M : Mm} : wpSs G .nil k ρ M = k.nx ρ M := rfl
theorem wp_seq {G : Gt} {s : Sm} {ss : Sms} {k : Kn} {ρ : Rho} {M : Mm} (N : Rho → Mm → Prop) (h1 : wpS G s ⟨N, k.rt, k.bk, k.ct, k.xx⟩ ρ M) (h2 : ∀ ρ' M', N ρ' M' → wpSs G ss k ρ' M') : wpSs G (.cons s ss) k ρ M :=
  wpS_mono s (k := ⟨N, k.rt, k.bk, k.ct, k.xx⟩) (k' := ⟨wpSs G ss k, k.rt, k.bk, k.ct, k.xx⟩) ⟨h2, fun _ _ z => z, fun _ _ z => z, fun _ _ z => z, fun _ _ _ z => z⟩ h1
theorem atI_nat {α : Type} {xs : List α} {i : Nat} : atI xs (i : Int) = xs[i]? := by
  unfold atI ixN
  rw [if_pos (by omega)]
  by_cases h : i < xs.length
  · rw [if_pos (by omega)]; simp
  · rw [if_neg (by omega), List.getElem?_eq_none (by omega)]; rfl
theorem atI_0 {α : Type} {a : α} {xs : List α} : atI (a :: xs) 0 = some a := atI_nat (i := 0)
theorem atI_1 {α : Type} {a b : α} {xs : List α} : atI (a :: b :: xs) 1 = some b := atI_nat (i := 1)
theorem atI_2 {α : Type} {a b c : α} {xs : List α} : atI (a :: b :: c :: xs) 2 = some c := atI_nat (i := 2)
theorem atI_3 {α : Type} {a b c d : α} {xs : List α} : atI (a :: b :: c :: d :: xs) 3 = some d := atI_nat (i := 3)
theorem atI_4 {α : Type} {a b c d e : α} {xs : List α} : atI (a :: b :: c :: d :: e :: xs) 4 = some e := atI_nat (i := 4)
theorem ixN_nat {n i : Nat} (h : i < n) : ixN n (i : Int) = some i := by
  unfold ixN
  rw [if_pos (by omega), if_pos (by omega)]; rfl
theorem ixN_0 {n : Nat} : ixN (n + 1) 0 = some 0 := ixN_nat (n := n + 1) (i := 0) (by omega)
theorem ixN_1 : ixN 4 1 = some 1 := rfl
theorem ixN_2 : ixN 4 2 = some 2 := rfl
theorem ixN_3 : ixN 4 3 = some 3 := rfl
theorem ixN_4 : ixN 5 4 = some 4 := rfl
theorem mul_r {i j : Int} (h1 : -(2 ^ 64) < j) (h2 : j < 2 ^ 64) : mulOk i j := .inl (.inr ⟨h1, h2⟩)
theorem mul_l {i j : Int} (h1 : -(2 ^ 64) < i) (h2 : i < 2 ^ 64) : mulOk i j := .inl (.inl ⟨h1, h2⟩)
theorem log2_lt {j : Int} {n : Nat} (h1 : 0 < j) (h2 : j < 2 ^ n) : j.natAbs.log2 < n := by
  rw [Nat.log2_lt (by omega)]
  have h3 : ((2 ^ n : Nat) : Int) = 2 ^ n := by rw [Int.natCast_pow]; rfl
  omega
theorem div_ok {i j : Int} (h1 : 0 < j) (h2 : j < 2 ^ 200) : CDivW i j := ⟨h1, by have := log2_lt h1 h2; omega⟩
theorem div_lit {i j : Int} (h1 : 0 < j) (h2 : j < 2 ^ 64) : CDivW i j := ⟨h1, by have := log2_lt h1 h2; omega⟩

/-! ### what texts want, one way at a time -/
section
variable {G : Gt} {ρ : Rho} {M : Mm} {q : QD} {x : QX} {qL : QL} {qB : QB} {qO : Option Int → Mm → Prop} {qI : List Dt → (Mm → Prop) → Mm → Prop} {qR : QR} {K : Kn}
variable {a b c e : E} {es : Es} {t : T} {ts : Ts} {o p : CO} {i j : Nat} {g : Tg} {gs : Tgs} {d : Dt} {ds : List Dt} {k live : Bool} {lo hi : EO} {it : Ie} {own : List (Str × Nat)} {ss s2 : Sms}
theorem w_var : wpE G (.var i) ρ M q x = ∃ d, ρ[i]? = some (some d) ∧ q d M := rfl
theorem w_int {z : Int} : wpE G (.int z) ρ M q x = q (.int z) M := rfl
theorem w_str {z : Str} : wpE G (.str z) ρ M q x = q (.str z) M := rfl
theorem w_bl {z : Bool} : wpE G (.bl z) ρ M q x = q (.bl z) M := rfl
theorem w_non : wpE G .non ρ M q x = q .non M := rfl
theorem w_glob : wpE G (.glob i) ρ M q x = q (G.gval i) M := rfl
theorem w_bin {o : BO} : wpE G (.bin o a b) ρ M q x = wpE G a ρ M (fun u M1 => wpE G b ρ M1 (fun v M2 => binD o u v M2 q) x) x := rfl
theorem w_neg : wpE G (.neg a) ρ M q x = wpE G a ρ M (fun u M1 => ∃ i, u = .int i ∧ q (.int (-i)) M1) x := rfl
theorem w_cmp : wpE G (.cmp o a b) ρ M q x = wpE G a ρ M (fun u M1 => wpE G b ρ M1 (fun v M2 => ∃ k, cmpD o u v M2 = some k ∧ q (.bl k) M2) x) x := rfl
theorem w_cmp2 : wpE G (.cmp2 o p a b c) ρ M q x = wpE G a ρ M (fun u M1 => wpE G b ρ M1 (fun v M2 => ∃ k, cmpD o u v M2 = some k ∧
      if k = true then wpE G c ρ M2 (fun w M3 => ∃ k, cmpD p v w M3 = some k ∧ q (.bl k) M3) x else q (.bl false) M2) x) x := rfl
theorem w_bop : wpE G (.bop k es) ρ M q x = wpB G k es ρ M q x := rfl
theorem w_b1 : wpB G k (.cons e .nil) ρ M q x = wpE G e ρ M q x := rfl
theorem w_b2 {e2 : E} : wpB G k (.cons e (.cons e2 es)) ρ M q x = wpE G e ρ M (fun d M1 => ∃ b, d = .bl b ∧ if b = k then wpB G k (.cons e2 es) ρ M1 q x else q (.bl b) M1) x := rfl
theorem w_not : wpE G (.not_ a) ρ M q x = wpE G a ρ M (fun u M1 => ∃ k, u = .bl k ∧ q (.bl (!k)) M1) x := rfl
theorem w_ite : wpE G (.ite t a b) ρ M q x = wpT G t ρ M (fun k M1 => if k = true then wpE G a ρ M1 q x else wpE G b ρ M1 q x) x := rfl
theorem w_tup : wpE G (.tup es) ρ M q x = wpEs G es ρ M (fun ds M1 => ds.length ≤ sizeLine ∧ q (.tup ds) M1) x := rfl
theorem w_lst : wpE G (.lst live es) ρ M q x = wpEs G es ρ M (fun ds M1 => ds.length ≤ sizeLine ∧ newL live ds M1 q) x := rfl
theorem w_ix : wpE G (.ix a b) ρ M q x = wpE G a ρ M (fun u M1 => wpE G b ρ M1 (fun v M2 => ∃ d, ixD M2 u v = some d ∧ q d M2) x) x := rfl
theorem w_sl : wpE G (.sl a lo hi) ρ M q x = wpE G a ρ M (fun u M1 => wpO G lo ρ M1 (fun l M2 => wpO G hi ρ M2 (fun h M3 => ∃ ds, seqL M3 u = some ds ∧ q (.lst (cutD ds l h)) M3) x) x) x := rfl
theorem w_call : wpE G (.call i es) ρ M q x = wpEs G es ρ M (fun ds M1 => (G.call i).run ds M1 q x) x := rfl
theorem w_bi {f : BI} : wpE G (.bi f es) ρ M q x = wpEs G es ρ M (fun ds M1 => biD f ds M1 q) x := rfl
theorem w_mt {m : MI} : wpE G (.mt m a es) ρ M q x = wpE G a ρ M (fun u M1 => mtOk m M1 u = true ∧ wpEs G es ρ M1 (fun ds M2 => mtD m u ds M2 q) x) x := rfl
theorem w_isi {l : List TyR} : wpE G (.isi a l k) ρ M q x = wpE G a ρ M (fun u M1 => ∃ k, isiD M1 u l = some k ∧ q (.bl k) M1) x := rfl
theorem w_lc : wpE G (.lc live own g it ts e) ρ M q x = wpI G it ρ M (fun ds keep M1 => lcRun (fun d M2 k => keep M2 ∧ wpG G g d (wipeR ρ (own.map (·.2))) M2 (fun ρ3 M3 =>
      wpAll G ts ρ3 M3 (fun b M4 => if b = true then wpE G e ρ3 M4 (fun y M5 => k (some y) M5) (fun _ _ => False) else k none M4) (fun _ _ => False)) (fun _ _ => False)) ds [] M1
      (fun acc M2 => keep M2 ∧ newL live acc M2 q)) x := rfl
/-- a list made fast -/
def frzD (M1 : Mm) (q : QD) : Dt → Prop
  | .ref p => (match M1 p with
      | some (.lst ds) => q (.lst ds) (mset M1 p none)
      | _ => q (.ref p) M1)
  | u => q u M1
theorem frz_l : frzD M q (.lst ds) = q (.lst ds) M := rfl
theorem frz_r {p : Addr} (h : M p = some (.lst ds)) : frzD M q (.ref p) = q (.lst ds) (mset M p none) := by
  show (match M p with
      | some (.lst ds) => q (.lst ds) (mset M p none)
      | _ => q (.ref p) M) = _
  rw [h]
theorem frz_m {p : Addr} : frzD (mset M p (some (.lst ds))) q (.ref p) = q (.lst ds) (mset M p none) := by rw [frz_r mset_same, mset_mset]
theorem w_frz : wpE G (.frz a) ρ M q x = wpE G a ρ M (fun u M1 => frzD M1 q u) x := by
  have e : (fun (u : Dt) (M1 : Mm) => frzD M1 q u) = (fun u M1 => match u with
    | .ref p => (match M1 p with
      | some (.lst ds) => q (.lst ds) (mset M1 p none)
      | _ => q u M1)
    | u => q u M1) := by
    funext u M1
    cases u <;> rfl
  rw [e]; rfl
theorem w_es0 : wpEs G .nil ρ M qL x = qL [] M := rfl
theorem w_es1 : wpEs G (.cons e es) ρ M qL x = wpE G e ρ M (fun d M1 => wpEs G es ρ M1 (fun ds M2 => qL (d :: ds) M2) x) x := rfl
theorem w_o0 : wpO G .none ρ M qO x = qO none M := rfl
theorem w_o1 : wpO G (.some e) ρ M qO x = wpE G e ρ M (fun d M1 => ∃ i, d = .int i ∧ qO (some i) M1) x := rfl
theorem w_tval : wpT G (.val a) ρ M qB x = wpE G a ρ M (fun d M1 => ∃ b, truD M1 d = some b ∧ qB b M1) x := rfl
theorem w_tcmp : wpT G (.cmp o a b) ρ M qB x = wpE G a ρ M (fun u M1 => wpE G b ρ M1 (fun v M2 => ∃ k, cmpD o u v M2 = some k ∧ qB k M2) x) x := rfl
theorem w_tcmp2 : wpT G (.cmp2 o p a b c) ρ M qB x = wpE G a ρ M (fun u M1 => wpE G b ρ M1 (fun v M2 => ∃ k, cmpD o u v M2 = some k ∧
      if k = true then wpE G c ρ M2 (fun w M3 => ∃ k, cmpD p v w M3 = some k ∧ qB k M3) x else qB false M2) x) x := rfl
theorem w_tnot : wpT G (.not_ t) ρ M qB x = wpT G t ρ M (fun b M1 => qB (!b) M1) x := rfl
theorem w_tall : wpT G (.all ts) ρ M qB x = wpAll G ts ρ M qB x := rfl
theorem w_tany : wpT G (.any ts) ρ M qB x = wpAny' G ts ρ M qB x := rfl
theorem w_all0 : wpAll G .nil ρ M qB x = qB true M := rfl
theorem w_all1 : wpAll G (.cons t .nil) ρ M qB x = wpT G t ρ M (fun b M1 => if b = true then qB true M1 else qB false M1) x := rfl
theorem w_all2 {t2 : T} : wpAll G (.cons t (.cons t2 ts)) ρ M qB x = wpT G t ρ M (fun b M1 => if b = true then wpAll G (.cons t2 ts) ρ M1 qB x else qB false M1) x := rfl
theorem w_any0 : wpAny' G .nil ρ M qB x = qB false M := rfl
theorem w_any1 : wpAny' G (.cons t .nil) ρ M qB x = wpT G t ρ M (fun b M1 => if b = true then qB true M1 else qB false M1) x := rfl
theorem w_any2 {t2 : T} : wpAny' G (.cons t (.cons t2 ts)) ρ M qB x = wpT G t ρ M (fun b M1 => if b = true then qB true M1 else wpAny' G (.cons t2 ts) ρ M1 qB x) x := rfl
/-- what an iterator's data give -/
def itD (M1 : Mm) (qI : List Dt → (Mm → Prop) → Mm → Prop) : Dt → Prop
  | .tup ds => qI ds (fun _ => True) M1
  | .lst ds => qI ds (fun _ => True) M1
  | .ref p => (match M1 p with
      | some (.lst ds) => qI ds (fun M => M p = some (.lst ds)) M1
      | _ => False)
  | _ => False
theorem it_t : itD M qI (.tup ds) = qI ds (fun _ => True) M := rfl
theorem it_l : itD M qI (.lst ds) = qI ds (fun _ => True) M := rfl
theorem it_r {p : Addr} (h : M p = some (.lst ds)) : itD M qI (.ref p) = qI ds (fun M => M p = some (.lst ds)) M := by
  show (match M p with
    | some (.lst ds) => qI ds (fun (M : Mm) => M p = some (Mo.lst ds)) M
    | _ => False) = _
  rw [h]
theorem w_seq : wpI G (.seq a) ρ M qI x = wpE G a ρ M (fun d M1 => itD M1 qI d) x := by
  have e : (fun (d : Dt) (M1 : Mm) => itD M1 qI d) = (fun d M1 => match d with
    | .tup ds => qI ds (fun _ => True) M1
    | .lst ds => qI ds (fun _ => True) M1
    | .ref p => (match M1 p with
      | some (.lst ds) => qI ds (fun M => M p = some (.lst ds)) M1
      | _ => False)
    | _ => False) := by
    funext d M1
    cases d <;> rfl
  rw [e]; rfl
theorem w_rng1 : wpI G (.rng1 a) ρ M qI x = wpE G a ρ M (fun d M1 => ∃ j, d = .int j ∧ -(2 ^ 62) ≤ j ∧ j < 2 ^ 62 ∧ qI ((List.range j.toNat).map fun (k : Nat) => .int (k : Int)) (fun _ => True) M1) x := rfl
theorem w_rng2 : wpI G (.rng2 a b) ρ M qI x = wpE G a ρ M (fun d M1 => wpE G b ρ M1 (fun e M2 => ∃ i j, d = .int i ∧ e = .int j ∧ (-(2 ^ 62) ≤ i ∧ i < 2 ^ 62 ∧ -(2 ^ 62) ≤ j ∧ j < 2 ^ 62) ∧
      qI ((List.range (j - i).toNat).map fun (k : Nat) => .int (i + (k : Int))) (fun _ => True) M2) x) x := rfl
theorem w_gn : wpG G (.name i) d ρ M qR x = qR (ρ.set i (some d)) M := rfl
theorem w_gt : wpG G (.tup gs) (.tup ds) ρ M qR x = (ds.length = gs.len ∧ wpGs G gs ds ρ M qR (fun _ _ => False)) := by
  show (∃ es, some ds = some es ∧ es.length = gs.len ∧ wpGs G gs es ρ M qR (fun _ _ => False)) = _
  exact propext ⟨fun ⟨es, e, h⟩ => by cases e; exact h, fun h => ⟨ds, rfl, h⟩⟩
theorem w_gl : wpG G (.tup gs) (.lst ds) ρ M qR x = (ds.length = gs.len ∧ wpGs G gs ds ρ M qR (fun _ _ => False)) := by
  show (∃ es, some ds = some es ∧ es.length = gs.len ∧ wpGs G gs es ρ M qR (fun _ _ => False)) = _
  exact propext ⟨fun ⟨es, e, h⟩ => by cases e; exact h, fun h => ⟨ds, rfl, h⟩⟩
/-- what a store by index wants -/
def ixSt (d : Dt) (ρ : Rho) (q : QR) (M2 : Mm) (v : Dt) : Dt → Prop
  | .ref p => (match M2 p with
      | some (.lst ds) => ∃ i j, v = Dt.int i ∧ ixN ds.length i = some j ∧ q ρ (mset M2 p (some (.lst (ds.set j d))))
      | some (.dK kvs) => ∃ k, keyOf v = some k ∧ kvs.length < sizeLine ∧ q ρ (mset M2 p (some (.dK (putD kvs k d))))
      | _ => False)
  | _ => False
theorem ixSt_l {p : Addr} {n : Int} (h : M p = some (.lst ds)) : ixSt d ρ qR M (.int n) (.ref p) = ∃ j, ixN ds.length n = some j ∧ qR ρ (mset M p (some (.lst (ds.set j d)))) := by
  show (match M p with
      | some (.lst ds) => ∃ i j, Dt.int n = Dt.int i ∧ ixN ds.length i = some j ∧ qR ρ (mset M p (some (.lst (ds.set j d))))
      | some (.dK kvs) => ∃ k, keyOf (Dt.int n) = some k ∧ kvs.length < sizeLine ∧ qR ρ (mset M p (some (.dK (putD kvs k d))))
      | _ => False) = _
  rw [h]
  simp only [Dt.int.injEq]
  exact propext ⟨fun ⟨i, j, e, r⟩ => ⟨j, by rw [e]; exact r⟩, fun ⟨j, r⟩ => ⟨n, j, rfl, r⟩⟩
theorem ixSt_k {p : Addr} {v : Dt} {kvs : List (Key × Dt)} (h : M p = some (.dK kvs)) : ixSt d ρ qR M v (.ref p) = ∃ k, keyOf v = some k ∧ kvs.length < sizeLine ∧ qR ρ (mset M p (some (.dK (putD kvs k d)))) := by
  show (match M p with
      | some (.lst ds) => ∃ i j, v = Dt.int i ∧ ixN ds.length i = some j ∧ qR ρ (mset M p (some (.lst (ds.set j d))))
      | some (.dK kvs) => ∃ k, keyOf v = some k ∧ kvs.length < sizeLine ∧ qR ρ (mset M p (some (.dK (putD kvs k d))))
      | _ => False) = _
  rw [h]
theorem w_gi : wpG G (.ix a b) d ρ M qR x = wpE G a ρ M (fun u M1 => wpE G b ρ M1 (fun v M2 => ixSt d ρ qR M2 v u) x) x := by
  have e : (fun (u : Dt) (M1 : Mm) => wpE G b ρ M1 (fun v M2 => ixSt d ρ qR M2 v u) x) = (fun u M1 => wpE G b ρ M1 (fun v M2 => match u with
    | .ref p => (match M2 p with
      | some (.lst ds) => ∃ i j, v = Dt.int i ∧ ixN ds.length i = some j ∧ qR ρ (mset M2 p (some (.lst (ds.set j d))))
      | some (.dK kvs) => ∃ k, keyOf v = some k ∧ kvs.length < sizeLine ∧ qR ρ (mset M2 p (some (.dK (putD kvs k d))))
      | _ => False)
    | _ => False) x) := by
    funext u M1
    cases u <;> rfl
  rw [e]; rfl
theorem w_gs0 : wpGs G .nil ds ρ M qR x = (ds = [] ∧ qR ρ M) := rfl
theorem w_gs1 : wpGs G (.cons g gs) (d :: ds) ρ M qR x = wpG G g d ρ M (fun ρ1 M1 => wpGs G gs ds ρ1 M1 qR x) x := by
  show (∃ d' r, d :: ds = d' :: r ∧ wpG G g d' ρ M (fun ρ1 M1 => wpGs G gs r ρ1 M1 qR x) x) = _
  exact propext ⟨fun ⟨d', r, e, h⟩ => by cases e; exact h, fun h => ⟨d, ds, rfl, h⟩⟩
theorem s_asg : wpS G (.asg g e) K ρ M = wpE G e ρ M (fun d M1 => wpG G g d ρ M1 K.nx fun z M' => K.xx z ρ M') fun z M' => K.xx z ρ M' := rfl
theorem s_asgC : wpS G (.asgC i e) K ρ M = wpE G e ρ M (fun d M1 => K.nx (ρ.set i (some d)) M1) fun z M' => K.xx z ρ M' := rfl
theorem s_par : wpS G (.par i j a b) K ρ M = wpE G a ρ M (fun u M1 => wpE G b ρ M1 (fun v M2 => K.nx ((ρ.set i (some u)).set j (some v)) M2) fun z M' => K.xx z ρ M') fun z M' => K.xx z ρ M' := rfl
theorem s_aug {o : BO} : wpS G (.aug i o e) K ρ M = ∃ u, ρ[i]? = some (some u) ∧ wpE G e ρ M (fun v M1 => binD o u v M1 fun w M2 => K.nx (ρ.set i (some w)) M2) fun z M' => K.xx z ρ M' := rfl
theorem s_expr : wpS G (.expr e) K ρ M = wpE G e ρ M (fun _ M1 => K.nx ρ M1) fun z M' => K.xx z ρ M' := rfl
theorem s_if : wpS G (.if_ t ss s2) K ρ M = wpT G t ρ M (fun b M1 => if b = true then wpSs G ss K ρ M1 else wpSs G s2 K ρ M1) fun z M' => K.xx z ρ M' := rfl
theorem s_for : wpS G (.for_ g it ss) K ρ M = wpI G it ρ M (fun ds keep M1 => forRun keep (fun d ρ2 M2 n => wpG G g d ρ2 M2 (fun ρ3 M3 => wpSs G ss ⟨n, K.rt, K.nx, n, K.xx⟩ ρ3 M3) fun z M' => K.xx z ρ2 M') ds ρ M1 K.nx) fun z M' => K.xx z ρ M' := rfl
theorem s_while : wpS G (.while_ t ss) K ρ M = ∃ n, whRun (fun n ρ M => wpT G t ρ M (fun b M1 => if b = true then wpSs G ss ⟨n, K.rt, K.nx, n, K.xx⟩ ρ M1 else K.nx ρ M1) fun z M' => K.xx z ρ M') n ρ M := rfl
theorem s_ret : wpS G (.ret e) K ρ M = wpE G e ρ M K.rt fun z M' => K.xx z ρ M' := rfl
theorem s_retN : wpS G .retN K ρ M = K.rt .non M := rfl
theorem s_brk : wpS G .brk K ρ M = K.bk ρ M := rfl
theorem s_cont : wpS G .cont K ρ M = K.ct ρ M := rfl
theorem s_pass : wpS G .pass K ρ M = K.nx ρ M := rfl
theorem s_nil : wpSs G .nil K ρ M = K.nx ρ M := rfl
end

/-! ### what operations give, one way at a time -/
section
variable {M : Mm} {q : QD} {i j : Int} {s t : Str} {a : Addr} {ds : List Dt} {d d2 : Dt} {b c : Bool}
theorem bin_add : binD .add (.int i) (.int j) M q = q (.int (i + j)) M := rfl
theorem bin_adds : binD .add (.str s) (.str t) M q = (s.length + t.length ≤ sizeLine ∧ q (.str (s ++ t)) M) := rfl
theorem bin_sub : binD .sub (.int i) (.int j) M q = q (.int (i - j)) M := rfl
theorem bin_mul : binD .mul (.int i) (.int j) M q = (mulOk i j ∧ q (.int (i * j)) M) := rfl
theorem bin_fdiv : binD .fdiv (.int i) (.int j) M q = (CDivW i j ∧ q (.int (i / j)) M) := rfl
theorem bin_mod : binD .mod (.int i) (.int j) M q = (0 < j ∧ q (.int (i % j)) M) := rfl
theorem bin_pow : binD .pow (.int i) (.int j) M q = (CPow i j ∧ q (.int (i ^ j.toNat)) M) := rfl
theorem bin_xor : binD .xor (.int i) (.int j) M q = q (.int (Builtin.bitXor i j)) M := rfl
theorem cmp_lt : cmpD .lt (.int i) (.int j) M = some (decide (i < j)) := rfl
theorem cmp_le : cmpD .le (.int i) (.int j) M = some (decide (i ≤ j)) := rfl
theorem cmp_gt : cmpD .gt (.int i) (.int j) M = some (decide (j < i)) := rfl
theorem cmp_ge : cmpD .ge (.int i) (.int j) M = some (decide (j ≤ i)) := rfl
theorem cmp_eqi : cmpD .eq (.int i) (.int j) M = some (decide (i = j)) := rfl
theorem cmp_eqs : cmpD .eq (.str s) (.str t) M = some (decide (s = t)) := rfl
theorem cmp_eqb : cmpD .eq (.bl b) (.bl c) M = some (decide (b = c)) := rfl
theorem cmp_nei : cmpD .ne (.int i) (.int j) M = some (!decide (i = j)) := rfl
theorem cmp_nes : cmpD .ne (.str s) (.str t) M = some (!decide (s = t)) := rfl
theorem cmp_neb : cmpD .ne (.bl b) (.bl c) M = some (!decide (b = c)) := rfl
theorem cmp_is0 : cmpD .is_ .non .non M = some true := rfl
theorem cmp_is1 : cmpD .is_ (.int i) .non M = some false := rfl
theorem cmp_is2 : cmpD .is_ (.tup ds) .non M = some false := rfl
theorem cmp_is3 : cmpD .is_ (.lst ds) .non M = some false := rfl
theorem cmp_is4 : cmpD .is_ (.ref a) .non M = some false := rfl
theorem cmp_is5 : cmpD .is_ (.str s) .non M = some false := rfl
theorem cmp_is6 : cmpD .is_ (.bl b) .non M = some false := rfl
theorem cmp_isn0 : cmpD .isnot .non .non M = some false := rfl
theorem cmp_isn1 : cmpD .isnot (.int i) .non M = some true := rfl
theorem cmp_isn2 : cmpD .isnot (.tup ds) .non M = some true := rfl
theorem cmp_isn3 : cmpD .isnot (.lst ds) .non M = some true := rfl
theorem cmp_isn4 : cmpD .isnot (.ref a) .non M = some true := rfl
theorem cmp_isn5 : cmpD .isnot (.str s) .non M = some true := rfl
theorem cmp_in : cmpD .in_ d d2 M = inD M d d2 := by cases d <;> cases d2 <;> rfl
theorem cmp_notin : cmpD .notin d d2 M = (inD M d d2).map (!·) := by cases d <;> cases d2 <;> rfl
theorem bi_lens : biD .len [.str s] M q = (s.length ≤ sizeLine ∧ q (.int s.length) M) := rfl
theorem bi_lent : biD .len [.tup ds] M q = q (.int ds.length) M := rfl
theorem bi_lenl : biD .len [.lst ds] M q = q (.int ds.length) M := rfl
theorem bi_lenr (h : M a = some (.lst ds)) : biD .len [.ref a] M q = q (.int ds.length) M := by
  show (match M a with
    | some (.lst ds) => q (.int ds.length) M
    | some (.dK ds) => q (.int ds.length) M
    | _ => False) = _
  rw [h]
theorem bi_min : biD .min2 [.int i, .int j] M q = q (.int (min i j)) M := by
  show q (.int (if j < i then j else i)) M = _
  have : (if j < i then j else i) = min i j := by split <;> omega
  rw [this]
theorem bi_max : biD .max2 [.int i, .int j] M q = q (.int (max i j)) M := by
  show q (.int (if j > i then j else i)) M = _
  have : (if j > i then j else i) = max i j := by split <;> omega
  rw [this]
theorem bi_abs : biD .abs [.int i] M q = q (.int (if i < 0 then -i else i)) M := rfl
theorem bi_listT {l : Bool} : biD (.listOf l) [.tup ds] M q = newL l ds M q := rfl
theorem bi_listL {l : Bool} : biD (.listOf l) [.lst ds] M q = ∃ es, some ds = some es ∧ newL l es M q := rfl
theorem bi_tupT : biD .tupOf [.tup ds] M q = q (.tup ds) M := rfl
theorem bi_tupL : biD .tupOf [.lst ds] M q = ∃ es, some ds = some es ∧ q (.tup es) M := rfl
theorem bi_maxL : biD .maxL [d] M q = ∃ ns : List Int, itemsD M d = some (ns.map .int) ∧ 0 < ns.length ∧ ∀ m, m ∈ ns → (∀ y, y ∈ ns → y ≤ m) → q (.int m) M := by cases d <;> rfl
theorem bi_minL : biD .minL [d] M q = ∃ ns : List Int, itemsD M d = some (ns.map .int) ∧ 0 < ns.length ∧ ∀ m, m ∈ ns → (∀ y, y ∈ ns → m ≤ y) → q (.int m) M := by cases d <;> rfl
theorem bi_sumL : biD .sumL [d] M q = ∃ ns : List Int, seqL M d = some (ns.map .int) ∧ q (.int ns.sum) M := by cases d <;> rfl
theorem bi_anyL : biD .anyL [d] M q = ∃ bs : List Bool, seqL M d = some (bs.map .bl) ∧ q (.bl (bs.any id)) M := by cases d <;> rfl
theorem bi_allL : biD .allL [d] M q = ∃ bs : List Bool, seqL M d = some (bs.map .bl) ∧ q (.bl (bs.all id)) M := by cases d <;> rfl
theorem bi_sorted {l : Bool} : biD (.sorted l) [d] M q = ∃ ds : List Dt, seqL M d = some ds ∧ (∀ d, d ∈ ds → (pyD d).isSome = true ∧ (enD d).depth ≤ 60) ∧ PySem.W.AllAlike (ds.map enD) ∧ PySem.W.Sortable (ds.map enD) ∧ newL l (ds.mergeSort (PySem.W.dataLe false enD)) M q := by cases d <;> rfl
theorem seqL_l : seqL M (.lst ds) = some ds := rfl
theorem items_l : itemsD M (.lst ds) = some ds := rfl
theorem items_t : itemsD M (.tup ds) = some ds := rfl
theorem seqL_r (h : M a = some (.lst ds)) : seqL M (.ref a) = some ds := by
  show (match M a with
    | some (.lst ds) => some ds
    | _ => none) = _
  rw [h]
theorem new_f : newL false ds M q = q (.lst ds) M := rfl
theorem new_t : newL true ds M q = ∀ p, M p = none → q (.ref p) (mset M p (some (.lst ds))) := rfl
theorem mt_app (h : M a = some (.lst ds)) : mtD .append (.ref a) [d] M q = (ds.length < sizeLine ∧ q .non (mset M a (some (.lst (ds ++ [d]))))) := by
  show (match M a with
    | some (.lst xs) => xs.length < sizeLine ∧ q .non (mset M a (some (.lst (xs ++ [d]))))
    | _ => False) = _
  rw [h]
theorem mt_pop (h : M a = some (.lst ds)) : mtD .pop (.ref a) [] M q = ∃ d, ds[ds.length - 1]? = some d ∧ q d (mset M a (some (.lst ds.dropLast))) := by
  show (match M a with
    | some (.lst xs) => ∃ d, xs[xs.length - 1]? = some d ∧ q d (mset M a (some (.lst xs.dropLast)))
    | _ => False) = _
  rw [h]
theorem mtOk_app (h : M a = some (.lst ds)) : mtOk .append M (.ref a) = true := by
  show mtOkMo .append (M a) = true
  rw [h]; rfl
theorem mtOk_pop (h : M a = some (.lst ds)) : mtOk .pop M (.ref a) = true := by
  show mtOkMo .pop (M a) = true
  rw [h]; rfl
theorem ix_t : ixD M (.tup ds) (.int i) = atI ds i := rfl
theorem ix_l : ixD M (.lst ds) (.int i) = atI ds i := rfl
theorem ix_r (h : M a = some (.lst ds)) : ixD M (.ref a) (.int i) = atI ds i := by
  show ixMo (M a) (.int i) = _
  rw [h]; rfl
theorem tru_b : truD M (.bl b) = some b := rfl
theorem tru_n : truD M .non = some false := rfl
theorem tru_i : truD M (.int i) = some (i != 0) := rfl
theorem tru_l : truD M (.lst ds) = some (!ds.isEmpty) := rfl
theorem tru_t : truD M (.tup ds) = some (!ds.isEmpty) := rfl
theorem tru_r (h : M a = some (.lst ds)) : truD M (.ref a) = some (!ds.isEmpty) := by
  show truMo (M a) = _
  rw [h]; rfl
theorem isi_b : isiD M (.bl b) [.ty "bool"] = some true := rfl
theorem isi_bi : isiD M (.bl b) [.ty "int"] = some true := rfl
theorem isi_ii : isiD M (.int i) [.ty "int"] = some true := rfl
theorem isi_ib : isiD M (.int i) [.ty "bool"] = some false := rfl
theorem isi_is : isiD M (.int i) [.ty "str"] = some false := rfl
theorem isi_it : isiD M (.int i) [.ty "tuple"] = some false := rfl
theorem isi_il : isiD M (.int i) [.ty "list"] = some false := rfl
theorem isi_sb : isiD M (.str s) [.ty "bool"] = some false := rfl
theorem isi_si : isiD M (.str s) [.ty "int"] = some false := rfl
theorem isi_ss : isiD M (.str s) [.ty "str"] = some true := rfl
theorem isi_tb : isiD M (.tup ds) [.ty "bool"] = some false := rfl
theorem isi_ti : isiD M (.tup ds) [.ty "int"] = some false := rfl
theorem isi_ts : isiD M (.tup ds) [.ty "str"] = some false := rfl
theorem isi_tt : isiD M (.tup ds) [.ty "tuple"] = some true := rfl
theorem isi_tl : isiD M (.tup ds) [.ty "list"] = some false := rfl
theorem isi_lb : isiD M (.lst ds) [.ty "bool"] = some false := rfl
theorem isi_li : isiD M (.lst ds) [.ty "int"] = some false := rfl
theorem isi_ls : isiD M (.lst ds) [.ty "str"] = some false := rfl
theorem isi_lt : isiD M (.lst ds) [.ty "tuple"] = some false := rfl
theorem isi_ll : isiD M (.lst ds) [.ty "list"] = some true := rfl
theorem isi_nb : isiD M .non [.ty "bool"] = some false := rfl
theorem isi_ni : isiD M .non [.ty "int"] = some false := rfl
theorem isi_ns : isiD M .non [.ty "str"] = some false := rfl
theorem isi_nt : isiD M .non [.ty "tuple"] = some false := rfl
theorem isi_nl : isiD M .non [.ty "list"] = some false := rfl
end

section
variable {M : Mm} {q : QD} {qI : List Dt → (Mm → Prop) → Mm → Prop} {qR : QR} {ρ : Rho} {i : Int} {a : Addr} {ds : List Dt} {d v : Dt}
theorem ix_m : ixD (mset M a (some (.lst ds))) (.ref a) (.int i) = atI ds i := ix_r mset_same
theorem tru_m : truD (mset M a (some (.lst ds))) (.ref a) = some (!ds.isEmpty) := tru_r mset_same
theorem bi_lenm : biD .len [.ref a] (mset M a (some (.lst ds))) q = q (.int ds.length) (mset M a (some (.lst ds))) := bi_lenr mset_same
theorem items_m : itemsD (mset M a (some (.lst ds))) (.ref a) = some ds := seqL_r mset_same
theorem seqL_m : seqL (mset M a (some (.lst ds))) (.ref a) = some ds := seqL_r mset_same
theorem mt_appm : mtD .append (.ref a) [d] (mset M a (some (.lst ds))) q = (ds.length < sizeLine ∧ q .non (mset M a (some (.lst (ds ++ [d]))))) := by rw [mt_app mset_same, mset_mset]
theorem mt_popm : mtD .pop (.ref a) [] (mset M a (some (.lst ds))) q = ∃ d, ds[ds.length - 1]? = some d ∧ q d (mset M a (some (.lst ds.dropLast))) := by rw [mt_pop mset_same, mset_mset]
theorem mtOk_appm : mtOk .append (mset M a (some (.lst ds))) (.ref a) = true := mtOk_app mset_same
theorem mtOk_popm : mtOk .pop (mset M a (some (.lst ds))) (.ref a) = true := mtOk_pop mset_same
theorem it_m : itD (mset M a (some (.lst ds))) qI (.ref a) = qI ds (fun M' => M' a = some (.lst ds)) (mset M a (some (.lst ds))) := it_r mset_same
theorem ixSt_m {n : Int} : ixSt d ρ qR (mset M a (some (.lst ds))) (.int n) (.ref a) = ∃ j, ixN ds.length n = some j ∧ qR ρ (mset M a (some (.lst (ds.set j d)))) := by
  rw [ixSt_l mset_same]
  simp only [mset_mset]
end

theorem cpow_10 {n : Int} : CPow 10 n = (0 ≤ n ∧ n ≤ 1000000) := propext ⟨fun h => ⟨h.1, h.2.1⟩, fun h => ⟨h.1, h.2, by decide⟩⟩
theorem cpow_2 {n : Int} : CPow 2 n = (0 ≤ n ∧ n ≤ 1000000) := propext ⟨fun h => ⟨h.1, h.2.1⟩, fun h => ⟨h.1, h.2, by decide⟩⟩
theorem emod_lt {a b : Int} (h : 0 < b) : 0 ≤ a % b ∧ a % b < b := ⟨Int.emod_nonneg _ (by omega), Int.emod_lt_of_pos _ h⟩
/-- what a draw holds -/
structure Drw where
  cs : List Int
  i : Int
  c : Int
  s : Int
def Drw.o (d : Drw) : Mo := .lst [.lst (d.cs.map .int), .int d.i, .int d.c, .int d.s]
structure Drw.Ok (d : Drw) : Prop where
  i0 : 0 ≤ d.i
  c0 : 0 ≤ d.c
  s0 : 0 ≤ d.s
  s1 : d.s < 2147483629

def b__law_pull_15 : Sms := .cons (.ret (.bin .mod (.bin .add (.bin .fdiv (.bin .pow (.ix (.var 0) (.int 3)) (.int 3)) (.int 17)) (.ix (.var 0) (.int 3))) (.var 1))) .nil
def b__law_pull_14 : Sms := .cons (.ret (.bin .mod (.bin .add (.bin .fdiv (.ix (.var 0) (.int 3)) (.int 61)) (.bin .mul (.bin .mod (.ix (.var 0) (.int 3)) (.int 6151)) (.int 29))) (.var 1))) .nil
def b__law_pull_13 : Sms := .cons (.if_ (.cmp .lt (.var 1) (.bin .pow (.int 10) (.int 8))) (b__law_pull_14) (.nil)) b__law_pull_15
def b__law_pull_12 : Sms := .cons (.asg (.ix (.var 0) (.int 3)) (.bin .mod (.bin .add (.bin .add (.bin .mul (.bin .mod (.bin .mul (.var 4) (.var 4)) (.int 2147483647)) (.int 3)) (.bin .mul (.var 4) (.int 45991))) (.int 746773)) (.int 2147483629))) b__law_pull_13
def b__law_pull_11 : Sms := .cons (.asg (.name 4) (.ix (.var 0) (.int 3))) b__law_pull_12
def b__law_pull_10 : Sms := .cons (.ret (.var 3)) .nil
def b__law_pull_9 : Sms := .cons (.asg (.ix (.var 0) (.int 2)) (.bin .fdiv (.ix (.var 0) (.int 2)) (.var 1))) b__law_pull_10
def b__law_pull_8 : Sms := .cons (.asg (.name 3) (.bin .mod (.ix (.var 0) (.int 2)) (.var 1))) b__law_pull_9
def b__law_pull_7 : Sms := .cons (.if_ (.cmp .ge (.ix (.var 0) (.int 2)) (.var 1)) (b__law_pull_8) (.nil)) b__law_pull_11
def b__law_pull_6 : Sms := .cons (.asg (.ix (.var 0) (.int 3)) (.bin .mod (.bin .add (.bin .add (.bin .mul (.ix (.var 0) (.int 3)) (.int 39373)) (.bin .mul (.bin .mod (.var 2) (.int 2147483647)) (.int 48271))) (.int 31)) (.int 2147483629))) .nil
def b__law_pull_5 : Sms := .cons (.asg (.ix (.var 0) (.int 2)) (.var 2)) .nil
def b__law_pull_4 : Sms := .cons (.if_ (.cmp .ge (.var 2) (.bin .pow (.int 10) (.int 18))) (b__law_pull_5) (b__law_pull_6)) .nil
def b__law_pull_3 : Sms := .cons (.asg (.ix (.var 0) (.int 2)) (.int 0)) b__law_pull_4
def b__law_pull_2 : Sms := .cons (.asg (.ix (.var 0) (.int 1)) (.bin .add (.ix (.var 0) (.int 1)) (.int 1))) b__law_pull_3
def b__law_pull_1 : Sms := .cons (.asg (.name 2) (.ix (.ix (.var 0) (.int 0)) (.ix (.var 0) (.int 1)))) b__law_pull_2
def b__law_pull_0 : Sms := .cons (.if_ (.all (.cons (.cmp .lt (.ix (.var 0) (.int 2)) (.var 1)) (.cons (.cmp .lt (.ix (.var 0) (.int 1)) (.bi (.len) (.cons (.ix (.var 0) (.int 0)) (.nil)))) (.nil)))) (b__law_pull_1) (.nil)) b__law_pull_7
abbrev b__law_pull : Sms := b__law_pull_0
abbrev n__law_pull : List Str := ["_law_draw", "_law_cap", "_law_cell", "_law_got", "_law_seed"]
def b__law_open_3 : Sms := .cons (.ret (.lst true (.cons (.bi (.listOf false) (.cons (.sl (.var 0) (.none) (.some (.int 63))) (.nil))) (.cons (.int 0) (.cons (.int 0) (.cons (.var 1) (.nil))))))) .nil
def b__law_open_2 : Sms := .cons (.asg (.name 1) (.bin .mod (.bin .add (.bin .add (.bin .mul (.var 1) (.int 69621)) (.bin .mod (.var 2) (.int 2147483587))) (.int 11)) (.int 2147483629))) .nil
def b__law_open_1 : Sms := .cons (.for_ (.name 2) (.seq (.sl (.var 0) (.none) (.some (.int 63)))) (b__law_open_2)) b__law_open_3
def b__law_open_0 : Sms := .cons (.asg (.name 1) (.int 9134)) b__law_open_1
abbrev b__law_open : Sms := b__law_open_0
abbrev n__law_open : List Str := ["_law_script", "_law_seed", "_law_cell"]
def b__law_like_12 : Sms := .cons (.ret (.bi (.allL) (.cons (.lc false [("_law_j", 2)] (.name 2) (.rng1 (.bi (.len) (.cons (.var 1) (.nil)))) (.nil) (.call 53 (.cons (.ix (.var 0) (.var 2)) (.cons (.ix (.var 1) (.var 2)) (.nil))))) (.nil)))) .nil
def b__law_like_11 : Sms := .cons (.ret (.bl false)) .nil
def b__law_like_10 : Sms := .cons (.if_ (.cmp .ne (.bi (.len) (.cons (.var 0) (.nil))) (.bi (.len) (.cons (.var 1) (.nil)))) (b__law_like_11) (.nil)) b__law_like_12
def b__law_like_9 : Sms := .cons (.ret (.bl false)) .nil
def b__law_like_8 : Sms := .cons (.if_ (.any (.cons (.cmp .ne (.isi (.var 1) [.ty "tuple"] false) (.isi (.var 0) [.ty "tuple"] false)) (.cons (.cmp .ne (.isi (.var 1) [.ty "list"] false) (.isi (.var 0) [.ty "list"] false)) (.nil)))) (b__law_like_9) (.nil)) b__law_like_10
def b__law_like_7 : Sms := .cons (.ret (.bop true (.cons (.isi (.var 0) [.ty "str"] false) (.cons (.cmp .eq (.var 0) (.var 1)) (.nil))))) .nil
def b__law_like_6 : Sms := .cons (.if_ (.val (.isi (.var 1) [.ty "str"] false)) (b__law_like_7) (.nil)) b__law_like_8
def b__law_like_5 : Sms := .cons (.ret (.bop true (.cons (.isi (.var 0) [.ty "int"] false) (.cons (.not_ (.isi (.var 0) [.ty "bool"] false)) (.cons (.cmp .eq (.var 0) (.var 1)) (.nil)))))) .nil
def b__law_like_4 : Sms := .cons (.if_ (.val (.isi (.var 1) [.ty "int"] false)) (b__law_like_5) (.nil)) b__law_like_6
def b__law_like_3 : Sms := .cons (.ret (.bop true (.cons (.isi (.var 0) [.ty "bool"] false) (.cons (.cmp .eq (.var 0) (.var 1)) (.nil))))) .nil
def b__law_like_2 : Sms := .cons (.if_ (.val (.isi (.var 1) [.ty "bool"] false)) (b__law_like_3) (.nil)) b__law_like_4
def b__law_like_1 : Sms := .cons (.ret (.cmp .is_ (.var 0) (.non))) .nil
def b__law_like_0 : Sms := .cons (.if_ (.cmp .is_ (.var 1) (.non)) (b__law_like_1) (.nil)) b__law_like_2
abbrev b__law_like : Sms := b__law_like_0
abbrev n__law_like : List Str := ["_law_found", "_law_due", "_law_j"]
def b_common_2 : Sms := .cons (.ret (.var 0)) .nil
def b_common_1 : Sms := .cons (.par 0 1 (.var 1) (.bin .mod (.var 0) (.var 1))) .nil
def b_common_0 : Sms := .cons (.while_ (.cmp .gt (.var 1) (.int 0)) (b_common_1)) b_common_2
abbrev b_common : Sms := b_common_0
abbrev n_common : List Str := ["one", "other"]
def PullOk (W : Wf) : Prop := ∀ (p : Addr) (cap : Int) (d : Drw) M q x, M p = some d.o → d.Ok → 0 < cap → cap < 2 ^ 200 → (∀ r (d' : Drw), d'.Ok → 0 ≤ r → r < cap → q (.int r) (mset M p (some d'.o))) → W.run [.ref p, .int cap] M q x
def pullMid (p : Addr) (cap : Int) (M : Mm) : Rho → Mm → Prop := fun ρ' M' => ∃ (d' : Drw) (o : Option Dt), d'.Ok ∧ ρ' = [some (.ref p), some (.int cap), o, none, none] ∧ M' = mset M p (some d'.o)
theorem pull_ok (G : Gt) : PullOk (wfB G n__law_pull 2 b__law_pull) := by
  intro p cap d M q x hM hd hc hc2 h
  refine ⟨rfl, ?_⟩
  have e0 : startR n__law_pull [.ref p, .int cap] = [some (.ref p), some (.int cap), none, none, none] := rfl
  rw [e0]
  generalize hk : bodyK q x = k
  unfold b__law_pull b__law_pull_0
  refine @wp_seq G _ _ k _ M (pullMid p cap M) ?_ ?_
  · obtain ⟨cs, i, c, s⟩ := d
    obtain ⟨i0, c0, s0, s1⟩ := hd
    simp only [Drw.o] at hM
    simp only [Int.reduceNeg, Int.reduceAdd, Int.reduceSub, Int.reduceMul, cpow_10, cpow_2, Int.reduceLE, Int.reduceLT, Int.reduceToNat, Int.reducePow, mset_same, mset_mset, Tgs.len, List.getElem?_cons_zero, List.getElem?_cons_succ, List.set_cons_zero, List.set_cons_succ, List.getElem?_nil, Option.some.injEq, exists_eq_left', exists_eq_left, true_and, and_true, if_true, if_false, Bool.false_eq_true, reduceCtorEq, Dt.int.injEq, Dt.bl.injEq, Dt.str.injEq, Dt.lst.injEq, Dt.tup.injEq, Dt.ref.injEq, decide_eq_true_eq, List.length_cons, List.length_nil, Nat.zero_add, Nat.reduceAdd, Option.map_some, Bool.not_true, Bool.not_false, atI_0, atI_1, atI_2, atI_3, atI_4, ixN_0, ixN_1, ixN_2, ixN_3, ixN_4, w_var, w_int, w_str, w_bl, w_non, w_glob, w_bin, w_neg, w_cmp, w_cmp2, w_bop, w_b1, w_b2, w_not, w_ite, w_tup, w_lst, w_ix, w_sl, w_call, w_bi, w_mt, w_isi, w_lc, w_frz, w_es0, w_es1, w_o0, w_o1, w_tval, w_tcmp, w_tcmp2, w_tnot, w_tall, w_tany, w_all0, w_all1, w_all2, w_any0, w_any1, w_any2, it_t, it_l, w_seq, w_rng1, w_rng2, w_gn, w_gt, w_gi, w_gs0, w_gs1, s_asg, s_asgC, s_par, s_aug, s_expr, s_if, s_for, s_while, s_ret, s_retN, s_brk, s_cont, s_pass, s_nil, frz_l, frz_m, bin_add, bin_adds, bin_sub, bin_mul, bin_fdiv, bin_mod, bin_pow, bin_xor, cmp_lt, cmp_le, cmp_gt, cmp_ge, cmp_eqi, cmp_eqs, cmp_eqb, cmp_nei, cmp_nes, cmp_neb, cmp_is0, cmp_is1, cmp_is2, cmp_is3, cmp_is4, cmp_is5, cmp_is6, cmp_isn0, cmp_isn1, cmp_isn2, cmp_isn3, cmp_isn4, cmp_isn5, cmp_in, cmp_notin, bi_lens, bi_lent, bi_lenl, bi_min, bi_max, bi_abs, bi_listT, bi_listL, bi_tupT, bi_tupL, bi_maxL, bi_minL, bi_sumL, bi_anyL, bi_allL, bi_sorted, seqL_l, items_l, items_t, items_m, w_gl, new_f, new_t, ix_t, ix_l, tru_b, tru_n, tru_i, tru_l, tru_t, isi_b, isi_bi, isi_ii, isi_ib, isi_is, isi_it, isi_il, isi_sb, isi_si, isi_ss, isi_tb, isi_ti, isi_ts, isi_tt, isi_tl, isi_lb, isi_li, isi_ls, isi_lt, isi_ll, isi_nb, isi_ni, isi_ns, isi_nt, isi_nl, ix_m, tru_m, bi_lenm, seqL_m, mt_appm, mt_popm, mtOk_appm, mtOk_popm, it_m, ixSt_m, ix_r hM, bi_lenr hM]
    have stay : pullMid p cap M [some (.ref p), some (.int cap), none, none, none] M := ⟨⟨cs, i, c, s⟩, none, ⟨i0, c0, s0, s1⟩, rfl, (mset_self hM).symm⟩
    split
    · split
      · rename_i h1 h2
        simp only [List.length_map] at h2
        obtain ⟨n, rfl⟩ : ∃ n : Nat, i = n := ⟨i.toNat, by have : 0 ≤ i := i0; omega⟩
        obtain ⟨v, hv⟩ : ∃ v, cs[n]? = some v := ⟨_, List.getElem?_eq_getElem (by omega)⟩
        have hv' : atI (cs.map Dt.int) (n : Int) = some (.int v) := by rw [atI_nat, List.getElem?_map, hv]; rfl
        unfold b__law_pull_1
        rw [wpSs_cons]
        simp only [Int.reduceNeg, Int.reduceAdd, Int.reduceSub, Int.reduceMul, cpow_10, cpow_2, Int.reduceLE, Int.reduceLT, Int.reduceToNat, Int.reducePow, mset_same, mset_mset, Tgs.len, List.getElem?_cons_zero, List.getElem?_cons_succ, List.set_cons_zero, List.set_cons_succ, List.getElem?_nil, Option.some.injEq, exists_eq_left', exists_eq_left, true_and, and_true, if_true, if_false, Bool.false_eq_true, reduceCtorEq, Dt.int.injEq, Dt.bl.injEq, Dt.str.injEq, Dt.lst.injEq, Dt.tup.injEq, Dt.ref.injEq, decide_eq_true_eq, List.length_cons, List.length_nil, Nat.zero_add, Nat.reduceAdd, Option.map_some, Bool.not_true, Bool.not_false, atI_0, atI_1, atI_2, atI_3, atI_4, ixN_0, ixN_1, ixN_2, ixN_3, ixN_4, w_var, w_int, w_str, w_bl, w_non, w_glob, w_bin, w_neg, w_cmp, w_cmp2, w_bop, w_b1, w_b2, w_not, w_ite, w_tup, w_lst, w_ix, w_sl, w_call, w_bi, w_mt, w_isi, w_lc, w_frz, w_es0, w_es1, w_o0, w_o1, w_tval, w_tcmp, w_tcmp2, w_tnot, w_tall, w_tany, w_all0, w_all1, w_all2, w_any0, w_any1, w_any2, it_t, it_l, w_seq, w_rng1, w_rng2, w_gn, w_gt, w_gi, w_gs0, w_gs1, s_asg, s_asgC, s_par, s_aug, s_expr, s_if, s_for, s_while, s_ret, s_retN, s_brk, s_cont, s_pass, s_nil, frz_l, frz_m, bin_add, bin_adds, bin_sub, bin_mul, bin_fdiv, bin_mod, bin_pow, bin_xor, cmp_lt, cmp_le, cmp_gt, cmp_ge, cmp_eqi, cmp_eqs, cmp_eqb, cmp_nei, cmp_nes, cmp_neb, cmp_is0, cmp_is1, cmp_is2, cmp_is3, cmp_is4, cmp_is5, cmp_is6, cmp_isn0, cmp_isn1, cmp_isn2, cmp_isn3, cmp_isn4, cmp_isn5, cmp_in, cmp_notin, bi_lens, bi_lent, bi_lenl, bi_min, bi_max, bi_abs, bi_listT, bi_listL, bi_tupT, bi_tupL, bi_maxL, bi_minL, bi_sumL, bi_anyL, bi_allL, bi_sorted, seqL_l, items_l, items_t, items_m, w_gl, new_f, new_t, ix_t, ix_l, tru_b, tru_n, tru_i, tru_l, tru_t, isi_b, isi_bi, isi_ii, isi_ib, isi_is, isi_it, isi_il, isi_sb, isi_si, isi_ss, isi_tb, isi_ti, isi_ts, isi_tt, isi_tl, isi_lb, isi_li, isi_ls, isi_lt, isi_ll, isi_nb, isi_ni, isi_ns, isi_nt, isi_nl, ix_m, tru_m, bi_lenm, seqL_m, mt_appm, mt_popm, mtOk_appm, mtOk_popm, it_m, ixSt_m, ix_r hM, hv']
        unfold b__law_pull_2
        rw [wpSs_cons]
        simp only [Int.reduceNeg, Int.reduceAdd, Int.reduceSub, Int.reduceMul, cpow_10, cpow_2, Int.reduceLE, Int.reduceLT, Int.reduceToNat, Int.reducePow, mset_same, mset_mset, Tgs.len, List.getElem?_cons_zero, List.getElem?_cons_succ, List.set_cons_zero, List.set_cons_succ, List.getElem?_nil, Option.some.injEq, exists_eq_left', exists_eq_left, true_and, and_true, if_true, if_false, Bool.false_eq_true, reduceCtorEq, Dt.int.injEq, Dt.bl.injEq, Dt.str.injEq, Dt.lst.injEq, Dt.tup.injEq, Dt.ref.injEq, decide_eq_true_eq, List.length_cons, List.length_nil, Nat.zero_add, Nat.reduceAdd, Option.map_some, Bool.not_true, Bool.not_false, atI_0, atI_1, atI_2, atI_3, atI_4, ixN_0, ixN_1, ixN_2, ixN_3, ixN_4, w_var, w_int, w_str, w_bl, w_non, w_glob, w_bin, w_neg, w_cmp, w_cmp2, w_bop, w_b1, w_b2, w_not, w_ite, w_tup, w_lst, w_ix, w_sl, w_call, w_bi, w_mt, w_isi, w_lc, w_frz, w_es0, w_es1, w_o0, w_o1, w_tval, w_tcmp, w_tcmp2, w_tnot, w_tall, w_tany, w_all0, w_all1, w_all2, w_any0, w_any1, w_any2, it_t, it_l, w_seq, w_rng1, w_rng2, w_gn, w_gt, w_gi, w_gs0, w_gs1, s_asg, s_asgC, s_par, s_aug, s_expr, s_if, s_for, s_while, s_ret, s_retN, s_brk, s_cont, s_pass, s_nil, frz_l, frz_m, bin_add, bin_adds, bin_sub, bin_mul, bin_fdiv, bin_mod, bin_pow, bin_xor, cmp_lt, cmp_le, cmp_gt, cmp_ge, cmp_eqi, cmp_eqs, cmp_eqb, cmp_nei, cmp_nes, cmp_neb, cmp_is0, cmp_is1, cmp_is2, cmp_is3, cmp_is4, cmp_is5, cmp_is6, cmp_isn0, cmp_isn1, cmp_isn2, cmp_isn3, cmp_isn4, cmp_isn5, cmp_in, cmp_notin, bi_lens, bi_lent, bi_lenl, bi_min, bi_max, bi_abs, bi_listT, bi_listL, bi_tupT, bi_tupL, bi_maxL, bi_minL, bi_sumL, bi_anyL, bi_allL, bi_sorted, seqL_l, items_l, items_t, items_m, w_gl, new_f, new_t, ix_t, ix_l, tru_b, tru_n, tru_i, tru_l, tru_t, isi_b, isi_bi, isi_ii, isi_ib, isi_is, isi_it, isi_il, isi_sb, isi_si, isi_ss, isi_tb, isi_ti, isi_ts, isi_tt, isi_tl, isi_lb, isi_li, isi_ls, isi_lt, isi_ll, isi_nb, isi_ni, isi_ns, isi_nt, isi_nl, ix_m, tru_m, bi_lenm, seqL_m, mt_appm, mt_popm, mtOk_appm, mtOk_popm, it_m, ixSt_m, ix_r hM, ixSt_l hM]
        unfold b__law_pull_3
        rw [wpSs_cons]
        simp only [Int.reduceNeg, Int.reduceAdd, Int.reduceSub, Int.reduceMul, cpow_10, cpow_2, Int.reduceLE, Int.reduceLT, Int.reduceToNat, Int.reducePow, mset_same, mset_mset, Tgs.len, List.getElem?_cons_zero, List.getElem?_cons_succ, List.set_cons_zero, List.set_cons_succ, List.getElem?_nil, Option.some.injEq, exists_eq_left', exists_eq_left, true_and, and_true, if_true, if_false, Bool.false_eq_true, reduceCtorEq, Dt.int.injEq, Dt.bl.injEq, Dt.str.injEq, Dt.lst.injEq, Dt.tup.injEq, Dt.ref.injEq, decide_eq_true_eq, List.length_cons, List.length_nil, Nat.zero_add, Nat.reduceAdd, Option.map_some, Bool.not_true, Bool.not_false, atI_0, atI_1, atI_2, atI_3, atI_4, ixN_0, ixN_1, ixN_2, ixN_3, ixN_4, w_var, w_int, w_str, w_bl, w_non, w_glob, w_bin, w_neg, w_cmp, w_cmp2, w_bop, w_b1, w_b2, w_not, w_ite, w_tup, w_lst, w_ix, w_sl, w_call, w_bi, w_mt, w_isi, w_lc, w_frz, w_es0, w_es1, w_o0, w_o1, w_tval, w_tcmp, w_tcmp2, w_tnot, w_tall, w_tany, w_all0, w_all1, w_all2, w_any0, w_any1, w_any2, it_t, it_l, w_seq, w_rng1, w_rng2, w_gn, w_gt, w_gi, w_gs0, w_gs1, s_asg, s_asgC, s_par, s_aug, s_expr, s_if, s_for, s_while, s_ret, s_retN, s_brk, s_cont, s_pass, s_nil, frz_l, frz_m, bin_add, bin_adds, bin_sub, bin_mul, bin_fdiv, bin_mod, bin_pow, bin_xor, cmp_lt, cmp_le, cmp_gt, cmp_ge, cmp_eqi, cmp_eqs, cmp_eqb, cmp_nei, cmp_nes, cmp_neb, cmp_is0, cmp_is1, cmp_is2, cmp_is3, cmp_is4, cmp_is5, cmp_is6, cmp_isn0, cmp_isn1, cmp_isn2, cmp_isn3, cmp_isn4, cmp_isn5, cmp_in, cmp_notin, bi_lens, bi_lent, bi_lenl, bi_min, bi_max, bi_abs, bi_listT, bi_listL, bi_tupT, bi_tupL, bi_maxL, bi_minL, bi_sumL, bi_anyL, bi_allL, bi_sorted, seqL_l, items_l, items_t, items_m, w_gl, new_f, new_t, ix_t, ix_l, tru_b, tru_n, tru_i, tru_l, tru_t, isi_b, isi_bi, isi_ii, isi_ib, isi_is, isi_it, isi_il, isi_sb, isi_si, isi_ss, isi_tb, isi_ti, isi_ts, isi_tt, isi_tl, isi_lb, isi_li, isi_ls, isi_lt, isi_ll, isi_nb, isi_ni, isi_ns, isi_nt, isi_nl, ix_m, tru_m, bi_lenm, seqL_m, mt_appm, mt_popm, mtOk_appm, mtOk_popm, it_m, ixSt_m]
        unfold b__law_pull_4
        rw [wpSs_cons]
        simp only [Int.reduceNeg, Int.reduceAdd, Int.reduceSub, Int.reduceMul, cpow_10, cpow_2, Int.reduceLE, Int.reduceLT, Int.reduceToNat, Int.reducePow, mset_same, mset_mset, Tgs.len, List.getElem?_cons_zero, List.getElem?_cons_succ, List.set_cons_zero, List.set_cons_succ, List.getElem?_nil, Option.some.injEq, exists_eq_left', exists_eq_left, true_and, and_true, if_true, if_false, Bool.false_eq_true, reduceCtorEq, Dt.int.injEq, Dt.bl.injEq, Dt.str.injEq, Dt.lst.injEq, Dt.tup.injEq, Dt.ref.injEq, decide_eq_true_eq, List.length_cons, List.length_nil, Nat.zero_add, Nat.reduceAdd, Option.map_some, Bool.not_true, Bool.not_false, atI_0, atI_1, atI_2, atI_3, atI_4, ixN_0, ixN_1, ixN_2, ixN_3, ixN_4, w_var, w_int, w_str, w_bl, w_non, w_glob, w_bin, w_neg, w_cmp, w_cmp2, w_bop, w_b1, w_b2, w_not, w_ite, w_tup, w_lst, w_ix, w_sl, w_call, w_bi, w_mt, w_isi, w_lc, w_frz, w_es0, w_es1, w_o0, w_o1, w_tval, w_tcmp, w_tcmp2, w_tnot, w_tall, w_tany, w_all0, w_all1, w_all2, w_any0, w_any1, w_any2, it_t, it_l, w_seq, w_rng1, w_rng2, w_gn, w_gt, w_gi, w_gs0, w_gs1, s_asg, s_asgC, s_par, s_aug, s_expr, s_if, s_for, s_while, s_ret, s_retN, s_brk, s_cont, s_pass, s_nil, frz_l, frz_m, bin_add, bin_adds, bin_sub, bin_mul, bin_fdiv, bin_mod, bin_pow, bin_xor, cmp_lt, cmp_le, cmp_gt, cmp_ge, cmp_eqi, cmp_eqs, cmp_eqb, cmp_nei, cmp_nes, cmp_neb, cmp_is0, cmp_is1, cmp_is2, cmp_is3, cmp_is4, cmp_is5, cmp_is6, cmp_isn0, cmp_isn1, cmp_isn2, cmp_isn3, cmp_isn4, cmp_isn5, cmp_in, cmp_notin, bi_lens, bi_lent, bi_lenl, bi_min, bi_max, bi_abs, bi_listT, bi_listL, bi_tupT, bi_tupL, bi_maxL, bi_minL, bi_sumL, bi_anyL, bi_allL, bi_sorted, seqL_l, items_l, items_t, items_m, w_gl, new_f, new_t, ix_t, ix_l, tru_b, tru_n, tru_i, tru_l, tru_t, isi_b, isi_bi, isi_ii, isi_ib, isi_is, isi_it, isi_il, isi_sb, isi_si, isi_ss, isi_tb, isi_ti, isi_ts, isi_tt, isi_tl, isi_lb, isi_li, isi_ls, isi_lt, isi_ll, isi_nb, isi_ni, isi_ns, isi_nt, isi_nl, ix_m, tru_m, bi_lenm, seqL_m, mt_appm, mt_popm, mtOk_appm, mtOk_popm, it_m, ixSt_m]
        split
        · unfold b__law_pull_5
          rw [wpSs_cons]
          simp only [Int.reduceNeg, Int.reduceAdd, Int.reduceSub, Int.reduceMul, cpow_10, cpow_2, Int.reduceLE, Int.reduceLT, Int.reduceToNat, Int.reducePow, mset_same, mset_mset, Tgs.len, List.getElem?_cons_zero, List.getElem?_cons_succ, List.set_cons_zero, List.set_cons_succ, List.getElem?_nil, Option.some.injEq, exists_eq_left', exists_eq_left, true_and, and_true, if_true, if_false, Bool.false_eq_true, reduceCtorEq, Dt.int.injEq, Dt.bl.injEq, Dt.str.injEq, Dt.lst.injEq, Dt.tup.injEq, Dt.ref.injEq, decide_eq_true_eq, List.length_cons, List.length_nil, Nat.zero_add, Nat.reduceAdd, Option.map_some, Bool.not_true, Bool.not_false, atI_0, atI_1, atI_2, atI_3, atI_4, ixN_0, ixN_1, ixN_2, ixN_3, ixN_4, w_var, w_int, w_str, w_bl, w_non, w_glob, w_bin, w_neg, w_cmp, w_cmp2, w_bop, w_b1, w_b2, w_not, w_ite, w_tup, w_lst, w_ix, w_sl, w_call, w_bi, w_mt, w_isi, w_lc, w_frz, w_es0, w_es1, w_o0, w_o1, w_tval, w_tcmp, w_tcmp2, w_tnot, w_tall, w_tany, w_all0, w_all1, w_all2, w_any0, w_any1, w_any2, it_t, it_l, w_seq, w_rng1, w_rng2, w_gn, w_gt, w_gi, w_gs0, w_gs1, s_asg, s_asgC, s_par, s_aug, s_expr, s_if, s_for, s_while, s_ret, s_retN, s_brk, s_cont, s_pass, s_nil, frz_l, frz_m, bin_add, bin_adds, bin_sub, bin_mul, bin_fdiv, bin_mod, bin_pow, bin_xor, cmp_lt, cmp_le, cmp_gt, cmp_ge, cmp_eqi, cmp_eqs, cmp_eqb, cmp_nei, cmp_nes, cmp_neb, cmp_is0, cmp_is1, cmp_is2, cmp_is3, cmp_is4, cmp_is5, cmp_is6, cmp_isn0, cmp_isn1, cmp_isn2, cmp_isn3, cmp_isn4, cmp_isn5, cmp_in, cmp_notin, bi_lens, bi_lent, bi_lenl, bi_min, bi_max, bi_abs, bi_listT, bi_listL, bi_tupT, bi_tupL, bi_maxL, bi_minL, bi_sumL, bi_anyL, bi_allL, bi_sorted, seqL_l, items_l, items_t, items_m, w_gl, new_f, new_t, ix_t, ix_l, tru_b, tru_n, tru_i, tru_l, tru_t, isi_b, isi_bi, isi_ii, isi_ib, isi_is, isi_it, isi_il, isi_sb, isi_si, isi_ss, isi_tb, isi_ti, isi_ts, isi_tt, isi_tl, isi_lb, isi_li, isi_ls, isi_lt, isi_ll, isi_nb, isi_ni, isi_ns, isi_nt, isi_nl, ix_m, tru_m, bi_lenm, seqL_m, mt_appm, mt_popm, mtOk_appm, mtOk_popm, it_m, ixSt_m]
          exact ⟨⟨cs, (n : Int) + 1, v, s⟩, _, ⟨by show (0 : Int) ≤ n + 1; omega, by show 0 ≤ v; omega, s0, s1⟩, rfl, rfl⟩
        · unfold b__law_pull_6
          rw [wpSs_cons]
          simp only [Int.reduceNeg, Int.reduceAdd, Int.reduceSub, Int.reduceMul, cpow_10, cpow_2, Int.reduceLE, Int.reduceLT, Int.reduceToNat, Int.reducePow, mset_same, mset_mset, Tgs.len, List.getElem?_cons_zero, List.getElem?_cons_succ, List.set_cons_zero, List.set_cons_succ, List.getElem?_nil, Option.some.injEq, exists_eq_left', exists_eq_left, true_and, and_true, if_true, if_false, Bool.false_eq_true, reduceCtorEq, Dt.int.injEq, Dt.bl.injEq, Dt.str.injEq, Dt.lst.injEq, Dt.tup.injEq, Dt.ref.injEq, decide_eq_true_eq, List.length_cons, List.length_nil, Nat.zero_add, Nat.reduceAdd, Option.map_some, Bool.not_true, Bool.not_false, atI_0, atI_1, atI_2, atI_3, atI_4, ixN_0, ixN_1, ixN_2, ixN_3, ixN_4, w_var, w_int, w_str, w_bl, w_non, w_glob, w_bin, w_neg, w_cmp, w_cmp2, w_bop, w_b1, w_b2, w_not, w_ite, w_tup, w_lst, w_ix, w_sl, w_call, w_bi, w_mt, w_isi, w_lc, w_frz, w_es0, w_es1, w_o0, w_o1, w_tval, w_tcmp, w_tcmp2, w_tnot, w_tall, w_tany, w_all0, w_all1, w_all2, w_any0, w_any1, w_any2, it_t, it_l, w_seq, w_rng1, w_rng2, w_gn, w_gt, w_gi, w_gs0, w_gs1, s_asg, s_asgC, s_par, s_aug, s_expr, s_if, s_for, s_while, s_ret, s_retN, s_brk, s_cont, s_pass, s_nil, frz_l, frz_m, bin_add, bin_adds, bin_sub, bin_mul, bin_fdiv, bin_mod, bin_pow, bin_xor, cmp_lt, cmp_le, cmp_gt, cmp_ge, cmp_eqi, cmp_eqs, cmp_eqb, cmp_nei, cmp_nes, cmp_neb, cmp_is0, cmp_is1, cmp_is2, cmp_is3, cmp_is4, cmp_is5, cmp_is6, cmp_isn0, cmp_isn1, cmp_isn2, cmp_isn3, cmp_isn4, cmp_isn5, cmp_in, cmp_notin, bi_lens, bi_lent, bi_lenl, bi_min, bi_max, bi_abs, bi_listT, bi_listL, bi_tupT, bi_tupL, bi_maxL, bi_minL, bi_sumL, bi_anyL, bi_allL, bi_sorted, seqL_l, items_l, items_t, items_m, w_gl, new_f, new_t, ix_t, ix_l, tru_b, tru_n, tru_i, tru_l, tru_t, isi_b, isi_bi, isi_ii, isi_ib, isi_is, isi_it, isi_il, isi_sb, isi_si, isi_ss, isi_tb, isi_ti, isi_ts, isi_tt, isi_tl, isi_lb, isi_li, isi_ls, isi_lt, isi_ll, isi_nb, isi_ni, isi_ns, isi_nt, isi_nl, ix_m, tru_m, bi_lenm, seqL_m, mt_appm, mt_popm, mtOk_appm, mtOk_popm, it_m, ixSt_m]
          refine ⟨mul_r (by decide) (by decide), mul_r (by decide) (by decide), ?_⟩
          have z := emod_lt (a := s * 39373 + v % 2147483647 * 48271 + 31) (b := 2147483629) (by decide)
          exact ⟨⟨cs, (n : Int) + 1, 0, _⟩, _, ⟨by show (0 : Int) ≤ n + 1; omega, Int.le_refl 0, z.1, z.2⟩, rfl, rfl⟩
      · exact stay
    · exact stay
  · rintro ρ' M' ⟨⟨cs, i, c, s⟩, o, ⟨i0, c0, s0, s1⟩, rfl, rfl⟩
    simp only [Drw.o]
    unfold b__law_pull_7
    rw [wpSs_cons]
    simp only [Int.reduceNeg, Int.reduceAdd, Int.reduceSub, Int.reduceMul, cpow_10, cpow_2, Int.reduceLE, Int.reduceLT, Int.reduceToNat, Int.reducePow, mset_same, mset_mset, Tgs.len, List.getElem?_cons_zero, List.getElem?_cons_succ, List.set_cons_zero, List.set_cons_succ, List.getElem?_nil, Option.some.injEq, exists_eq_left', exists_eq_left, true_and, and_true, if_true, if_false, Bool.false_eq_true, reduceCtorEq, Dt.int.injEq, Dt.bl.injEq, Dt.str.injEq, Dt.lst.injEq, Dt.tup.injEq, Dt.ref.injEq, decide_eq_true_eq, List.length_cons, List.length_nil, Nat.zero_add, Nat.reduceAdd, Option.map_some, Bool.not_true, Bool.not_false, atI_0, atI_1, atI_2, atI_3, atI_4, ixN_0, ixN_1, ixN_2, ixN_3, ixN_4, w_var, w_int, w_str, w_bl, w_non, w_glob, w_bin, w_neg, w_cmp, w_cmp2, w_bop, w_b1, w_b2, w_not, w_ite, w_tup, w_lst, w_ix, w_sl, w_call, w_bi, w_mt, w_isi, w_lc, w_frz, w_es0, w_es1, w_o0, w_o1, w_tval, w_tcmp, w_tcmp2, w_tnot, w_tall, w_tany, w_all0, w_all1, w_all2, w_any0, w_any1, w_any2, it_t, it_l, w_seq, w_rng1, w_rng2, w_gn, w_gt, w_gi, w_gs0, w_gs1, s_asg, s_asgC, s_par, s_aug, s_expr, s_if, s_for, s_while, s_ret, s_retN, s_brk, s_cont, s_pass, s_nil, frz_l, frz_m, bin_add, bin_adds, bin_sub, bin_mul, bin_fdiv, bin_mod, bin_pow, bin_xor, cmp_lt, cmp_le, cmp_gt, cmp_ge, cmp_eqi, cmp_eqs, cmp_eqb, cmp_nei, cmp_nes, cmp_neb, cmp_is0, cmp_is1, cmp_is2, cmp_is3, cmp_is4, cmp_is5, cmp_is6, cmp_isn0, cmp_isn1, cmp_isn2, cmp_isn3, cmp_isn4, cmp_isn5, cmp_in, cmp_notin, bi_lens, bi_lent, bi_lenl, bi_min, bi_max, bi_abs, bi_listT, bi_listL, bi_tupT, bi_tupL, bi_maxL, bi_minL, bi_sumL, bi_anyL, bi_allL, bi_sorted, seqL_l, items_l, items_t, items_m, w_gl, new_f, new_t, ix_t, ix_l, tru_b, tru_n, tru_i, tru_l, tru_t, isi_b, isi_bi, isi_ii, isi_ib, isi_is, isi_it, isi_il, isi_sb, isi_si, isi_ss, isi_tb, isi_ti, isi_ts, isi_tt, isi_tl, isi_lb, isi_li, isi_ls, isi_lt, isi_ll, isi_nb, isi_ni, isi_ns, isi_nt, isi_nl, ix_m, tru_m, bi_lenm, seqL_m, mt_appm, mt_popm, mtOk_appm, mtOk_popm, it_m, ixSt_m]
    have c0' : 0 ≤ c := c0
    have s0' : 0 ≤ s := s0
    have s1' : s < 2147483629 := s1
    split
    · unfold b__law_pull_8
      rw [wpSs_cons]
      simp only [Int.reduceNeg, Int.reduceAdd, Int.reduceSub, Int.reduceMul, cpow_10, cpow_2, Int.reduceLE, Int.reduceLT, Int.reduceToNat, Int.reducePow, mset_same, mset_mset, Tgs.len, List.getElem?_cons_zero, List.getElem?_cons_succ, List.set_cons_zero, List.set_cons_succ, List.getElem?_nil, Option.some.injEq, exists_eq_left', exists_eq_left, true_and, and_true, if_true, if_false, Bool.false_eq_true, reduceCtorEq, Dt.int.injEq, Dt.bl.injEq, Dt.str.injEq, Dt.lst.injEq, Dt.tup.injEq, Dt.ref.injEq, decide_eq_true_eq, List.length_cons, List.length_nil, Nat.zero_add, Nat.reduceAdd, Option.map_some, Bool.not_true, Bool.not_false, atI_0, atI_1, atI_2, atI_3, atI_4, ixN_0, ixN_1, ixN_2, ixN_3, ixN_4, w_var, w_int, w_str, w_bl, w_non, w_glob, w_bin, w_neg, w_cmp, w_cmp2, w_bop, w_b1, w_b2, w_not, w_ite, w_tup, w_lst, w_ix, w_sl, w_call, w_bi, w_mt, w_isi, w_lc, w_frz, w_es0, w_es1, w_o0, w_o1, w_tval, w_tcmp, w_tcmp2, w_tnot, w_tall, w_tany, w_all0, w_all1, w_all2, w_any0, w_any1, w_any2, it_t, it_l, w_seq, w_rng1, w_rng2, w_gn, w_gt, w_gi, w_gs0, w_gs1, s_asg, s_asgC, s_par, s_aug, s_expr, s_if, s_for, s_while, s_ret, s_retN, s_brk, s_cont, s_pass, s_nil, frz_l, frz_m, bin_add, bin_adds, bin_sub, bin_mul, bin_fdiv, bin_mod, bin_pow, bin_xor, cmp_lt, cmp_le, cmp_gt, cmp_ge, cmp_eqi, cmp_eqs, cmp_eqb, cmp_nei, cmp_nes, cmp_neb, cmp_is0, cmp_is1, cmp_is2, cmp_is3, cmp_is4, cmp_is5, cmp_is6, cmp_isn0, cmp_isn1, cmp_isn2, cmp_isn3, cmp_isn4, cmp_isn5, cmp_in, cmp_notin, bi_lens, bi_lent, bi_lenl, bi_min, bi_max, bi_abs, bi_listT, bi_listL, bi_tupT, bi_tupL, bi_maxL, bi_minL, bi_sumL, bi_anyL, bi_allL, bi_sorted, seqL_l, items_l, items_t, items_m, w_gl, new_f, new_t, ix_t, ix_l, tru_b, tru_n, tru_i, tru_l, tru_t, isi_b, isi_bi, isi_ii, isi_ib, isi_is, isi_it, isi_il, isi_sb, isi_si, isi_ss, isi_tb, isi_ti, isi_ts, isi_tt, isi_tl, isi_lb, isi_li, isi_ls, isi_lt, isi_ll, isi_nb, isi_ni, isi_ns, isi_nt, isi_nl, ix_m, tru_m, bi_lenm, seqL_m, mt_appm, mt_popm, mtOk_appm, mtOk_popm, it_m, ixSt_m, hc]
      unfold b__law_pull_9
      rw [wpSs_cons]
      simp only [Int.reduceNeg, Int.reduceAdd, Int.reduceSub, Int.reduceMul, cpow_10, cpow_2, Int.reduceLE, Int.reduceLT, Int.reduceToNat, Int.reducePow, mset_same, mset_mset, Tgs.len, List.getElem?_cons_zero, List.getElem?_cons_succ, List.set_cons_zero, List.set_cons_succ, List.getElem?_nil, Option.some.injEq, exists_eq_left', exists_eq_left, true_and, and_true, if_true, if_false, Bool.false_eq_true, reduceCtorEq, Dt.int.injEq, Dt.bl.injEq, Dt.str.injEq, Dt.lst.injEq, Dt.tup.injEq, Dt.ref.injEq, decide_eq_true_eq, List.length_cons, List.length_nil, Nat.zero_add, Nat.reduceAdd, Option.map_some, Bool.not_true, Bool.not_false, atI_0, atI_1, atI_2, atI_3, atI_4, ixN_0, ixN_1, ixN_2, ixN_3, ixN_4, w_var, w_int, w_str, w_bl, w_non, w_glob, w_bin, w_neg, w_cmp, w_cmp2, w_bop, w_b1, w_b2, w_not, w_ite, w_tup, w_lst, w_ix, w_sl, w_call, w_bi, w_mt, w_isi, w_lc, w_frz, w_es0, w_es1, w_o0, w_o1, w_tval, w_tcmp, w_tcmp2, w_tnot, w_tall, w_tany, w_all0, w_all1, w_all2, w_any0, w_any1, w_any2, it_t, it_l, w_seq, w_rng1, w_rng2, w_gn, w_gt, w_gi, w_gs0, w_gs1, s_asg, s_asgC, s_par, s_aug, s_expr, s_if, s_for, s_while, s_ret, s_retN, s_brk, s_cont, s_pass, s_nil, frz_l, frz_m, bin_add, bin_adds, bin_sub, bin_mul, bin_fdiv, bin_mod, bin_pow, bin_xor, cmp_lt, cmp_le, cmp_gt, cmp_ge, cmp_eqi, cmp_eqs, cmp_eqb, cmp_nei, cmp_nes, cmp_neb, cmp_is0, cmp_is1, cmp_is2, cmp_is3, cmp_is4, cmp_is5, cmp_is6, cmp_isn0, cmp_isn1, cmp_isn2, cmp_isn3, cmp_isn4, cmp_isn5, cmp_in, cmp_notin, bi_lens, bi_lent, bi_lenl, bi_min, bi_max, bi_abs, bi_listT, bi_listL, bi_tupT, bi_tupL, bi_maxL, bi_minL, bi_sumL, bi_anyL, bi_allL, bi_sorted, seqL_l, items_l, items_t, items_m, w_gl, new_f, new_t, ix_t, ix_l, tru_b, tru_n, tru_i, tru_l, tru_t, isi_b, isi_bi, isi_ii, isi_ib, isi_is, isi_it, isi_il, isi_sb, isi_si, isi_ss, isi_tb, isi_ti, isi_ts, isi_tt, isi_tl, isi_lb, isi_li, isi_ls, isi_lt, isi_ll, isi_nb, isi_ni, isi_ns, isi_nt, isi_nl, ix_m, tru_m, bi_lenm, seqL_m, mt_appm, mt_popm, mtOk_appm, mtOk_popm, it_m, ixSt_m]
      refine ⟨div_ok hc hc2, ?_⟩
      unfold b__law_pull_10
      rw [wpSs_cons]
      simp only [Int.reduceNeg, Int.reduceAdd, Int.reduceSub, Int.reduceMul, cpow_10, cpow_2, Int.reduceLE, Int.reduceLT, Int.reduceToNat, Int.reducePow, mset_same, mset_mset, Tgs.len, List.getElem?_cons_zero, List.getElem?_cons_succ, List.set_cons_zero, List.set_cons_succ, List.getElem?_nil, Option.some.injEq, exists_eq_left', exists_eq_left, true_and, and_true, if_true, if_false, Bool.false_eq_true, reduceCtorEq, Dt.int.injEq, Dt.bl.injEq, Dt.str.injEq, Dt.lst.injEq, Dt.tup.injEq, Dt.ref.injEq, decide_eq_true_eq, List.length_cons, List.length_nil, Nat.zero_add, Nat.reduceAdd, Option.map_some, Bool.not_true, Bool.not_false, atI_0, atI_1, atI_2, atI_3, atI_4, ixN_0, ixN_1, ixN_2, ixN_3, ixN_4, w_var, w_int, w_str, w_bl, w_non, w_glob, w_bin, w_neg, w_cmp, w_cmp2, w_bop, w_b1, w_b2, w_not, w_ite, w_tup, w_lst, w_ix, w_sl, w_call, w_bi, w_mt, w_isi, w_lc, w_frz, w_es0, w_es1, w_o0, w_o1, w_tval, w_tcmp, w_tcmp2, w_tnot, w_tall, w_tany, w_all0, w_all1, w_all2, w_any0, w_any1, w_any2, it_t, it_l, w_seq, w_rng1, w_rng2, w_gn, w_gt, w_gi, w_gs0, w_gs1, s_asg, s_asgC, s_par, s_aug, s_expr, s_if, s_for, s_while, s_ret, s_retN, s_brk, s_cont, s_pass, s_nil, frz_l, frz_m, bin_add, bin_adds, bin_sub, bin_mul, bin_fdiv, bin_mod, bin_pow, bin_xor, cmp_lt, cmp_le, cmp_gt, cmp_ge, cmp_eqi, cmp_eqs, cmp_eqb, cmp_nei, cmp_nes, cmp_neb, cmp_is0, cmp_is1, cmp_is2, cmp_is3, cmp_is4, cmp_is5, cmp_is6, cmp_isn0, cmp_isn1, cmp_isn2, cmp_isn3, cmp_isn4, cmp_isn5, cmp_in, cmp_notin, bi_lens, bi_lent, bi_lenl, bi_min, bi_max, bi_abs, bi_listT, bi_listL, bi_tupT, bi_tupL, bi_maxL, bi_minL, bi_sumL, bi_anyL, bi_allL, bi_sorted, seqL_l, items_l, items_t, items_m, w_gl, new_f, new_t, ix_t, ix_l, tru_b, tru_n, tru_i, tru_l, tru_t, isi_b, isi_bi, isi_ii, isi_ib, isi_is, isi_it, isi_il, isi_sb, isi_si, isi_ss, isi_tb, isi_ti, isi_ts, isi_tt, isi_tl, isi_lb, isi_li, isi_ls, isi_lt, isi_ll, isi_nb, isi_ni, isi_ns, isi_nt, isi_nl, ix_m, tru_m, bi_lenm, seqL_m, mt_appm, mt_popm, mtOk_appm, mtOk_popm, it_m, ixSt_m]
      have z := emod_lt (a := c) (b := cap) hc
      rw [← hk]
      exact h _ ⟨cs, i, c / cap, s⟩ ⟨i0, Int.ediv_nonneg c0' (by omega), s0, s1⟩ z.1 z.2
    · unfold b__law_pull_11
      rw [wpSs_cons]
      simp only [Int.reduceNeg, Int.reduceAdd, Int.reduceSub, Int.reduceMul, cpow_10, cpow_2, Int.reduceLE, Int.reduceLT, Int.reduceToNat, Int.reducePow, mset_same, mset_mset, Tgs.len, List.getElem?_cons_zero, List.getElem?_cons_succ, List.set_cons_zero, List.set_cons_succ, List.getElem?_nil, Option.some.injEq, exists_eq_left', exists_eq_left, true_and, and_true, if_true, if_false, Bool.false_eq_true, reduceCtorEq, Dt.int.injEq, Dt.bl.injEq, Dt.str.injEq, Dt.lst.injEq, Dt.tup.injEq, Dt.ref.injEq, decide_eq_true_eq, List.length_cons, List.length_nil, Nat.zero_add, Nat.reduceAdd, Option.map_some, Bool.not_true, Bool.not_false, atI_0, atI_1, atI_2, atI_3, atI_4, ixN_0, ixN_1, ixN_2, ixN_3, ixN_4, w_var, w_int, w_str, w_bl, w_non, w_glob, w_bin, w_neg, w_cmp, w_cmp2, w_bop, w_b1, w_b2, w_not, w_ite, w_tup, w_lst, w_ix, w_sl, w_call, w_bi, w_mt, w_isi, w_lc, w_frz, w_es0, w_es1, w_o0, w_o1, w_tval, w_tcmp, w_tcmp2, w_tnot, w_tall, w_tany, w_all0, w_all1, w_all2, w_any0, w_any1, w_any2, it_t, it_l, w_seq, w_rng1, w_rng2, w_gn, w_gt, w_gi, w_gs0, w_gs1, s_asg, s_asgC, s_par, s_aug, s_expr, s_if, s_for, s_while, s_ret, s_retN, s_brk, s_cont, s_pass, s_nil, frz_l, frz_m, bin_add, bin_adds, bin_sub, bin_mul, bin_fdiv, bin_mod, bin_pow, bin_xor, cmp_lt, cmp_le, cmp_gt, cmp_ge, cmp_eqi, cmp_eqs, cmp_eqb, cmp_nei, cmp_nes, cmp_neb, cmp_is0, cmp_is1, cmp_is2, cmp_is3, cmp_is4, cmp_is5, cmp_is6, cmp_isn0, cmp_isn1, cmp_isn2, cmp_isn3, cmp_isn4, cmp_isn5, cmp_in, cmp_notin, bi_lens, bi_lent, bi_lenl, bi_min, bi_max, bi_abs, bi_listT, bi_listL, bi_tupT, bi_tupL, bi_maxL, bi_minL, bi_sumL, bi_anyL, bi_allL, bi_sorted, seqL_l, items_l, items_t, items_m, w_gl, new_f, new_t, ix_t, ix_l, tru_b, tru_n, tru_i, tru_l, tru_t, isi_b, isi_bi, isi_ii, isi_ib, isi_is, isi_it, isi_il, isi_sb, isi_si, isi_ss, isi_tb, isi_ti, isi_ts, isi_tt, isi_tl, isi_lb, isi_li, isi_ls, isi_lt, isi_ll, isi_nb, isi_ni, isi_ns, isi_nt, isi_nl, ix_m, tru_m, bi_lenm, seqL_m, mt_appm, mt_popm, mtOk_appm, mtOk_popm, it_m, ixSt_m]
      unfold b__law_pull_12
      rw [wpSs_cons]
      simp only [Int.reduceNeg, Int.reduceAdd, Int.reduceSub, Int.reduceMul, cpow_10, cpow_2, Int.reduceLE, Int.reduceLT, Int.reduceToNat, Int.reducePow, mset_same, mset_mset, Tgs.len, List.getElem?_cons_zero, List.getElem?_cons_succ, List.set_cons_zero, List.set_cons_succ, List.getElem?_nil, Option.some.injEq, exists_eq_left', exists_eq_left, true_and, and_true, if_true, if_false, Bool.false_eq_true, reduceCtorEq, Dt.int.injEq, Dt.bl.injEq, Dt.str.injEq, Dt.lst.injEq, Dt.tup.injEq, Dt.ref.injEq, decide_eq_true_eq, List.length_cons, List.length_nil, Nat.zero_add, Nat.reduceAdd, Option.map_some, Bool.not_true, Bool.not_false, atI_0, atI_1, atI_2, atI_3, atI_4, ixN_0, ixN_1, ixN_2, ixN_3, ixN_4, w_var, w_int, w_str, w_bl, w_non, w_glob, w_bin, w_neg, w_cmp, w_cmp2, w_bop, w_b1, w_b2, w_not, w_ite, w_tup, w_lst, w_ix, w_sl, w_call, w_bi, w_mt, w_isi, w_lc, w_frz, w_es0, w_es1, w_o0, w_o1, w_tval, w_tcmp, w_tcmp2, w_tnot, w_tall, w_tany, w_all0, w_all1, w_all2, w_any0, w_any1, w_any2, it_t, it_l, w_seq, w_rng1, w_rng2, w_gn, w_gt, w_gi, w_gs0, w_gs1, s_asg, s_asgC, s_par, s_aug, s_expr, s_if, s_for, s_while, s_ret, s_retN, s_brk, s_cont, s_pass, s_nil, frz_l, frz_m, bin_add, bin_adds, bin_sub, bin_mul, bin_fdiv, bin_mod, bin_pow, bin_xor, cmp_lt, cmp_le, cmp_gt, cmp_ge, cmp_eqi, cmp_eqs, cmp_eqb, cmp_nei, cmp_nes, cmp_neb, cmp_is0, cmp_is1, cmp_is2, cmp_is3, cmp_is4, cmp_is5, cmp_is6, cmp_isn0, cmp_isn1, cmp_isn2, cmp_isn3, cmp_isn4, cmp_isn5, cmp_in, cmp_notin, bi_lens, bi_lent, bi_lenl, bi_min, bi_max, bi_abs, bi_listT, bi_listL, bi_tupT, bi_tupL, bi_maxL, bi_minL, bi_sumL, bi_anyL, bi_allL, bi_sorted, seqL_l, items_l, items_t, items_m, w_gl, new_f, new_t, ix_t, ix_l, tru_b, tru_n, tru_i, tru_l, tru_t, isi_b, isi_bi, isi_ii, isi_ib, isi_is, isi_it, isi_il, isi_sb, isi_si, isi_ss, isi_tb, isi_ti, isi_ts, isi_tt, isi_tl, isi_lb, isi_li, isi_ls, isi_lt, isi_ll, isi_nb, isi_ni, isi_ns, isi_nt, isi_nl, ix_m, tru_m, bi_lenm, seqL_m, mt_appm, mt_popm, mtOk_appm, mtOk_popm, it_m, ixSt_m]
      have zb := emod_lt (a := s * s) (b := 2147483647) (by decide)
      have z := emod_lt (a := s * s % 2147483647 * 3 + s * 45991 + 746773) (b := 2147483629) (by decide)
      refine ⟨mul_r (by omega) (by omega), mul_r (by decide) (by decide), mul_r (by decide) (by decide), ?_⟩
      generalize (s * s % 2147483647 * 3 + s * 45991 + 746773) % 2147483629 = u at z
      unfold b__law_pull_13
      rw [wpSs_cons]
      simp only [Int.reduceNeg, Int.reduceAdd, Int.reduceSub, Int.reduceMul, cpow_10, cpow_2, Int.reduceLE, Int.reduceLT, Int.reduceToNat, Int.reducePow, mset_same, mset_mset, Tgs.len, List.getElem?_cons_zero, List.getElem?_cons_succ, List.set_cons_zero, List.set_cons_succ, List.getElem?_nil, Option.some.injEq, exists_eq_left', exists_eq_left, true_and, and_true, if_true, if_false, Bool.false_eq_true, reduceCtorEq, Dt.int.injEq, Dt.bl.injEq, Dt.str.injEq, Dt.lst.injEq, Dt.tup.injEq, Dt.ref.injEq, decide_eq_true_eq, List.length_cons, List.length_nil, Nat.zero_add, Nat.reduceAdd, Option.map_some, Bool.not_true, Bool.not_false, atI_0, atI_1, atI_2, atI_3, atI_4, ixN_0, ixN_1, ixN_2, ixN_3, ixN_4, w_var, w_int, w_str, w_bl, w_non, w_glob, w_bin, w_neg, w_cmp, w_cmp2, w_bop, w_b1, w_b2, w_not, w_ite, w_tup, w_lst, w_ix, w_sl, w_call, w_bi, w_mt, w_isi, w_lc, w_frz, w_es0, w_es1, w_o0, w_o1, w_tval, w_tcmp, w_tcmp2, w_tnot, w_tall, w_tany, w_all0, w_all1, w_all2, w_any0, w_any1, w_any2, it_t, it_l, w_seq, w_rng1, w_rng2, w_gn, w_gt, w_gi, w_gs0, w_gs1, s_asg, s_asgC, s_par, s_aug, s_expr, s_if, s_for, s_while, s_ret, s_retN, s_brk, s_cont, s_pass, s_nil, frz_l, frz_m, bin_add, bin_adds, bin_sub, bin_mul, bin_fdiv, bin_mod, bin_pow, bin_xor, cmp_lt, cmp_le, cmp_gt, cmp_ge, cmp_eqi, cmp_eqs, cmp_eqb, cmp_nei, cmp_nes, cmp_neb, cmp_is0, cmp_is1, cmp_is2, cmp_is3, cmp_is4, cmp_is5, cmp_is6, cmp_isn0, cmp_isn1, cmp_isn2, cmp_isn3, cmp_isn4, cmp_isn5, cmp_in, cmp_notin, bi_lens, bi_lent, bi_lenl, bi_min, bi_max, bi_abs, bi_listT, bi_listL, bi_tupT, bi_tupL, bi_maxL, bi_minL, bi_sumL, bi_anyL, bi_allL, bi_sorted, seqL_l, items_l, items_t, items_m, w_gl, new_f, new_t, ix_t, ix_l, tru_b, tru_n, tru_i, tru_l, tru_t, isi_b, isi_bi, isi_ii, isi_ib, isi_is, isi_it, isi_il, isi_sb, isi_si, isi_ss, isi_tb, isi_ti, isi_ts, isi_tt, isi_tl, isi_lb, isi_li, isi_ls, isi_lt, isi_ll, isi_nb, isi_ni, isi_ns, isi_nt, isi_nl, ix_m, tru_m, bi_lenm, seqL_m, mt_appm, mt_popm, mtOk_appm, mtOk_popm, it_m, ixSt_m]
      have z5 (a : Int) := emod_lt (a := a) (b := cap) hc
      split
      · unfold b__law_pull_14
        rw [wpSs_cons]
        simp only [Int.reduceNeg, Int.reduceAdd, Int.reduceSub, Int.reduceMul, cpow_10, cpow_2, Int.reduceLE, Int.reduceLT, Int.reduceToNat, Int.reducePow, mset_same, mset_mset, Tgs.len, List.getElem?_cons_zero, List.getElem?_cons_succ, List.set_cons_zero, List.set_cons_succ, List.getElem?_nil, Option.some.injEq, exists_eq_left', exists_eq_left, true_and, and_true, if_true, if_false, Bool.false_eq_true, reduceCtorEq, Dt.int.injEq, Dt.bl.injEq, Dt.str.injEq, Dt.lst.injEq, Dt.tup.injEq, Dt.ref.injEq, decide_eq_true_eq, List.length_cons, List.length_nil, Nat.zero_add, Nat.reduceAdd, Option.map_some, Bool.not_true, Bool.not_false, atI_0, atI_1, atI_2, atI_3, atI_4, ixN_0, ixN_1, ixN_2, ixN_3, ixN_4, w_var, w_int, w_str, w_bl, w_non, w_glob, w_bin, w_neg, w_cmp, w_cmp2, w_bop, w_b1, w_b2, w_not, w_ite, w_tup, w_lst, w_ix, w_sl, w_call, w_bi, w_mt, w_isi, w_lc, w_frz, w_es0, w_es1, w_o0, w_o1, w_tval, w_tcmp, w_tcmp2, w_tnot, w_tall, w_tany, w_all0, w_all1, w_all2, w_any0, w_any1, w_any2, it_t, it_l, w_seq, w_rng1, w_rng2, w_gn, w_gt, w_gi, w_gs0, w_gs1, s_asg, s_asgC, s_par, s_aug, s_expr, s_if, s_for, s_while, s_ret, s_retN, s_brk, s_cont, s_pass, s_nil, frz_l, frz_m, bin_add, bin_adds, bin_sub, bin_mul, bin_fdiv, bin_mod, bin_pow, bin_xor, cmp_lt, cmp_le, cmp_gt, cmp_ge, cmp_eqi, cmp_eqs, cmp_eqb, cmp_nei, cmp_nes, cmp_neb, cmp_is0, cmp_is1, cmp_is2, cmp_is3, cmp_is4, cmp_is5, cmp_is6, cmp_isn0, cmp_isn1, cmp_isn2, cmp_isn3, cmp_isn4, cmp_isn5, cmp_in, cmp_notin, bi_lens, bi_lent, bi_lenl, bi_min, bi_max, bi_abs, bi_listT, bi_listL, bi_tupT, bi_tupL, bi_maxL, bi_minL, bi_sumL, bi_anyL, bi_allL, bi_sorted, seqL_l, items_l, items_t, items_m, w_gl, new_f, new_t, ix_t, ix_l, tru_b, tru_n, tru_i, tru_l, tru_t, isi_b, isi_bi, isi_ii, isi_ib, isi_is, isi_it, isi_il, isi_sb, isi_si, isi_ss, isi_tb, isi_ti, isi_ts, isi_tt, isi_tl, isi_lb, isi_li, isi_ls, isi_lt, isi_ll, isi_nb, isi_ni, isi_ns, isi_nt, isi_nl, ix_m, tru_m, bi_lenm, seqL_m, mt_appm, mt_popm, mtOk_appm, mtOk_popm, it_m, ixSt_m]
        refine ⟨div_lit (by decide) (by decide), mul_r (by decide) (by decide), hc, ?_⟩
        rw [← hk]
        exact h _ ⟨cs, i, c, u⟩ ⟨i0, c0, z.1, z.2⟩ (z5 _).1 (z5 _).2
      · unfold b__law_pull_15
        rw [wpSs_cons]
        simp only [Int.reduceNeg, Int.reduceAdd, Int.reduceSub, Int.reduceMul, cpow_10, cpow_2, Int.reduceLE, Int.reduceLT, Int.reduceToNat, Int.reducePow, mset_same, mset_mset, Tgs.len, List.getElem?_cons_zero, List.getElem?_cons_succ, List.set_cons_zero, List.set_cons_succ, List.getElem?_nil, Option.some.injEq, exists_eq_left', exists_eq_left, true_and, and_true, if_true, if_false, Bool.false_eq_true, reduceCtorEq, Dt.int.injEq, Dt.bl.injEq, Dt.str.injEq, Dt.lst.injEq, Dt.tup.injEq, Dt.ref.injEq, decide_eq_true_eq, List.length_cons, List.length_nil, Nat.zero_add, Nat.reduceAdd, Option.map_some, Bool.not_true, Bool.not_false, atI_0, atI_1, atI_2, atI_3, atI_4, ixN_0, ixN_1, ixN_2, ixN_3, ixN_4, w_var, w_int, w_str, w_bl, w_non, w_glob, w_bin, w_neg, w_cmp, w_cmp2, w_bop, w_b1, w_b2, w_not, w_ite, w_tup, w_lst, w_ix, w_sl, w_call, w_bi, w_mt, w_isi, w_lc, w_frz, w_es0, w_es1, w_o0, w_o1, w_tval, w_tcmp, w_tcmp2, w_tnot, w_tall, w_tany, w_all0, w_all1, w_all2, w_any0, w_any1, w_any2, it_t, it_l, w_seq, w_rng1, w_rng2, w_gn, w_gt, w_gi, w_gs0, w_gs1, s_asg, s_asgC, s_par, s_aug, s_expr, s_if, s_for, s_while, s_ret, s_retN, s_brk, s_cont, s_pass, s_nil, frz_l, frz_m, bin_add, bin_adds, bin_sub, bin_mul, bin_fdiv, bin_mod, bin_pow, bin_xor, cmp_lt, cmp_le, cmp_gt, cmp_ge, cmp_eqi, cmp_eqs, cmp_eqb, cmp_nei, cmp_nes, cmp_neb, cmp_is0, cmp_is1, cmp_is2, cmp_is3, cmp_is4, cmp_is5, cmp_is6, cmp_isn0, cmp_isn1, cmp_isn2, cmp_isn3, cmp_isn4, cmp_isn5, cmp_in, cmp_notin, bi_lens, bi_lent, bi_lenl, bi_min, bi_max, bi_abs, bi_listT, bi_listL, bi_tupT, bi_tupL, bi_maxL, bi_minL, bi_sumL, bi_anyL, bi_allL, bi_sorted, seqL_l, items_l, items_t, items_m, w_gl, new_f, new_t, ix_t, ix_l, tru_b, tru_n, tru_i, tru_l, tru_t, isi_b, isi_bi, isi_ii, isi_ib, isi_is, isi_it, isi_il, isi_sb, isi_si, isi_ss, isi_tb, isi_ti, isi_ts, isi_tt, isi_tl, isi_lb, isi_li, isi_ls, isi_lt, isi_ll, isi_nb, isi_ni, isi_ns, isi_nt, isi_nl, ix_m, tru_m, bi_lenm, seqL_m, mt_appm, mt_popm, mtOk_appm, mtOk_popm, it_m, ixSt_m]
        refine ⟨⟨by decide, by decide, by omega⟩, div_lit (by decide) (by decide), hc, ?_⟩
        rw [← hk]
        exact h _ ⟨cs, i, c, u⟩ ⟨i0, c0, z.1, z.2⟩ (z5 _).1 (z5 _).2
end Fm

/-! The engine, part N: loops, the opening of a draw, the comparing def. -/
namespace Fm
open PySem L2 PySem.Spec PyProof.Rows

theorem forRun_from {keep : Mm → Prop} {step : Dt → Rho → Mm → QR → Prop} {q : QR} (I : Nat → Rho → Mm → Prop) (ds : List Dt) (hk : ∀ i ρ M, I i ρ M → keep M)
    (hs : ∀ i d ρ M (n : QR), ds[i]? = some d → I i ρ M → (∀ ρ' M', I (i + 1) ρ' M' → n ρ' M') → step d ρ M n) (he : ∀ ρ M, I ds.length ρ M → q ρ M) :
    ∀ (r : List Dt) (i : Nat) (ρ : Rho) (M : Mm), r = ds.drop i → i ≤ ds.length → I i ρ M → forRun keep step r ρ M q
  | [], i, ρ, M, e, hi, h => by
    have : i = ds.length := by
      have := congrArg List.length e
      rw [List.length_drop, List.length_nil] at this
      omega
    subst this
    exact ⟨hk _ _ _ h, he _ _ h⟩
  | d :: r, i, ρ, M, e, hi, h => by
    have hl : i < ds.length := by
      have := congrArg List.length e
      rw [List.length_drop, List.length_cons] at this
      omega
    rw [List.drop_eq_getElem_cons hl] at e
    obtain ⟨e1, e2⟩ := List.cons.inj e
    refine ⟨hk _ _ _ h, hs i d ρ M _ (by rw [List.getElem?_eq_getElem hl, e1]) h fun ρ' M' h' => ?_⟩
    exact forRun_from I ds hk hs he r (i + 1) ρ' M' e2 hl h'
/-- a for loop, by what holds ahead of each turn -/
theorem forRun_inv {keep : Mm → Prop} {step : Dt → Rho → Mm → QR → Prop} {q : QR} {ds : List Dt} {ρ : Rho} {M : Mm} (I : Nat → Rho → Mm → Prop) (h0 : I 0 ρ M) (hk : ∀ i ρ M, I i ρ M → keep M)
    (hs : ∀ i d ρ M (n : QR), ds[i]? = some d → I i ρ M → (∀ ρ' M', I (i + 1) ρ' M' → n ρ' M') → step d ρ M n) (he : ∀ ρ M, I ds.length ρ M → q ρ M) : forRun keep step ds ρ M q :=
  forRun_from I ds hk hs he ds 0 ρ M rfl (Nat.zero_le _) h0
theorem lcRun_from {step : Dt → Mm → (Option Dt → Mm → Prop) → Prop} {q : QL} (I : Nat → List Dt → Mm → Prop) (ds : List Dt) (hs : ∀ i d acc M (n : Option Dt → Mm → Prop), ds[i]? = some d → I i acc M → (∀ o M', (∀ y, o = some y → acc.length < sizeLine → I (i + 1) (acc ++ [y]) M') → (o = none → I (i + 1) acc M') → n o M') → step d M n)
    (hl : ∀ i acc M, I i acc M → acc.length ≤ i) (hz : ds.length ≤ sizeLine) (he : ∀ acc M, I ds.length acc M → q acc M) :
    ∀ (r : List Dt) (i : Nat) (acc : List Dt) (M : Mm), r = ds.drop i → i ≤ ds.length → I i acc M → lcRun step r acc M q
  | [], i, acc, M, e, hi, h => by
    have : i = ds.length := by
      have := congrArg List.length e
      rw [List.length_drop, List.length_nil] at this
      omega
    subst this
    exact he _ _ h
  | d :: r, i, acc, M, e, hi, h => by
    have hlt : i < ds.length := by
      have := congrArg List.length e
      rw [List.length_drop, List.length_cons] at this
      omega
    rw [List.drop_eq_getElem_cons hlt] at e
    obtain ⟨e1, e2⟩ := List.cons.inj e
    have hacc := hl _ _ _ h
    refine hs i d acc M _ (by rw [List.getElem?_eq_getElem hlt, e1]) h fun o M' h1 h2 => ?_
    cases o with
    | none => exact lcRun_from I ds hs hl hz he r (i + 1) acc M' e2 hlt (h2 rfl)
    | some y => exact ⟨by omega, lcRun_from I ds hs hl hz he r (i + 1) (acc ++ [y]) M' e2 hlt (h1 y rfl (by omega))⟩
/-- a comprehension that leaves the memory -/
theorem lcRun_map {step : Dt → Mm → (Option Dt → Mm → Prop) → Prop} {q : QL} {M : Mm} (f : Dt → Option Dt) : ∀ (ds acc : List Dt), (∀ d, d ∈ ds → ∀ k : Option Dt → Mm → Prop, k (f d) M → step d M k) → acc.length + ds.length ≤ sizeLine → q (acc ++ ds.filterMap f) M → lcRun step ds acc M q
  | [], acc, _, _, h => by
    have h' : q (acc ++ []) M := h
    rw [List.append_nil] at h'
    exact h'
  | d :: ds, acc, hs, hl, h => by
    rw [List.length_cons] at hl
    refine hs d List.mem_cons_self _ ?_
    rw [List.filterMap_cons] at h
    cases e : f d with
    | none =>
      rw [e] at h
      exact lcRun_map f ds acc (fun d hd => hs d (List.mem_cons_of_mem _ hd)) (by omega) h
    | some y =>
      rw [e] at h
      refine ⟨by omega, lcRun_map f ds (acc ++ [y]) (fun d hd => hs d (List.mem_cons_of_mem _ hd)) (by rw [List.length_append, List.length_cons, List.length_nil]; omega) ?_⟩
      rw [List.append_assoc]
      exact h
theorem whRun_inv {step : QR → Rho → Mm → Prop} (I : Nat → Rho → Mm → Prop) (hs : ∀ m ρ M (n : QR), I m ρ M → (∀ m' ρ' M', m' < m → I m' ρ' M' → n ρ' M') → step n ρ M) : ∀ (f m : Nat) (ρ : Rho) (M : Mm), m < f → I m ρ M → whRun step f ρ M
  | 0, _, _, _, h, _ => absurd h (Nat.not_lt_zero _)
  | f + 1, m, ρ, M, h, i => hs m ρ M _ i fun m' ρ' M' hm i' => whRun_inv I hs f m' ρ' M' (by omega) i'
/-- a while loop, by what holds ahead of each turn and how many are left -/
theorem while_inv {step : QR → Rho → Mm → Prop} {ρ : Rho} {M : Mm} (I : Nat → Rho → Mm → Prop) (m : Nat) (h : I m ρ M) (hs : ∀ m ρ M (n : QR), I m ρ M → (∀ m' ρ' M', m' < m → I m' ρ' M' → n ρ' M') → step n ρ M) : ∃ n, whRun step n ρ M :=
  ⟨m + 1, whRun_inv I hs (m + 1) m ρ M (Nat.lt_succ_self m) h⟩
theorem cut_to {xs : List Dt} {n : Nat} : cutD xs none (some (n : Int)) = xs.take n := by
  unfold cutD
  rw [HT.sIx_none, HT.sIx_nat, List.drop_zero, Nat.sub_zero]
  by_cases h : n ≤ xs.length
  · rw [Nat.min_eq_left h]
  · rw [Nat.min_eq_right (by omega), List.take_of_length_le (Nat.le_refl _), List.take_of_length_le (by omega)]
theorem cut_from {xs : List Dt} {n : Nat} : cutD xs (some (n : Int)) none = xs.drop n := by
  unfold cutD
  rw [HT.sIx_none, HT.sIx_nat]
  by_cases h : n ≤ xs.length
  · rw [Nat.min_eq_left h, List.take_of_length_le (by rw [List.length_drop]; omega)]
  · rw [Nat.min_eq_right (by omega), List.drop_of_length_le (Nat.le_refl _), List.drop_of_length_le (by omega)]
    exact List.take_nil
theorem cut_all {xs : List Dt} : cutD xs none none = xs := by
  unfold cutD
  rw [HT.sIx_none, HT.sIx_none, List.drop_zero, Nat.sub_zero, List.take_length]

/-! ### the opening -/
def OpenOk (W : Wf) : Prop := ∀ (ns : List Int) M q x, ns.length ≤ 63 → (∀ (p : Addr) (d : Drw), M p = none → d.Ok → q (.ref p) (mset M p (some d.o))) → W.run [.lst (ns.map .int)] M q x
theorem open_ok (G : Gt) : OpenOk (wfB G n__law_open 1 b__law_open) := by
  intro ns M q x hl h
  refine ⟨rfl, ?_⟩
  have e0 : startR n__law_open [.lst (ns.map .int)] = [some (.lst (ns.map .int)), none, none] := rfl
  rw [e0]
  generalize hk : bodyK q x = k
  have ecut : cutD (ns.map Dt.int) none (some (63 : Int)) = ns.map Dt.int := by
    have := cut_to (xs := ns.map Dt.int) (n := 63)
    rw [List.take_of_length_le (by rw [List.length_map]; exact hl)] at this
    exact this
  unfold b__law_open b__law_open_0
  rw [wpSs_cons]
  simp only [Int.reduceNeg, Int.reduceAdd, Int.reduceSub, Int.reduceMul, cpow_10, cpow_2, Int.reduceLE, Int.reduceLT, Int.reduceToNat, Int.reducePow, mset_same, mset_mset, Tgs.len, List.getElem?_cons_zero, List.getElem?_cons_succ, List.set_cons_zero, List.set_cons_succ, List.getElem?_nil, Option.some.injEq, exists_eq_left', exists_eq_left, true_and, and_true, if_true, if_false, Bool.false_eq_true, reduceCtorEq, Dt.int.injEq, Dt.bl.injEq, Dt.str.injEq, Dt.lst.injEq, Dt.tup.injEq, Dt.ref.injEq, decide_eq_true_eq, List.length_cons, List.length_nil, Nat.zero_add, Nat.reduceAdd, Option.map_some, Bool.not_true, Bool.not_false, atI_0, atI_1, atI_2, atI_3, atI_4, ixN_0, ixN_1, ixN_2, ixN_3, ixN_4, w_var, w_int, w_str, w_bl, w_non, w_glob, w_bin, w_neg, w_cmp, w_cmp2, w_bop, w_b1, w_b2, w_not, w_ite, w_tup, w_lst, w_ix, w_sl, w_call, w_bi, w_mt, w_isi, w_lc, w_frz, w_es0, w_es1, w_o0, w_o1, w_tval, w_tcmp, w_tcmp2, w_tnot, w_tall, w_tany, w_all0, w_all1, w_all2, w_any0, w_any1, w_any2, it_t, it_l, w_seq, w_rng1, w_rng2, w_gn, w_gt, w_gi, w_gs0, w_gs1, s_asg, s_asgC, s_par, s_aug, s_expr, s_if, s_for, s_while, s_ret, s_retN, s_brk, s_cont, s_pass, s_nil, frz_l, frz_m, bin_add, bin_adds, bin_sub, bin_mul, bin_fdiv, bin_mod, bin_pow, bin_xor, cmp_lt, cmp_le, cmp_gt, cmp_ge, cmp_eqi, cmp_eqs, cmp_eqb, cmp_nei, cmp_nes, cmp_neb, cmp_is0, cmp_is1, cmp_is2, cmp_is3, cmp_is4, cmp_is5, cmp_is6, cmp_isn0, cmp_isn1, cmp_isn2, cmp_isn3, cmp_isn4, cmp_isn5, cmp_in, cmp_notin, bi_lens, bi_lent, bi_lenl, bi_min, bi_max, bi_abs, bi_listT, bi_listL, bi_tupT, bi_tupL, bi_maxL, bi_minL, bi_sumL, bi_anyL, bi_allL, bi_sorted, seqL_l, items_l, items_t, items_m, w_gl, new_f, new_t, ix_t, ix_l, tru_b, tru_n, tru_i, tru_l, tru_t, isi_b, isi_bi, isi_ii, isi_ib, isi_is, isi_it, isi_il, isi_sb, isi_si, isi_ss, isi_tb, isi_ti, isi_ts, isi_tt, isi_tl, isi_lb, isi_li, isi_ls, isi_lt, isi_ll, isi_nb, isi_ni, isi_ns, isi_nt, isi_nl, ix_m, tru_m, bi_lenm, seqL_m, mt_appm, mt_popm, mtOk_appm, mtOk_popm, it_m, ixSt_m]
  unfold b__law_open_1
  rw [wpSs_cons]
  simp only [Int.reduceNeg, Int.reduceAdd, Int.reduceSub, Int.reduceMul, cpow_10, cpow_2, Int.reduceLE, Int.reduceLT, Int.reduceToNat, Int.reducePow, mset_same, mset_mset, Tgs.len, List.getElem?_cons_zero, List.getElem?_cons_succ, List.set_cons_zero, List.set_cons_succ, List.getElem?_nil, Option.some.injEq, exists_eq_left', exists_eq_left, true_and, and_true, if_true, if_false, Bool.false_eq_true, reduceCtorEq, Dt.int.injEq, Dt.bl.injEq, Dt.str.injEq, Dt.lst.injEq, Dt.tup.injEq, Dt.ref.injEq, decide_eq_true_eq, List.length_cons, List.length_nil, Nat.zero_add, Nat.reduceAdd, Option.map_some, Bool.not_true, Bool.not_false, atI_0, atI_1, atI_2, atI_3, atI_4, ixN_0, ixN_1, ixN_2, ixN_3, ixN_4, w_var, w_int, w_str, w_bl, w_non, w_glob, w_bin, w_neg, w_cmp, w_cmp2, w_bop, w_b1, w_b2, w_not, w_ite, w_tup, w_lst, w_ix, w_sl, w_call, w_bi, w_mt, w_isi, w_lc, w_frz, w_es0, w_es1, w_o0, w_o1, w_tval, w_tcmp, w_tcmp2, w_tnot, w_tall, w_tany, w_all0, w_all1, w_all2, w_any0, w_any1, w_any2, it_t, it_l, w_seq, w_rng1, w_rng2, w_gn, w_gt, w_gi, w_gs0, w_gs1, s_asg, s_asgC, s_par, s_aug, s_expr, s_if, s_for, s_while, s_ret, s_retN, s_brk, s_cont, s_pass, s_nil, frz_l, frz_m, bin_add, bin_adds, bin_sub, bin_mul, bin_fdiv, bin_mod, bin_pow, bin_xor, cmp_lt, cmp_le, cmp_gt, cmp_ge, cmp_eqi, cmp_eqs, cmp_eqb, cmp_nei, cmp_nes, cmp_neb, cmp_is0, cmp_is1, cmp_is2, cmp_is3, cmp_is4, cmp_is5, cmp_is6, cmp_isn0, cmp_isn1, cmp_isn2, cmp_isn3, cmp_isn4, cmp_isn5, cmp_in, cmp_notin, bi_lens, bi_lent, bi_lenl, bi_min, bi_max, bi_abs, bi_listT, bi_listL, bi_tupT, bi_tupL, bi_maxL, bi_minL, bi_sumL, bi_anyL, bi_allL, bi_sorted, seqL_l, items_l, items_t, items_m, w_gl, new_f, new_t, ix_t, ix_l, tru_b, tru_n, tru_i, tru_l, tru_t, isi_b, isi_bi, isi_ii, isi_ib, isi_is, isi_it, isi_il, isi_sb, isi_si, isi_ss, isi_tb, isi_ti, isi_ts, isi_tt, isi_tl, isi_lb, isi_li, isi_ls, isi_lt, isi_ll, isi_nb, isi_ni, isi_ns, isi_nt, isi_nl, ix_m, tru_m, bi_lenm, seqL_m, mt_appm, mt_popm, mtOk_appm, mtOk_popm, it_m, ixSt_m, ecut]
  refine forRun_inv (fun _ ρ' M' => ∃ (s : Int) (o : Option Dt), 0 ≤ s ∧ s < 2147483629 ∧ ρ' = [some (.lst (ns.map .int)), some (.int s), o] ∧ M' = M) ⟨_, _, by decide, by decide, rfl, rfl⟩ (fun _ _ _ _ => trivial) ?_ ?_
  · rintro i d ρ' M' n hd ⟨s, o, s0, s1, rfl, rfl⟩ hn
    obtain ⟨c, hc, rfl⟩ : ∃ c, ns[i]? = some c ∧ .int c = d := by
      rw [List.getElem?_map] at hd
      cases q : ns[i]? with
      | none => rw [q] at hd; cases hd
      | some c => rw [q] at hd; exact ⟨c, rfl, Option.some.inj hd⟩
    simp only [Int.reduceNeg, Int.reduceAdd, Int.reduceSub, Int.reduceMul, cpow_10, cpow_2, Int.reduceLE, Int.reduceLT, Int.reduceToNat, Int.reducePow, mset_same, mset_mset, Tgs.len, List.getElem?_cons_zero, List.getElem?_cons_succ, List.set_cons_zero, List.set_cons_succ, List.getElem?_nil, Option.some.injEq, exists_eq_left', exists_eq_left, true_and, and_true, if_true, if_false, Bool.false_eq_true, reduceCtorEq, Dt.int.injEq, Dt.bl.injEq, Dt.str.injEq, Dt.lst.injEq, Dt.tup.injEq, Dt.ref.injEq, decide_eq_true_eq, List.length_cons, List.length_nil, Nat.zero_add, Nat.reduceAdd, Option.map_some, Bool.not_true, Bool.not_false, atI_0, atI_1, atI_2, atI_3, atI_4, ixN_0, ixN_1, ixN_2, ixN_3, ixN_4, w_var, w_int, w_str, w_bl, w_non, w_glob, w_bin, w_neg, w_cmp, w_cmp2, w_bop, w_b1, w_b2, w_not, w_ite, w_tup, w_lst, w_ix, w_sl, w_call, w_bi, w_mt, w_isi, w_lc, w_frz, w_es0, w_es1, w_o0, w_o1, w_tval, w_tcmp, w_tcmp2, w_tnot, w_tall, w_tany, w_all0, w_all1, w_all2, w_any0, w_any1, w_any2, it_t, it_l, w_seq, w_rng1, w_rng2, w_gn, w_gt, w_gi, w_gs0, w_gs1, s_asg, s_asgC, s_par, s_aug, s_expr, s_if, s_for, s_while, s_ret, s_retN, s_brk, s_cont, s_pass, s_nil, frz_l, frz_m, bin_add, bin_adds, bin_sub, bin_mul, bin_fdiv, bin_mod, bin_pow, bin_xor, cmp_lt, cmp_le, cmp_gt, cmp_ge, cmp_eqi, cmp_eqs, cmp_eqb, cmp_nei, cmp_nes, cmp_neb, cmp_is0, cmp_is1, cmp_is2, cmp_is3, cmp_is4, cmp_is5, cmp_is6, cmp_isn0, cmp_isn1, cmp_isn2, cmp_isn3, cmp_isn4, cmp_isn5, cmp_in, cmp_notin, bi_lens, bi_lent, bi_lenl, bi_min, bi_max, bi_abs, bi_listT, bi_listL, bi_tupT, bi_tupL, bi_maxL, bi_minL, bi_sumL, bi_anyL, bi_allL, bi_sorted, seqL_l, items_l, items_t, items_m, w_gl, new_f, new_t, ix_t, ix_l, tru_b, tru_n, tru_i, tru_l, tru_t, isi_b, isi_bi, isi_ii, isi_ib, isi_is, isi_it, isi_il, isi_sb, isi_si, isi_ss, isi_tb, isi_ti, isi_ts, isi_tt, isi_tl, isi_lb, isi_li, isi_ls, isi_lt, isi_ll, isi_nb, isi_ni, isi_ns, isi_nt, isi_nl, ix_m, tru_m, bi_lenm, seqL_m, mt_appm, mt_popm, mtOk_appm, mtOk_popm, it_m, ixSt_m]
    unfold b__law_open_2
    rw [wpSs_cons]
    simp only [Int.reduceNeg, Int.reduceAdd, Int.reduceSub, Int.reduceMul, cpow_10, cpow_2, Int.reduceLE, Int.reduceLT, Int.reduceToNat, Int.reducePow, mset_same, mset_mset, Tgs.len, List.getElem?_cons_zero, List.getElem?_cons_succ, List.set_cons_zero, List.set_cons_succ, List.getElem?_nil, Option.some.injEq, exists_eq_left', exists_eq_left, true_and, and_true, if_true, if_false, Bool.false_eq_true, reduceCtorEq, Dt.int.injEq, Dt.bl.injEq, Dt.str.injEq, Dt.lst.injEq, Dt.tup.injEq, Dt.ref.injEq, decide_eq_true_eq, List.length_cons, List.length_nil, Nat.zero_add, Nat.reduceAdd, Option.map_some, Bool.not_true, Bool.not_false, atI_0, atI_1, atI_2, atI_3, atI_4, ixN_0, ixN_1, ixN_2, ixN_3, ixN_4, w_var, w_int, w_str, w_bl, w_non, w_glob, w_bin, w_neg, w_cmp, w_cmp2, w_bop, w_b1, w_b2, w_not, w_ite, w_tup, w_lst, w_ix, w_sl, w_call, w_bi, w_mt, w_isi, w_lc, w_frz, w_es0, w_es1, w_o0, w_o1, w_tval, w_tcmp, w_tcmp2, w_tnot, w_tall, w_tany, w_all0, w_all1, w_all2, w_any0, w_any1, w_any2, it_t, it_l, w_seq, w_rng1, w_rng2, w_gn, w_gt, w_gi, w_gs0, w_gs1, s_asg, s_asgC, s_par, s_aug, s_expr, s_if, s_for, s_while, s_ret, s_retN, s_brk, s_cont, s_pass, s_nil, frz_l, frz_m, bin_add, bin_adds, bin_sub, bin_mul, bin_fdiv, bin_mod, bin_pow, bin_xor, cmp_lt, cmp_le, cmp_gt, cmp_ge, cmp_eqi, cmp_eqs, cmp_eqb, cmp_nei, cmp_nes, cmp_neb, cmp_is0, cmp_is1, cmp_is2, cmp_is3, cmp_is4, cmp_is5, cmp_is6, cmp_isn0, cmp_isn1, cmp_isn2, cmp_isn3, cmp_isn4, cmp_isn5, cmp_in, cmp_notin, bi_lens, bi_lent, bi_lenl, bi_min, bi_max, bi_abs, bi_listT, bi_listL, bi_tupT, bi_tupL, bi_maxL, bi_minL, bi_sumL, bi_anyL, bi_allL, bi_sorted, seqL_l, items_l, items_t, items_m, w_gl, new_f, new_t, ix_t, ix_l, tru_b, tru_n, tru_i, tru_l, tru_t, isi_b, isi_bi, isi_ii, isi_ib, isi_is, isi_it, isi_il, isi_sb, isi_si, isi_ss, isi_tb, isi_ti, isi_ts, isi_tt, isi_tl, isi_lb, isi_li, isi_ls, isi_lt, isi_ll, isi_nb, isi_ni, isi_ns, isi_nt, isi_nl, ix_m, tru_m, bi_lenm, seqL_m, mt_appm, mt_popm, mtOk_appm, mtOk_popm, it_m, ixSt_m]
    have z := emod_lt (a := s * 69621 + c % 2147483587 + 11) (b := 2147483629) (by decide)
    exact ⟨mul_r (by decide) (by decide), hn _ _ ⟨_, _, z.1, z.2, rfl, rfl⟩⟩
  · rintro ρ' M' ⟨s, o, s0, s1, rfl, rfl⟩
    unfold b__law_open_3
    rw [wpSs_cons]
    simp only [Int.reduceNeg, Int.reduceAdd, Int.reduceSub, Int.reduceMul, cpow_10, cpow_2, Int.reduceLE, Int.reduceLT, Int.reduceToNat, Int.reducePow, mset_same, mset_mset, Tgs.len, List.getElem?_cons_zero, List.getElem?_cons_succ, List.set_cons_zero, List.set_cons_succ, List.getElem?_nil, Option.some.injEq, exists_eq_left', exists_eq_left, true_and, and_true, if_true, if_false, Bool.false_eq_true, reduceCtorEq, Dt.int.injEq, Dt.bl.injEq, Dt.str.injEq, Dt.lst.injEq, Dt.tup.injEq, Dt.ref.injEq, decide_eq_true_eq, List.length_cons, List.length_nil, Nat.zero_add, Nat.reduceAdd, Option.map_some, Bool.not_true, Bool.not_false, atI_0, atI_1, atI_2, atI_3, atI_4, ixN_0, ixN_1, ixN_2, ixN_3, ixN_4, w_var, w_int, w_str, w_bl, w_non, w_glob, w_bin, w_neg, w_cmp, w_cmp2, w_bop, w_b1, w_b2, w_not, w_ite, w_tup, w_lst, w_ix, w_sl, w_call, w_bi, w_mt, w_isi, w_lc, w_frz, w_es0, w_es1, w_o0, w_o1, w_tval, w_tcmp, w_tcmp2, w_tnot, w_tall, w_tany, w_all0, w_all1, w_all2, w_any0, w_any1, w_any2, it_t, it_l, w_seq, w_rng1, w_rng2, w_gn, w_gt, w_gi, w_gs0, w_gs1, s_asg, s_asgC, s_par, s_aug, s_expr, s_if, s_for, s_while, s_ret, s_retN, s_brk, s_cont, s_pass, s_nil, frz_l, frz_m, bin_add, bin_adds, bin_sub, bin_mul, bin_fdiv, bin_mod, bin_pow, bin_xor, cmp_lt, cmp_le, cmp_gt, cmp_ge, cmp_eqi, cmp_eqs, cmp_eqb, cmp_nei, cmp_nes, cmp_neb, cmp_is0, cmp_is1, cmp_is2, cmp_is3, cmp_is4, cmp_is5, cmp_is6, cmp_isn0, cmp_isn1, cmp_isn2, cmp_isn3, cmp_isn4, cmp_isn5, cmp_in, cmp_notin, bi_lens, bi_lent, bi_lenl, bi_min, bi_max, bi_abs, bi_listT, bi_listL, bi_tupT, bi_tupL, bi_maxL, bi_minL, bi_sumL, bi_anyL, bi_allL, bi_sorted, seqL_l, items_l, items_t, items_m, w_gl, new_f, new_t, ix_t, ix_l, tru_b, tru_n, tru_i, tru_l, tru_t, isi_b, isi_bi, isi_ii, isi_ib, isi_is, isi_it, isi_il, isi_sb, isi_si, isi_ss, isi_tb, isi_ti, isi_ts, isi_tt, isi_tl, isi_lb, isi_li, isi_ls, isi_lt, isi_ll, isi_nb, isi_ni, isi_ns, isi_nt, isi_nl, ix_m, tru_m, bi_lenm, seqL_m, mt_appm, mt_popm, mtOk_appm, mtOk_popm, it_m, ixSt_m, ecut]
    refine ⟨by decide, fun p hp => ?_⟩
    rw [← hk]
    exact h p ⟨ns, 0, 0, s⟩ hp ⟨Int.le_refl 0, Int.le_refl 0, s0, s1⟩

/-! ### the comparing -/
/-- a list or a tuple of these -/
def SeqD (t : Bool) (M : Mm) (d : Dt) (xs : List Dt) : Prop := (t = true ∧ d = .tup xs) ∨ (t = false ∧ (d = .lst xs ∨ ∃ a, d = .ref a ∧ M a = some (.lst xs)))
section
variable {t : Bool} {M : Mm} {d : Dt} {xs : List Dt} {q : QD}
theorem SeqD.isi_l {M : Mm} {a : Addr} {xs : List Dt} (h : M a = some (.lst xs)) (n : String) : isiD M (.ref a) [.ty n] = isiD M (.lst xs) [.ty n] := by
  have e : tyD M (.ref a) = some "list" := by
    show tyMo (M a) = _
    rw [h]; rfl
  show (match tyD M (.ref a) with
    | some t => (match kitB t n with
      | some true => some true
      | some false => some false
      | none => none)
    | none => none) = _
  rw [e]; rfl
theorem SeqD.facts (h : SeqD t M d xs) : cmpD .is_ d .non M = some false ∧ isiD M d [.ty "bool"] = some false ∧ isiD M d [.ty "int"] = some false ∧ isiD M d [.ty "str"] = some false ∧ isiD M d [.ty "tuple"] = some t ∧ isiD M d [.ty "list"] = some (!t) := by
  rcases h with ⟨rfl, rfl⟩ | ⟨rfl, rfl | ⟨a, rfl, e⟩⟩
  · exact ⟨rfl, rfl, rfl, rfl, rfl, rfl⟩
  · exact ⟨rfl, rfl, rfl, rfl, rfl, rfl⟩
  · refine ⟨rfl, ?_, ?_, ?_, ?_, ?_⟩ <;> rw [SeqD.isi_l e] <;> rfl
theorem SeqD.len (h : SeqD t M d xs) : biD .len [d] M q = q (.int xs.length) M := by
  rcases h with ⟨rfl, rfl⟩ | ⟨rfl, rfl | ⟨a, rfl, e⟩⟩
  · rfl
  · rfl
  · exact bi_lenr e
theorem SeqD.ix (h : SeqD t M d xs) {i : Int} : ixD M d (.int i) = atI xs i := by
  rcases h with ⟨rfl, rfl⟩ | ⟨rfl, rfl | ⟨a, rfl, e⟩⟩
  · rfl
  · rfl
  · exact ix_r e
end
def Like (M : Mm) : Nat → Dt → Dt → Prop
  | 0, _, _ => False
  | n + 1, d, e => (d = .non ∧ e = .non) ∨ (∃ b, d = .bl b ∧ e = .bl b) ∨ (∃ i, d = .int i ∧ e = .int i) ∨ (∃ s, d = .str s ∧ e = .str s) ∨
      ∃ t xs ys, SeqD t M d xs ∧ SeqD t M e ys ∧ xs.length = ys.length ∧ ys.length ≤ sizeLine ∧ ∀ (i : Nat) x y, xs[i]? = some x → ys[i]? = some y → Like M n x y
def LikeOk (n : Nat) (W : Wf) : Prop := ∀ d e M q x, Like M n d e → q (.bl true) M → W.run [d, e] M q x
theorem all_true {ds : List Dt} (h : ∀ d, d ∈ ds → d = .bl true) : ∃ bs : List Bool, ds = bs.map .bl ∧ bs.all id = true := by
  refine ⟨List.replicate ds.length true, ?_, by simp⟩
  rw [List.map_replicate]
  exact List.eq_replicate_iff.mpr ⟨rfl, h⟩
theorem like_ok {n : Nat} {G : Gt} (hc : LikeOk n (G.call 53)) : LikeOk (n + 1) (wfB G n__law_like 2 b__law_like) := by
  intro d e M q x hl h
  refine ⟨rfl, ?_⟩
  have e0 : startR n__law_like [d, e] = [some d, some e, none] := rfl
  rw [e0]
  generalize hk : bodyK q x = k
  have hrt : k.rt (.bl true) M := by rw [← hk]; exact h
  unfold b__law_like b__law_like_0
  rw [wpSs_cons]
  rcases hl with ⟨rfl, rfl⟩ | ⟨b, rfl, rfl⟩ | ⟨i, rfl, rfl⟩ | ⟨s, rfl, rfl⟩ | ⟨t, xs, ys, h1, h2, h3, h4, h5⟩
  · simp only [Int.reduceNeg, Int.reduceAdd, Int.reduceSub, Int.reduceMul, cpow_10, cpow_2, Int.reduceLE, Int.reduceLT, Int.reduceToNat, Int.reducePow, mset_same, mset_mset, Tgs.len, List.getElem?_cons_zero, List.getElem?_cons_succ, List.set_cons_zero, List.set_cons_succ, List.getElem?_nil, Option.some.injEq, exists_eq_left', exists_eq_left, true_and, and_true, if_true, if_false, Bool.false_eq_true, reduceCtorEq, Dt.int.injEq, Dt.bl.injEq, Dt.str.injEq, Dt.lst.injEq, Dt.tup.injEq, Dt.ref.injEq, decide_eq_true_eq, List.length_cons, List.length_nil, Nat.zero_add, Nat.reduceAdd, Option.map_some, Bool.not_true, Bool.not_false, atI_0, atI_1, atI_2, atI_3, atI_4, ixN_0, ixN_1, ixN_2, ixN_3, ixN_4, w_var, w_int, w_str, w_bl, w_non, w_glob, w_bin, w_neg, w_cmp, w_cmp2, w_bop, w_b1, w_b2, w_not, w_ite, w_tup, w_lst, w_ix, w_sl, w_call, w_bi, w_mt, w_isi, w_lc, w_frz, w_es0, w_es1, w_o0, w_o1, w_tval, w_tcmp, w_tcmp2, w_tnot, w_tall, w_tany, w_all0, w_all1, w_all2, w_any0, w_any1, w_any2, it_t, it_l, w_seq, w_rng1, w_rng2, w_gn, w_gt, w_gi, w_gs0, w_gs1, s_asg, s_asgC, s_par, s_aug, s_expr, s_if, s_for, s_while, s_ret, s_retN, s_brk, s_cont, s_pass, s_nil, frz_l, frz_m, bin_add, bin_adds, bin_sub, bin_mul, bin_fdiv, bin_mod, bin_pow, bin_xor, cmp_lt, cmp_le, cmp_gt, cmp_ge, cmp_eqi, cmp_eqs, cmp_eqb, cmp_nei, cmp_nes, cmp_neb, cmp_is0, cmp_is1, cmp_is2, cmp_is3, cmp_is4, cmp_is5, cmp_is6, cmp_isn0, cmp_isn1, cmp_isn2, cmp_isn3, cmp_isn4, cmp_isn5, cmp_in, cmp_notin, bi_lens, bi_lent, bi_lenl, bi_min, bi_max, bi_abs, bi_listT, bi_listL, bi_tupT, bi_tupL, bi_maxL, bi_minL, bi_sumL, bi_anyL, bi_allL, bi_sorted, seqL_l, items_l, items_t, items_m, w_gl, new_f, new_t, ix_t, ix_l, tru_b, tru_n, tru_i, tru_l, tru_t, isi_b, isi_bi, isi_ii, isi_ib, isi_is, isi_it, isi_il, isi_sb, isi_si, isi_ss, isi_tb, isi_ti, isi_ts, isi_tt, isi_tl, isi_lb, isi_li, isi_ls, isi_lt, isi_ll, isi_nb, isi_ni, isi_ns, isi_nt, isi_nl, ix_m, tru_m, bi_lenm, seqL_m, mt_appm, mt_popm, mtOk_appm, mtOk_popm, it_m, ixSt_m]
    unfold b__law_like_1
    rw [wpSs_cons]
    simp only [Int.reduceNeg, Int.reduceAdd, Int.reduceSub, Int.reduceMul, cpow_10, cpow_2, Int.reduceLE, Int.reduceLT, Int.reduceToNat, Int.reducePow, mset_same, mset_mset, Tgs.len, List.getElem?_cons_zero, List.getElem?_cons_succ, List.set_cons_zero, List.set_cons_succ, List.getElem?_nil, Option.some.injEq, exists_eq_left', exists_eq_left, true_and, and_true, if_true, if_false, Bool.false_eq_true, reduceCtorEq, Dt.int.injEq, Dt.bl.injEq, Dt.str.injEq, Dt.lst.injEq, Dt.tup.injEq, Dt.ref.injEq, decide_eq_true_eq, List.length_cons, List.length_nil, Nat.zero_add, Nat.reduceAdd, Option.map_some, Bool.not_true, Bool.not_false, atI_0, atI_1, atI_2, atI_3, atI_4, ixN_0, ixN_1, ixN_2, ixN_3, ixN_4, w_var, w_int, w_str, w_bl, w_non, w_glob, w_bin, w_neg, w_cmp, w_cmp2, w_bop, w_b1, w_b2, w_not, w_ite, w_tup, w_lst, w_ix, w_sl, w_call, w_bi, w_mt, w_isi, w_lc, w_frz, w_es0, w_es1, w_o0, w_o1, w_tval, w_tcmp, w_tcmp2, w_tnot, w_tall, w_tany, w_all0, w_all1, w_all2, w_any0, w_any1, w_any2, it_t, it_l, w_seq, w_rng1, w_rng2, w_gn, w_gt, w_gi, w_gs0, w_gs1, s_asg, s_asgC, s_par, s_aug, s_expr, s_if, s_for, s_while, s_ret, s_retN, s_brk, s_cont, s_pass, s_nil, frz_l, frz_m, bin_add, bin_adds, bin_sub, bin_mul, bin_fdiv, bin_mod, bin_pow, bin_xor, cmp_lt, cmp_le, cmp_gt, cmp_ge, cmp_eqi, cmp_eqs, cmp_eqb, cmp_nei, cmp_nes, cmp_neb, cmp_is0, cmp_is1, cmp_is2, cmp_is3, cmp_is4, cmp_is5, cmp_is6, cmp_isn0, cmp_isn1, cmp_isn2, cmp_isn3, cmp_isn4, cmp_isn5, cmp_in, cmp_notin, bi_lens, bi_lent, bi_lenl, bi_min, bi_max, bi_abs, bi_listT, bi_listL, bi_tupT, bi_tupL, bi_maxL, bi_minL, bi_sumL, bi_anyL, bi_allL, bi_sorted, seqL_l, items_l, items_t, items_m, w_gl, new_f, new_t, ix_t, ix_l, tru_b, tru_n, tru_i, tru_l, tru_t, isi_b, isi_bi, isi_ii, isi_ib, isi_is, isi_it, isi_il, isi_sb, isi_si, isi_ss, isi_tb, isi_ti, isi_ts, isi_tt, isi_tl, isi_lb, isi_li, isi_ls, isi_lt, isi_ll, isi_nb, isi_ni, isi_ns, isi_nt, isi_nl, ix_m, tru_m, bi_lenm, seqL_m, mt_appm, mt_popm, mtOk_appm, mtOk_popm, it_m, ixSt_m]
    exact hrt
  · simp only [Int.reduceNeg, Int.reduceAdd, Int.reduceSub, Int.reduceMul, cpow_10, cpow_2, Int.reduceLE, Int.reduceLT, Int.reduceToNat, Int.reducePow, mset_same, mset_mset, Tgs.len, List.getElem?_cons_zero, List.getElem?_cons_succ, List.set_cons_zero, List.set_cons_succ, List.getElem?_nil, Option.some.injEq, exists_eq_left', exists_eq_left, true_and, and_true, if_true, if_false, Bool.false_eq_true, reduceCtorEq, Dt.int.injEq, Dt.bl.injEq, Dt.str.injEq, Dt.lst.injEq, Dt.tup.injEq, Dt.ref.injEq, decide_eq_true_eq, List.length_cons, List.length_nil, Nat.zero_add, Nat.reduceAdd, Option.map_some, Bool.not_true, Bool.not_false, atI_0, atI_1, atI_2, atI_3, atI_4, ixN_0, ixN_1, ixN_2, ixN_3, ixN_4, w_var, w_int, w_str, w_bl, w_non, w_glob, w_bin, w_neg, w_cmp, w_cmp2, w_bop, w_b1, w_b2, w_not, w_ite, w_tup, w_lst, w_ix, w_sl, w_call, w_bi, w_mt, w_isi, w_lc, w_frz, w_es0, w_es1, w_o0, w_o1, w_tval, w_tcmp, w_tcmp2, w_tnot, w_tall, w_tany, w_all0, w_all1, w_all2, w_any0, w_any1, w_any2, it_t, it_l, w_seq, w_rng1, w_rng2, w_gn, w_gt, w_gi, w_gs0, w_gs1, s_asg, s_asgC, s_par, s_aug, s_expr, s_if, s_for, s_while, s_ret, s_retN, s_brk, s_cont, s_pass, s_nil, frz_l, frz_m, bin_add, bin_adds, bin_sub, bin_mul, bin_fdiv, bin_mod, bin_pow, bin_xor, cmp_lt, cmp_le, cmp_gt, cmp_ge, cmp_eqi, cmp_eqs, cmp_eqb, cmp_nei, cmp_nes, cmp_neb, cmp_is0, cmp_is1, cmp_is2, cmp_is3, cmp_is4, cmp_is5, cmp_is6, cmp_isn0, cmp_isn1, cmp_isn2, cmp_isn3, cmp_isn4, cmp_isn5, cmp_in, cmp_notin, bi_lens, bi_lent, bi_lenl, bi_min, bi_max, bi_abs, bi_listT, bi_listL, bi_tupT, bi_tupL, bi_maxL, bi_minL, bi_sumL, bi_anyL, bi_allL, bi_sorted, seqL_l, items_l, items_t, items_m, w_gl, new_f, new_t, ix_t, ix_l, tru_b, tru_n, tru_i, tru_l, tru_t, isi_b, isi_bi, isi_ii, isi_ib, isi_is, isi_it, isi_il, isi_sb, isi_si, isi_ss, isi_tb, isi_ti, isi_ts, isi_tt, isi_tl, isi_lb, isi_li, isi_ls, isi_lt, isi_ll, isi_nb, isi_ni, isi_ns, isi_nt, isi_nl, ix_m, tru_m, bi_lenm, seqL_m, mt_appm, mt_popm, mtOk_appm, mtOk_popm, it_m, ixSt_m]
    unfold b__law_like_2
    rw [wpSs_cons]
    simp only [Int.reduceNeg, Int.reduceAdd, Int.reduceSub, Int.reduceMul, cpow_10, cpow_2, Int.reduceLE, Int.reduceLT, Int.reduceToNat, Int.reducePow, mset_same, mset_mset, Tgs.len, List.getElem?_cons_zero, List.getElem?_cons_succ, List.set_cons_zero, List.set_cons_succ, List.getElem?_nil, Option.some.injEq, exists_eq_left', exists_eq_left, true_and, and_true, if_true, if_false, Bool.false_eq_true, reduceCtorEq, Dt.int.injEq, Dt.bl.injEq, Dt.str.injEq, Dt.lst.injEq, Dt.tup.injEq, Dt.ref.injEq, decide_eq_true_eq, List.length_cons, List.length_nil, Nat.zero_add, Nat.reduceAdd, Option.map_some, Bool.not_true, Bool.not_false, atI_0, atI_1, atI_2, atI_3, atI_4, ixN_0, ixN_1, ixN_2, ixN_3, ixN_4, w_var, w_int, w_str, w_bl, w_non, w_glob, w_bin, w_neg, w_cmp, w_cmp2, w_bop, w_b1, w_b2, w_not, w_ite, w_tup, w_lst, w_ix, w_sl, w_call, w_bi, w_mt, w_isi, w_lc, w_frz, w_es0, w_es1, w_o0, w_o1, w_tval, w_tcmp, w_tcmp2, w_tnot, w_tall, w_tany, w_all0, w_all1, w_all2, w_any0, w_any1, w_any2, it_t, it_l, w_seq, w_rng1, w_rng2, w_gn, w_gt, w_gi, w_gs0, w_gs1, s_asg, s_asgC, s_par, s_aug, s_expr, s_if, s_for, s_while, s_ret, s_retN, s_brk, s_cont, s_pass, s_nil, frz_l, frz_m, bin_add, bin_adds, bin_sub, bin_mul, bin_fdiv, bin_mod, bin_pow, bin_xor, cmp_lt, cmp_le, cmp_gt, cmp_ge, cmp_eqi, cmp_eqs, cmp_eqb, cmp_nei, cmp_nes, cmp_neb, cmp_is0, cmp_is1, cmp_is2, cmp_is3, cmp_is4, cmp_is5, cmp_is6, cmp_isn0, cmp_isn1, cmp_isn2, cmp_isn3, cmp_isn4, cmp_isn5, cmp_in, cmp_notin, bi_lens, bi_lent, bi_lenl, bi_min, bi_max, bi_abs, bi_listT, bi_listL, bi_tupT, bi_tupL, bi_maxL, bi_minL, bi_sumL, bi_anyL, bi_allL, bi_sorted, seqL_l, items_l, items_t, items_m, w_gl, new_f, new_t, ix_t, ix_l, tru_b, tru_n, tru_i, tru_l, tru_t, isi_b, isi_bi, isi_ii, isi_ib, isi_is, isi_it, isi_il, isi_sb, isi_si, isi_ss, isi_tb, isi_ti, isi_ts, isi_tt, isi_tl, isi_lb, isi_li, isi_ls, isi_lt, isi_ll, isi_nb, isi_ni, isi_ns, isi_nt, isi_nl, ix_m, tru_m, bi_lenm, seqL_m, mt_appm, mt_popm, mtOk_appm, mtOk_popm, it_m, ixSt_m]
    unfold b__law_like_3
    rw [wpSs_cons]
    simp only [Int.reduceNeg, Int.reduceAdd, Int.reduceSub, Int.reduceMul, cpow_10, cpow_2, Int.reduceLE, Int.reduceLT, Int.reduceToNat, Int.reducePow, mset_same, mset_mset, Tgs.len, List.getElem?_cons_zero, List.getElem?_cons_succ, List.set_cons_zero, List.set_cons_succ, List.getElem?_nil, Option.some.injEq, exists_eq_left', exists_eq_left, true_and, and_true, if_true, if_false, Bool.false_eq_true, reduceCtorEq, Dt.int.injEq, Dt.bl.injEq, Dt.str.injEq, Dt.lst.injEq, Dt.tup.injEq, Dt.ref.injEq, decide_eq_true_eq, List.length_cons, List.length_nil, Nat.zero_add, Nat.reduceAdd, Option.map_some, Bool.not_true, Bool.not_false, atI_0, atI_1, atI_2, atI_3, atI_4, ixN_0, ixN_1, ixN_2, ixN_3, ixN_4, w_var, w_int, w_str, w_bl, w_non, w_glob, w_bin, w_neg, w_cmp, w_cmp2, w_bop, w_b1, w_b2, w_not, w_ite, w_tup, w_lst, w_ix, w_sl, w_call, w_bi, w_mt, w_isi, w_lc, w_frz, w_es0, w_es1, w_o0, w_o1, w_tval, w_tcmp, w_tcmp2, w_tnot, w_tall, w_tany, w_all0, w_all1, w_all2, w_any0, w_any1, w_any2, it_t, it_l, w_seq, w_rng1, w_rng2, w_gn, w_gt, w_gi, w_gs0, w_gs1, s_asg, s_asgC, s_par, s_aug, s_expr, s_if, s_for, s_while, s_ret, s_retN, s_brk, s_cont, s_pass, s_nil, frz_l, frz_m, bin_add, bin_adds, bin_sub, bin_mul, bin_fdiv, bin_mod, bin_pow, bin_xor, cmp_lt, cmp_le, cmp_gt, cmp_ge, cmp_eqi, cmp_eqs, cmp_eqb, cmp_nei, cmp_nes, cmp_neb, cmp_is0, cmp_is1, cmp_is2, cmp_is3, cmp_is4, cmp_is5, cmp_is6, cmp_isn0, cmp_isn1, cmp_isn2, cmp_isn3, cmp_isn4, cmp_isn5, cmp_in, cmp_notin, bi_lens, bi_lent, bi_lenl, bi_min, bi_max, bi_abs, bi_listT, bi_listL, bi_tupT, bi_tupL, bi_maxL, bi_minL, bi_sumL, bi_anyL, bi_allL, bi_sorted, seqL_l, items_l, items_t, items_m, w_gl, new_f, new_t, ix_t, ix_l, tru_b, tru_n, tru_i, tru_l, tru_t, isi_b, isi_bi, isi_ii, isi_ib, isi_is, isi_it, isi_il, isi_sb, isi_si, isi_ss, isi_tb, isi_ti, isi_ts, isi_tt, isi_tl, isi_lb, isi_li, isi_ls, isi_lt, isi_ll, isi_nb, isi_ni, isi_ns, isi_nt, isi_nl, ix_m, tru_m, bi_lenm, seqL_m, mt_appm, mt_popm, mtOk_appm, mtOk_popm, it_m, ixSt_m, decide_true]
    exact hrt
  · simp only [Int.reduceNeg, Int.reduceAdd, Int.reduceSub, Int.reduceMul, cpow_10, cpow_2, Int.reduceLE, Int.reduceLT, Int.reduceToNat, Int.reducePow, mset_same, mset_mset, Tgs.len, List.getElem?_cons_zero, List.getElem?_cons_succ, List.set_cons_zero, List.set_cons_succ, List.getElem?_nil, Option.some.injEq, exists_eq_left', exists_eq_left, true_and, and_true, if_true, if_false, Bool.false_eq_true, reduceCtorEq, Dt.int.injEq, Dt.bl.injEq, Dt.str.injEq, Dt.lst.injEq, Dt.tup.injEq, Dt.ref.injEq, decide_eq_true_eq, List.length_cons, List.length_nil, Nat.zero_add, Nat.reduceAdd, Option.map_some, Bool.not_true, Bool.not_false, atI_0, atI_1, atI_2, atI_3, atI_4, ixN_0, ixN_1, ixN_2, ixN_3, ixN_4, w_var, w_int, w_str, w_bl, w_non, w_glob, w_bin, w_neg, w_cmp, w_cmp2, w_bop, w_b1, w_b2, w_not, w_ite, w_tup, w_lst, w_ix, w_sl, w_call, w_bi, w_mt, w_isi, w_lc, w_frz, w_es0, w_es1, w_o0, w_o1, w_tval, w_tcmp, w_tcmp2, w_tnot, w_tall, w_tany, w_all0, w_all1, w_all2, w_any0, w_any1, w_any2, it_t, it_l, w_seq, w_rng1, w_rng2, w_gn, w_gt, w_gi, w_gs0, w_gs1, s_asg, s_asgC, s_par, s_aug, s_expr, s_if, s_for, s_while, s_ret, s_retN, s_brk, s_cont, s_pass, s_nil, frz_l, frz_m, bin_add, bin_adds, bin_sub, bin_mul, bin_fdiv, bin_mod, bin_pow, bin_xor, cmp_lt, cmp_le, cmp_gt, cmp_ge, cmp_eqi, cmp_eqs, cmp_eqb, cmp_nei, cmp_nes, cmp_neb, cmp_is0, cmp_is1, cmp_is2, cmp_is3, cmp_is4, cmp_is5, cmp_is6, cmp_isn0, cmp_isn1, cmp_isn2, cmp_isn3, cmp_isn4, cmp_isn5, cmp_in, cmp_notin, bi_lens, bi_lent, bi_lenl, bi_min, bi_max, bi_abs, bi_listT, bi_listL, bi_tupT, bi_tupL, bi_maxL, bi_minL, bi_sumL, bi_anyL, bi_allL, bi_sorted, seqL_l, items_l, items_t, items_m, w_gl, new_f, new_t, ix_t, ix_l, tru_b, tru_n, tru_i, tru_l, tru_t, isi_b, isi_bi, isi_ii, isi_ib, isi_is, isi_it, isi_il, isi_sb, isi_si, isi_ss, isi_tb, isi_ti, isi_ts, isi_tt, isi_tl, isi_lb, isi_li, isi_ls, isi_lt, isi_ll, isi_nb, isi_ni, isi_ns, isi_nt, isi_nl, ix_m, tru_m, bi_lenm, seqL_m, mt_appm, mt_popm, mtOk_appm, mtOk_popm, it_m, ixSt_m]
    unfold b__law_like_2
    rw [wpSs_cons]
    simp only [Int.reduceNeg, Int.reduceAdd, Int.reduceSub, Int.reduceMul, cpow_10, cpow_2, Int.reduceLE, Int.reduceLT, Int.reduceToNat, Int.reducePow, mset_same, mset_mset, Tgs.len, List.getElem?_cons_zero, List.getElem?_cons_succ, List.set_cons_zero, List.set_cons_succ, List.getElem?_nil, Option.some.injEq, exists_eq_left', exists_eq_left, true_and, and_true, if_true, if_false, Bool.false_eq_true, reduceCtorEq, Dt.int.injEq, Dt.bl.injEq, Dt.str.injEq, Dt.lst.injEq, Dt.tup.injEq, Dt.ref.injEq, decide_eq_true_eq, List.length_cons, List.length_nil, Nat.zero_add, Nat.reduceAdd, Option.map_some, Bool.not_true, Bool.not_false, atI_0, atI_1, atI_2, atI_3, atI_4, ixN_0, ixN_1, ixN_2, ixN_3, ixN_4, w_var, w_int, w_str, w_bl, w_non, w_glob, w_bin, w_neg, w_cmp, w_cmp2, w_bop, w_b1, w_b2, w_not, w_ite, w_tup, w_lst, w_ix, w_sl, w_call, w_bi, w_mt, w_isi, w_lc, w_frz, w_es0, w_es1, w_o0, w_o1, w_tval, w_tcmp, w_tcmp2, w_tnot, w_tall, w_tany, w_all0, w_all1, w_all2, w_any0, w_any1, w_any2, it_t, it_l, w_seq, w_rng1, w_rng2, w_gn, w_gt, w_gi, w_gs0, w_gs1, s_asg, s_asgC, s_par, s_aug, s_expr, s_if, s_for, s_while, s_ret, s_retN, s_brk, s_cont, s_pass, s_nil, frz_l, frz_m, bin_add, bin_adds, bin_sub, bin_mul, bin_fdiv, bin_mod, bin_pow, bin_xor, cmp_lt, cmp_le, cmp_gt, cmp_ge, cmp_eqi, cmp_eqs, cmp_eqb, cmp_nei, cmp_nes, cmp_neb, cmp_is0, cmp_is1, cmp_is2, cmp_is3, cmp_is4, cmp_is5, cmp_is6, cmp_isn0, cmp_isn1, cmp_isn2, cmp_isn3, cmp_isn4, cmp_isn5, cmp_in, cmp_notin, bi_lens, bi_lent, bi_lenl, bi_min, bi_max, bi_abs, bi_listT, bi_listL, bi_tupT, bi_tupL, bi_maxL, bi_minL, bi_sumL, bi_anyL, bi_allL, bi_sorted, seqL_l, items_l, items_t, items_m, w_gl, new_f, new_t, ix_t, ix_l, tru_b, tru_n, tru_i, tru_l, tru_t, isi_b, isi_bi, isi_ii, isi_ib, isi_is, isi_it, isi_il, isi_sb, isi_si, isi_ss, isi_tb, isi_ti, isi_ts, isi_tt, isi_tl, isi_lb, isi_li, isi_ls, isi_lt, isi_ll, isi_nb, isi_ni, isi_ns, isi_nt, isi_nl, ix_m, tru_m, bi_lenm, seqL_m, mt_appm, mt_popm, mtOk_appm, mtOk_popm, it_m, ixSt_m]
    unfold b__law_like_4
    rw [wpSs_cons]
    simp only [Int.reduceNeg, Int.reduceAdd, Int.reduceSub, Int.reduceMul, cpow_10, cpow_2, Int.reduceLE, Int.reduceLT, Int.reduceToNat, Int.reducePow, mset_same, mset_mset, Tgs.len, List.getElem?_cons_zero, List.getElem?_cons_succ, List.set_cons_zero, List.set_cons_succ, List.getElem?_nil, Option.some.injEq, exists_eq_left', exists_eq_left, true_and, and_true, if_true, if_false, Bool.false_eq_true, reduceCtorEq, Dt.int.injEq, Dt.bl.injEq, Dt.str.injEq, Dt.lst.injEq, Dt.tup.injEq, Dt.ref.injEq, decide_eq_true_eq, List.length_cons, List.length_nil, Nat.zero_add, Nat.reduceAdd, Option.map_some, Bool.not_true, Bool.not_false, atI_0, atI_1, atI_2, atI_3, atI_4, ixN_0, ixN_1, ixN_2, ixN_3, ixN_4, w_var, w_int, w_str, w_bl, w_non, w_glob, w_bin, w_neg, w_cmp, w_cmp2, w_bop, w_b1, w_b2, w_not, w_ite, w_tup, w_lst, w_ix, w_sl, w_call, w_bi, w_mt, w_isi, w_lc, w_frz, w_es0, w_es1, w_o0, w_o1, w_tval, w_tcmp, w_tcmp2, w_tnot, w_tall, w_tany, w_all0, w_all1, w_all2, w_any0, w_any1, w_any2, it_t, it_l, w_seq, w_rng1, w_rng2, w_gn, w_gt, w_gi, w_gs0, w_gs1, s_asg, s_asgC, s_par, s_aug, s_expr, s_if, s_for, s_while, s_ret, s_retN, s_brk, s_cont, s_pass, s_nil, frz_l, frz_m, bin_add, bin_adds, bin_sub, bin_mul, bin_fdiv, bin_mod, bin_pow, bin_xor, cmp_lt, cmp_le, cmp_gt, cmp_ge, cmp_eqi, cmp_eqs, cmp_eqb, cmp_nei, cmp_nes, cmp_neb, cmp_is0, cmp_is1, cmp_is2, cmp_is3, cmp_is4, cmp_is5, cmp_is6, cmp_isn0, cmp_isn1, cmp_isn2, cmp_isn3, cmp_isn4, cmp_isn5, cmp_in, cmp_notin, bi_lens, bi_lent, bi_lenl, bi_min, bi_max, bi_abs, bi_listT, bi_listL, bi_tupT, bi_tupL, bi_maxL, bi_minL, bi_sumL, bi_anyL, bi_allL, bi_sorted, seqL_l, items_l, items_t, items_m, w_gl, new_f, new_t, ix_t, ix_l, tru_b, tru_n, tru_i, tru_l, tru_t, isi_b, isi_bi, isi_ii, isi_ib, isi_is, isi_it, isi_il, isi_sb, isi_si, isi_ss, isi_tb, isi_ti, isi_ts, isi_tt, isi_tl, isi_lb, isi_li, isi_ls, isi_lt, isi_ll, isi_nb, isi_ni, isi_ns, isi_nt, isi_nl, ix_m, tru_m, bi_lenm, seqL_m, mt_appm, mt_popm, mtOk_appm, mtOk_popm, it_m, ixSt_m]
    unfold b__law_like_5
    rw [wpSs_cons]
    simp only [Int.reduceNeg, Int.reduceAdd, Int.reduceSub, Int.reduceMul, cpow_10, cpow_2, Int.reduceLE, Int.reduceLT, Int.reduceToNat, Int.reducePow, mset_same, mset_mset, Tgs.len, List.getElem?_cons_zero, List.getElem?_cons_succ, List.set_cons_zero, List.set_cons_succ, List.getElem?_nil, Option.some.injEq, exists_eq_left', exists_eq_left, true_and, and_true, if_true, if_false, Bool.false_eq_true, reduceCtorEq, Dt.int.injEq, Dt.bl.injEq, Dt.str.injEq, Dt.lst.injEq, Dt.tup.injEq, Dt.ref.injEq, decide_eq_true_eq, List.length_cons, List.length_nil, Nat.zero_add, Nat.reduceAdd, Option.map_some, Bool.not_true, Bool.not_false, atI_0, atI_1, atI_2, atI_3, atI_4, ixN_0, ixN_1, ixN_2, ixN_3, ixN_4, w_var, w_int, w_str, w_bl, w_non, w_glob, w_bin, w_neg, w_cmp, w_cmp2, w_bop, w_b1, w_b2, w_not, w_ite, w_tup, w_lst, w_ix, w_sl, w_call, w_bi, w_mt, w_isi, w_lc, w_frz, w_es0, w_es1, w_o0, w_o1, w_tval, w_tcmp, w_tcmp2, w_tnot, w_tall, w_tany, w_all0, w_all1, w_all2, w_any0, w_any1, w_any2, it_t, it_l, w_seq, w_rng1, w_rng2, w_gn, w_gt, w_gi, w_gs0, w_gs1, s_asg, s_asgC, s_par, s_aug, s_expr, s_if, s_for, s_while, s_ret, s_retN, s_brk, s_cont, s_pass, s_nil, frz_l, frz_m, bin_add, bin_adds, bin_sub, bin_mul, bin_fdiv, bin_mod, bin_pow, bin_xor, cmp_lt, cmp_le, cmp_gt, cmp_ge, cmp_eqi, cmp_eqs, cmp_eqb, cmp_nei, cmp_nes, cmp_neb, cmp_is0, cmp_is1, cmp_is2, cmp_is3, cmp_is4, cmp_is5, cmp_is6, cmp_isn0, cmp_isn1, cmp_isn2, cmp_isn3, cmp_isn4, cmp_isn5, cmp_in, cmp_notin, bi_lens, bi_lent, bi_lenl, bi_min, bi_max, bi_abs, bi_listT, bi_listL, bi_tupT, bi_tupL, bi_maxL, bi_minL, bi_sumL, bi_anyL, bi_allL, bi_sorted, seqL_l, items_l, items_t, items_m, w_gl, new_f, new_t, ix_t, ix_l, tru_b, tru_n, tru_i, tru_l, tru_t, isi_b, isi_bi, isi_ii, isi_ib, isi_is, isi_it, isi_il, isi_sb, isi_si, isi_ss, isi_tb, isi_ti, isi_ts, isi_tt, isi_tl, isi_lb, isi_li, isi_ls, isi_lt, isi_ll, isi_nb, isi_ni, isi_ns, isi_nt, isi_nl, ix_m, tru_m, bi_lenm, seqL_m, mt_appm, mt_popm, mtOk_appm, mtOk_popm, it_m, ixSt_m, decide_true]
    exact hrt
  · simp only [Int.reduceNeg, Int.reduceAdd, Int.reduceSub, Int.reduceMul, cpow_10, cpow_2, Int.reduceLE, Int.reduceLT, Int.reduceToNat, Int.reducePow, mset_same, mset_mset, Tgs.len, List.getElem?_cons_zero, List.getElem?_cons_succ, List.set_cons_zero, List.set_cons_succ, List.getElem?_nil, Option.some.injEq, exists_eq_left', exists_eq_left, true_and, and_true, if_true, if_false, Bool.false_eq_true, reduceCtorEq, Dt.int.injEq, Dt.bl.injEq, Dt.str.injEq, Dt.lst.injEq, Dt.tup.injEq, Dt.ref.injEq, decide_eq_true_eq, List.length_cons, List.length_nil, Nat.zero_add, Nat.reduceAdd, Option.map_some, Bool.not_true, Bool.not_false, atI_0, atI_1, atI_2, atI_3, atI_4, ixN_0, ixN_1, ixN_2, ixN_3, ixN_4, w_var, w_int, w_str, w_bl, w_non, w_glob, w_bin, w_neg, w_cmp, w_cmp2, w_bop, w_b1, w_b2, w_not, w_ite, w_tup, w_lst, w_ix, w_sl, w_call, w_bi, w_mt, w_isi, w_lc, w_frz, w_es0, w_es1, w_o0, w_o1, w_tval, w_tcmp, w_tcmp2, w_tnot, w_tall, w_tany, w_all0, w_all1, w_all2, w_any0, w_any1, w_any2, it_t, it_l, w_seq, w_rng1, w_rng2, w_gn, w_gt, w_gi, w_gs0, w_gs1, s_asg, s_asgC, s_par, s_aug, s_expr, s_if, s_for, s_while, s_ret, s_retN, s_brk, s_cont, s_pass, s_nil, frz_l, frz_m, bin_add, bin_adds, bin_sub, bin_mul, bin_fdiv, bin_mod, bin_pow, bin_xor, cmp_lt, cmp_le, cmp_gt, cmp_ge, cmp_eqi, cmp_eqs, cmp_eqb, cmp_nei, cmp_nes, cmp_neb, cmp_is0, cmp_is1, cmp_is2, cmp_is3, cmp_is4, cmp_is5, cmp_is6, cmp_isn0, cmp_isn1, cmp_isn2, cmp_isn3, cmp_isn4, cmp_isn5, cmp_in, cmp_notin, bi_lens, bi_lent, bi_lenl, bi_min, bi_max, bi_abs, bi_listT, bi_listL, bi_tupT, bi_tupL, bi_maxL, bi_minL, bi_sumL, bi_anyL, bi_allL, bi_sorted, seqL_l, items_l, items_t, items_m, w_gl, new_f, new_t, ix_t, ix_l, tru_b, tru_n, tru_i, tru_l, tru_t, isi_b, isi_bi, isi_ii, isi_ib, isi_is, isi_it, isi_il, isi_sb, isi_si, isi_ss, isi_tb, isi_ti, isi_ts, isi_tt, isi_tl, isi_lb, isi_li, isi_ls, isi_lt, isi_ll, isi_nb, isi_ni, isi_ns, isi_nt, isi_nl, ix_m, tru_m, bi_lenm, seqL_m, mt_appm, mt_popm, mtOk_appm, mtOk_popm, it_m, ixSt_m]
    unfold b__law_like_2
    rw [wpSs_cons]
    simp only [Int.reduceNeg, Int.reduceAdd, Int.reduceSub, Int.reduceMul, cpow_10, cpow_2, Int.reduceLE, Int.reduceLT, Int.reduceToNat, Int.reducePow, mset_same, mset_mset, Tgs.len, List.getElem?_cons_zero, List.getElem?_cons_succ, List.set_cons_zero, List.set_cons_succ, List.getElem?_nil, Option.some.injEq, exists_eq_left', exists_eq_left, true_and, and_true, if_true, if_false, Bool.false_eq_true, reduceCtorEq, Dt.int.injEq, Dt.bl.injEq, Dt.str.injEq, Dt.lst.injEq, Dt.tup.injEq, Dt.ref.injEq, decide_eq_true_eq, List.length_cons, List.length_nil, Nat.zero_add, Nat.reduceAdd, Option.map_some, Bool.not_true, Bool.not_false, atI_0, atI_1, atI_2, atI_3, atI_4, ixN_0, ixN_1, ixN_2, ixN_3, ixN_4, w_var, w_int, w_str, w_bl, w_non, w_glob, w_bin, w_neg, w_cmp, w_cmp2, w_bop, w_b1, w_b2, w_not, w_ite, w_tup, w_lst, w_ix, w_sl, w_call, w_bi, w_mt, w_isi, w_lc, w_frz, w_es0, w_es1, w_o0, w_o1, w_tval, w_tcmp, w_tcmp2, w_tnot, w_tall, w_tany, w_all0, w_all1, w_all2, w_any0, w_any1, w_any2, it_t, it_l, w_seq, w_rng1, w_rng2, w_gn, w_gt, w_gi, w_gs0, w_gs1, s_asg, s_asgC, s_par, s_aug, s_expr, s_if, s_for, s_while, s_ret, s_retN, s_brk, s_cont, s_pass, s_nil, frz_l, frz_m, bin_add, bin_adds, bin_sub, bin_mul, bin_fdiv, bin_mod, bin_pow, bin_xor, cmp_lt, cmp_le, cmp_gt, cmp_ge, cmp_eqi, cmp_eqs, cmp_eqb, cmp_nei, cmp_nes, cmp_neb, cmp_is0, cmp_is1, cmp_is2, cmp_is3, cmp_is4, cmp_is5, cmp_is6, cmp_isn0, cmp_isn1, cmp_isn2, cmp_isn3, cmp_isn4, cmp_isn5, cmp_in, cmp_notin, bi_lens, bi_lent, bi_lenl, bi_min, bi_max, bi_abs, bi_listT, bi_listL, bi_tupT, bi_tupL, bi_maxL, bi_minL, bi_sumL, bi_anyL, bi_allL, bi_sorted, seqL_l, items_l, items_t, items_m, w_gl, new_f, new_t, ix_t, ix_l, tru_b, tru_n, tru_i, tru_l, tru_t, isi_b, isi_bi, isi_ii, isi_ib, isi_is, isi_it, isi_il, isi_sb, isi_si, isi_ss, isi_tb, isi_ti, isi_ts, isi_tt, isi_tl, isi_lb, isi_li, isi_ls, isi_lt, isi_ll, isi_nb, isi_ni, isi_ns, isi_nt, isi_nl, ix_m, tru_m, bi_lenm, seqL_m, mt_appm, mt_popm, mtOk_appm, mtOk_popm, it_m, ixSt_m]
    unfold b__law_like_4
    rw [wpSs_cons]
    simp only [Int.reduceNeg, Int.reduceAdd, Int.reduceSub, Int.reduceMul, cpow_10, cpow_2, Int.reduceLE, Int.reduceLT, Int.reduceToNat, Int.reducePow, mset_same, mset_mset, Tgs.len, List.getElem?_cons_zero, List.getElem?_cons_succ, List.set_cons_zero, List.set_cons_succ, List.getElem?_nil, Option.some.injEq, exists_eq_left', exists_eq_left, true_and, and_true, if_true, if_false, Bool.false_eq_true, reduceCtorEq, Dt.int.injEq, Dt.bl.injEq, Dt.str.injEq, Dt.lst.injEq, Dt.tup.injEq, Dt.ref.injEq, decide_eq_true_eq, List.length_cons, List.length_nil, Nat.zero_add, Nat.reduceAdd, Option.map_some, Bool.not_true, Bool.not_false, atI_0, atI_1, atI_2, atI_3, atI_4, ixN_0, ixN_1, ixN_2, ixN_3, ixN_4, w_var, w_int, w_str, w_bl, w_non, w_glob, w_bin, w_neg, w_cmp, w_cmp2, w_bop, w_b1, w_b2, w_not, w_ite, w_tup, w_lst, w_ix, w_sl, w_call, w_bi, w_mt, w_isi, w_lc, w_frz, w_es0, w_es1, w_o0, w_o1, w_tval, w_tcmp, w_tcmp2, w_tnot, w_tall, w_tany, w_all0, w_all1, w_all2, w_any0, w_any1, w_any2, it_t, it_l, w_seq, w_rng1, w_rng2, w_gn, w_gt, w_gi, w_gs0, w_gs1, s_asg, s_asgC, s_par, s_aug, s_expr, s_if, s_for, s_while, s_ret, s_retN, s_brk, s_cont, s_pass, s_nil, frz_l, frz_m, bin_add, bin_adds, bin_sub, bin_mul, bin_fdiv, bin_mod, bin_pow, bin_xor, cmp_lt, cmp_le, cmp_gt, cmp_ge, cmp_eqi, cmp_eqs, cmp_eqb, cmp_nei, cmp_nes, cmp_neb, cmp_is0, cmp_is1, cmp_is2, cmp_is3, cmp_is4, cmp_is5, cmp_is6, cmp_isn0, cmp_isn1, cmp_isn2, cmp_isn3, cmp_isn4, cmp_isn5, cmp_in, cmp_notin, bi_lens, bi_lent, bi_lenl, bi_min, bi_max, bi_abs, bi_listT, bi_listL, bi_tupT, bi_tupL, bi_maxL, bi_minL, bi_sumL, bi_anyL, bi_allL, bi_sorted, seqL_l, items_l, items_t, items_m, w_gl, new_f, new_t, ix_t, ix_l, tru_b, tru_n, tru_i, tru_l, tru_t, isi_b, isi_bi, isi_ii, isi_ib, isi_is, isi_it, isi_il, isi_sb, isi_si, isi_ss, isi_tb, isi_ti, isi_ts, isi_tt, isi_tl, isi_lb, isi_li, isi_ls, isi_lt, isi_ll, isi_nb, isi_ni, isi_ns, isi_nt, isi_nl, ix_m, tru_m, bi_lenm, seqL_m, mt_appm, mt_popm, mtOk_appm, mtOk_popm, it_m, ixSt_m]
    unfold b__law_like_6
    rw [wpSs_cons]
    simp only [Int.reduceNeg, Int.reduceAdd, Int.reduceSub, Int.reduceMul, cpow_10, cpow_2, Int.reduceLE, Int.reduceLT, Int.reduceToNat, Int.reducePow, mset_same, mset_mset, Tgs.len, List.getElem?_cons_zero, List.getElem?_cons_succ, List.set_cons_zero, List.set_cons_succ, List.getElem?_nil, Option.some.injEq, exists_eq_left', exists_eq_left, true_and, and_true, if_true, if_false, Bool.false_eq_true, reduceCtorEq, Dt.int.injEq, Dt.bl.injEq, Dt.str.injEq, Dt.lst.injEq, Dt.tup.injEq, Dt.ref.injEq, decide_eq_true_eq, List.length_cons, List.length_nil, Nat.zero_add, Nat.reduceAdd, Option.map_some, Bool.not_true, Bool.not_false, atI_0, atI_1, atI_2, atI_3, atI_4, ixN_0, ixN_1, ixN_2, ixN_3, ixN_4, w_var, w_int, w_str, w_bl, w_non, w_glob, w_bin, w_neg, w_cmp, w_cmp2, w_bop, w_b1, w_b2, w_not, w_ite, w_tup, w_lst, w_ix, w_sl, w_call, w_bi, w_mt, w_isi, w_lc, w_frz, w_es0, w_es1, w_o0, w_o1, w_tval, w_tcmp, w_tcmp2, w_tnot, w_tall, w_tany, w_all0, w_all1, w_all2, w_any0, w_any1, w_any2, it_t, it_l, w_seq, w_rng1, w_rng2, w_gn, w_gt, w_gi, w_gs0, w_gs1, s_asg, s_asgC, s_par, s_aug, s_expr, s_if, s_for, s_while, s_ret, s_retN, s_brk, s_cont, s_pass, s_nil, frz_l, frz_m, bin_add, bin_adds, bin_sub, bin_mul, bin_fdiv, bin_mod, bin_pow, bin_xor, cmp_lt, cmp_le, cmp_gt, cmp_ge, cmp_eqi, cmp_eqs, cmp_eqb, cmp_nei, cmp_nes, cmp_neb, cmp_is0, cmp_is1, cmp_is2, cmp_is3, cmp_is4, cmp_is5, cmp_is6, cmp_isn0, cmp_isn1, cmp_isn2, cmp_isn3, cmp_isn4, cmp_isn5, cmp_in, cmp_notin, bi_lens, bi_lent, bi_lenl, bi_min, bi_max, bi_abs, bi_listT, bi_listL, bi_tupT, bi_tupL, bi_maxL, bi_minL, bi_sumL, bi_anyL, bi_allL, bi_sorted, seqL_l, items_l, items_t, items_m, w_gl, new_f, new_t, ix_t, ix_l, tru_b, tru_n, tru_i, tru_l, tru_t, isi_b, isi_bi, isi_ii, isi_ib, isi_is, isi_it, isi_il, isi_sb, isi_si, isi_ss, isi_tb, isi_ti, isi_ts, isi_tt, isi_tl, isi_lb, isi_li, isi_ls, isi_lt, isi_ll, isi_nb, isi_ni, isi_ns, isi_nt, isi_nl, ix_m, tru_m, bi_lenm, seqL_m, mt_appm, mt_popm, mtOk_appm, mtOk_popm, it_m, ixSt_m]
    unfold b__law_like_7
    rw [wpSs_cons]
    simp only [Int.reduceNeg, Int.reduceAdd, Int.reduceSub, Int.reduceMul, cpow_10, cpow_2, Int.reduceLE, Int.reduceLT, Int.reduceToNat, Int.reducePow, mset_same, mset_mset, Tgs.len, List.getElem?_cons_zero, List.getElem?_cons_succ, List.set_cons_zero, List.set_cons_succ, List.getElem?_nil, Option.some.injEq, exists_eq_left', exists_eq_left, true_and, and_true, if_true, if_false, Bool.false_eq_true, reduceCtorEq, Dt.int.injEq, Dt.bl.injEq, Dt.str.injEq, Dt.lst.injEq, Dt.tup.injEq, Dt.ref.injEq, decide_eq_true_eq, List.length_cons, List.length_nil, Nat.zero_add, Nat.reduceAdd, Option.map_some, Bool.not_true, Bool.not_false, atI_0, atI_1, atI_2, atI_3, atI_4, ixN_0, ixN_1, ixN_2, ixN_3, ixN_4, w_var, w_int, w_str, w_bl, w_non, w_glob, w_bin, w_neg, w_cmp, w_cmp2, w_bop, w_b1, w_b2, w_not, w_ite, w_tup, w_lst, w_ix, w_sl, w_call, w_bi, w_mt, w_isi, w_lc, w_frz, w_es0, w_es1, w_o0, w_o1, w_tval, w_tcmp, w_tcmp2, w_tnot, w_tall, w_tany, w_all0, w_all1, w_all2, w_any0, w_any1, w_any2, it_t, it_l, w_seq, w_rng1, w_rng2, w_gn, w_gt, w_gi, w_gs0, w_gs1, s_asg, s_asgC, s_par, s_aug, s_expr, s_if, s_for, s_while, s_ret, s_retN, s_brk, s_cont, s_pass, s_nil, frz_l, frz_m, bin_add, bin_adds, bin_sub, bin_mul, bin_fdiv, bin_mod, bin_pow, bin_xor, cmp_lt, cmp_le, cmp_gt, cmp_ge, cmp_eqi, cmp_eqs, cmp_eqb, cmp_nei, cmp_nes, cmp_neb, cmp_is0, cmp_is1, cmp_is2, cmp_is3, cmp_is4, cmp_is5, cmp_is6, cmp_isn0, cmp_isn1, cmp_isn2, cmp_isn3, cmp_isn4, cmp_isn5, cmp_in, cmp_notin, bi_lens, bi_lent, bi_lenl, bi_min, bi_max, bi_abs, bi_listT, bi_listL, bi_tupT, bi_tupL, bi_maxL, bi_minL, bi_sumL, bi_anyL, bi_allL, bi_sorted, seqL_l, items_l, items_t, items_m, w_gl, new_f, new_t, ix_t, ix_l, tru_b, tru_n, tru_i, tru_l, tru_t, isi_b, isi_bi, isi_ii, isi_ib, isi_is, isi_it, isi_il, isi_sb, isi_si, isi_ss, isi_tb, isi_ti, isi_ts, isi_tt, isi_tl, isi_lb, isi_li, isi_ls, isi_lt, isi_ll, isi_nb, isi_ni, isi_ns, isi_nt, isi_nl, ix_m, tru_m, bi_lenm, seqL_m, mt_appm, mt_popm, mtOk_appm, mtOk_popm, it_m, ixSt_m, decide_true]
    exact hrt
  · obtain ⟨a1, a2, a3, a4, a5, a6⟩ := h1.facts
    obtain ⟨b1, b2, b3, b4, b5, b6⟩ := h2.facts
    simp only [Int.reduceNeg, Int.reduceAdd, Int.reduceSub, Int.reduceMul, cpow_10, cpow_2, Int.reduceLE, Int.reduceLT, Int.reduceToNat, Int.reducePow, mset_same, mset_mset, Tgs.len, List.getElem?_cons_zero, List.getElem?_cons_succ, List.set_cons_zero, List.set_cons_succ, List.getElem?_nil, Option.some.injEq, exists_eq_left', exists_eq_left, true_and, and_true, if_true, if_false, Bool.false_eq_true, reduceCtorEq, Dt.int.injEq, Dt.bl.injEq, Dt.str.injEq, Dt.lst.injEq, Dt.tup.injEq, Dt.ref.injEq, decide_eq_true_eq, List.length_cons, List.length_nil, Nat.zero_add, Nat.reduceAdd, Option.map_some, Bool.not_true, Bool.not_false, atI_0, atI_1, atI_2, atI_3, atI_4, ixN_0, ixN_1, ixN_2, ixN_3, ixN_4, w_var, w_int, w_str, w_bl, w_non, w_glob, w_bin, w_neg, w_cmp, w_cmp2, w_bop, w_b1, w_b2, w_not, w_ite, w_tup, w_lst, w_ix, w_sl, w_call, w_bi, w_mt, w_isi, w_lc, w_frz, w_es0, w_es1, w_o0, w_o1, w_tval, w_tcmp, w_tcmp2, w_tnot, w_tall, w_tany, w_all0, w_all1, w_all2, w_any0, w_any1, w_any2, it_t, it_l, w_seq, w_rng1, w_rng2, w_gn, w_gt, w_gi, w_gs0, w_gs1, s_asg, s_asgC, s_par, s_aug, s_expr, s_if, s_for, s_while, s_ret, s_retN, s_brk, s_cont, s_pass, s_nil, frz_l, frz_m, bin_add, bin_adds, bin_sub, bin_mul, bin_fdiv, bin_mod, bin_pow, bin_xor, cmp_lt, cmp_le, cmp_gt, cmp_ge, cmp_eqi, cmp_eqs, cmp_eqb, cmp_nei, cmp_nes, cmp_neb, cmp_is0, cmp_is1, cmp_is2, cmp_is3, cmp_is4, cmp_is5, cmp_is6, cmp_isn0, cmp_isn1, cmp_isn2, cmp_isn3, cmp_isn4, cmp_isn5, cmp_in, cmp_notin, bi_lens, bi_lent, bi_lenl, bi_min, bi_max, bi_abs, bi_listT, bi_listL, bi_tupT, bi_tupL, bi_maxL, bi_minL, bi_sumL, bi_anyL, bi_allL, bi_sorted, seqL_l, items_l, items_t, items_m, w_gl, new_f, new_t, ix_t, ix_l, tru_b, tru_n, tru_i, tru_l, tru_t, isi_b, isi_bi, isi_ii, isi_ib, isi_is, isi_it, isi_il, isi_sb, isi_si, isi_ss, isi_tb, isi_ti, isi_ts, isi_tt, isi_tl, isi_lb, isi_li, isi_ls, isi_lt, isi_ll, isi_nb, isi_ni, isi_ns, isi_nt, isi_nl, ix_m, tru_m, bi_lenm, seqL_m, mt_appm, mt_popm, mtOk_appm, mtOk_popm, it_m, ixSt_m, b1]
    unfold b__law_like_2
    rw [wpSs_cons]
    simp only [Int.reduceNeg, Int.reduceAdd, Int.reduceSub, Int.reduceMul, cpow_10, cpow_2, Int.reduceLE, Int.reduceLT, Int.reduceToNat, Int.reducePow, mset_same, mset_mset, Tgs.len, List.getElem?_cons_zero, List.getElem?_cons_succ, List.set_cons_zero, List.set_cons_succ, List.getElem?_nil, Option.some.injEq, exists_eq_left', exists_eq_left, true_and, and_true, if_true, if_false, Bool.false_eq_true, reduceCtorEq, Dt.int.injEq, Dt.bl.injEq, Dt.str.injEq, Dt.lst.injEq, Dt.tup.injEq, Dt.ref.injEq, decide_eq_true_eq, List.length_cons, List.length_nil, Nat.zero_add, Nat.reduceAdd, Option.map_some, Bool.not_true, Bool.not_false, atI_0, atI_1, atI_2, atI_3, atI_4, ixN_0, ixN_1, ixN_2, ixN_3, ixN_4, w_var, w_int, w_str, w_bl, w_non, w_glob, w_bin, w_neg, w_cmp, w_cmp2, w_bop, w_b1, w_b2, w_not, w_ite, w_tup, w_lst, w_ix, w_sl, w_call, w_bi, w_mt, w_isi, w_lc, w_frz, w_es0, w_es1, w_o0, w_o1, w_tval, w_tcmp, w_tcmp2, w_tnot, w_tall, w_tany, w_all0, w_all1, w_all2, w_any0, w_any1, w_any2, it_t, it_l, w_seq, w_rng1, w_rng2, w_gn, w_gt, w_gi, w_gs0, w_gs1, s_asg, s_asgC, s_par, s_aug, s_expr, s_if, s_for, s_while, s_ret, s_retN, s_brk, s_cont, s_pass, s_nil, frz_l, frz_m, bin_add, bin_adds, bin_sub, bin_mul, bin_fdiv, bin_mod, bin_pow, bin_xor, cmp_lt, cmp_le, cmp_gt, cmp_ge, cmp_eqi, cmp_eqs, cmp_eqb, cmp_nei, cmp_nes, cmp_neb, cmp_is0, cmp_is1, cmp_is2, cmp_is3, cmp_is4, cmp_is5, cmp_is6, cmp_isn0, cmp_isn1, cmp_isn2, cmp_isn3, cmp_isn4, cmp_isn5, cmp_in, cmp_notin, bi_lens, bi_lent, bi_lenl, bi_min, bi_max, bi_abs, bi_listT, bi_listL, bi_tupT, bi_tupL, bi_maxL, bi_minL, bi_sumL, bi_anyL, bi_allL, bi_sorted, seqL_l, items_l, items_t, items_m, w_gl, new_f, new_t, ix_t, ix_l, tru_b, tru_n, tru_i, tru_l, tru_t, isi_b, isi_bi, isi_ii, isi_ib, isi_is, isi_it, isi_il, isi_sb, isi_si, isi_ss, isi_tb, isi_ti, isi_ts, isi_tt, isi_tl, isi_lb, isi_li, isi_ls, isi_lt, isi_ll, isi_nb, isi_ni, isi_ns, isi_nt, isi_nl, ix_m, tru_m, bi_lenm, seqL_m, mt_appm, mt_popm, mtOk_appm, mtOk_popm, it_m, ixSt_m, b2]
    unfold b__law_like_4
    rw [wpSs_cons]
    simp only [Int.reduceNeg, Int.reduceAdd, Int.reduceSub, Int.reduceMul, cpow_10, cpow_2, Int.reduceLE, Int.reduceLT, Int.reduceToNat, Int.reducePow, mset_same, mset_mset, Tgs.len, List.getElem?_cons_zero, List.getElem?_cons_succ, List.set_cons_zero, List.set_cons_succ, List.getElem?_nil, Option.some.injEq, exists_eq_left', exists_eq_left, true_and, and_true, if_true, if_false, Bool.false_eq_true, reduceCtorEq, Dt.int.injEq, Dt.bl.injEq, Dt.str.injEq, Dt.lst.injEq, Dt.tup.injEq, Dt.ref.injEq, decide_eq_true_eq, List.length_cons, List.length_nil, Nat.zero_add, Nat.reduceAdd, Option.map_some, Bool.not_true, Bool.not_false, atI_0, atI_1, atI_2, atI_3, atI_4, ixN_0, ixN_1, ixN_2, ixN_3, ixN_4, w_var, w_int, w_str, w_bl, w_non, w_glob, w_bin, w_neg, w_cmp, w_cmp2, w_bop, w_b1, w_b2, w_not, w_ite, w_tup, w_lst, w_ix, w_sl, w_call, w_bi, w_mt, w_isi, w_lc, w_frz, w_es0, w_es1, w_o0, w_o1, w_tval, w_tcmp, w_tcmp2, w_tnot, w_tall, w_tany, w_all0, w_all1, w_all2, w_any0, w_any1, w_any2, it_t, it_l, w_seq, w_rng1, w_rng2, w_gn, w_gt, w_gi, w_gs0, w_gs1, s_asg, s_asgC, s_par, s_aug, s_expr, s_if, s_for, s_while, s_ret, s_retN, s_brk, s_cont, s_pass, s_nil, frz_l, frz_m, bin_add, bin_adds, bin_sub, bin_mul, bin_fdiv, bin_mod, bin_pow, bin_xor, cmp_lt, cmp_le, cmp_gt, cmp_ge, cmp_eqi, cmp_eqs, cmp_eqb, cmp_nei, cmp_nes, cmp_neb, cmp_is0, cmp_is1, cmp_is2, cmp_is3, cmp_is4, cmp_is5, cmp_is6, cmp_isn0, cmp_isn1, cmp_isn2, cmp_isn3, cmp_isn4, cmp_isn5, cmp_in, cmp_notin, bi_lens, bi_lent, bi_lenl, bi_min, bi_max, bi_abs, bi_listT, bi_listL, bi_tupT, bi_tupL, bi_maxL, bi_minL, bi_sumL, bi_anyL, bi_allL, bi_sorted, seqL_l, items_l, items_t, items_m, w_gl, new_f, new_t, ix_t, ix_l, tru_b, tru_n, tru_i, tru_l, tru_t, isi_b, isi_bi, isi_ii, isi_ib, isi_is, isi_it, isi_il, isi_sb, isi_si, isi_ss, isi_tb, isi_ti, isi_ts, isi_tt, isi_tl, isi_lb, isi_li, isi_ls, isi_lt, isi_ll, isi_nb, isi_ni, isi_ns, isi_nt, isi_nl, ix_m, tru_m, bi_lenm, seqL_m, mt_appm, mt_popm, mtOk_appm, mtOk_popm, it_m, ixSt_m, b3]
    unfold b__law_like_6
    rw [wpSs_cons]
    simp only [Int.reduceNeg, Int.reduceAdd, Int.reduceSub, Int.reduceMul, cpow_10, cpow_2, Int.reduceLE, Int.reduceLT, Int.reduceToNat, Int.reducePow, mset_same, mset_mset, Tgs.len, List.getElem?_cons_zero, List.getElem?_cons_succ, List.set_cons_zero, List.set_cons_succ, List.getElem?_nil, Option.some.injEq, exists_eq_left', exists_eq_left, true_and, and_true, if_true, if_false, Bool.false_eq_true, reduceCtorEq, Dt.int.injEq, Dt.bl.injEq, Dt.str.injEq, Dt.lst.injEq, Dt.tup.injEq, Dt.ref.injEq, decide_eq_true_eq, List.length_cons, List.length_nil, Nat.zero_add, Nat.reduceAdd, Option.map_some, Bool.not_true, Bool.not_false, atI_0, atI_1, atI_2, atI_3, atI_4, ixN_0, ixN_1, ixN_2, ixN_3, ixN_4, w_var, w_int, w_str, w_bl, w_non, w_glob, w_bin, w_neg, w_cmp, w_cmp2, w_bop, w_b1, w_b2, w_not, w_ite, w_tup, w_lst, w_ix, w_sl, w_call, w_bi, w_mt, w_isi, w_lc, w_frz, w_es0, w_es1, w_o0, w_o1, w_tval, w_tcmp, w_tcmp2, w_tnot, w_tall, w_tany, w_all0, w_all1, w_all2, w_any0, w_any1, w_any2, it_t, it_l, w_seq, w_rng1, w_rng2, w_gn, w_gt, w_gi, w_gs0, w_gs1, s_asg, s_asgC, s_par, s_aug, s_expr, s_if, s_for, s_while, s_ret, s_retN, s_brk, s_cont, s_pass, s_nil, frz_l, frz_m, bin_add, bin_adds, bin_sub, bin_mul, bin_fdiv, bin_mod, bin_pow, bin_xor, cmp_lt, cmp_le, cmp_gt, cmp_ge, cmp_eqi, cmp_eqs, cmp_eqb, cmp_nei, cmp_nes, cmp_neb, cmp_is0, cmp_is1, cmp_is2, cmp_is3, cmp_is4, cmp_is5, cmp_is6, cmp_isn0, cmp_isn1, cmp_isn2, cmp_isn3, cmp_isn4, cmp_isn5, cmp_in, cmp_notin, bi_lens, bi_lent, bi_lenl, bi_min, bi_max, bi_abs, bi_listT, bi_listL, bi_tupT, bi_tupL, bi_maxL, bi_minL, bi_sumL, bi_anyL, bi_allL, bi_sorted, seqL_l, items_l, items_t, items_m, w_gl, new_f, new_t, ix_t, ix_l, tru_b, tru_n, tru_i, tru_l, tru_t, isi_b, isi_bi, isi_ii, isi_ib, isi_is, isi_it, isi_il, isi_sb, isi_si, isi_ss, isi_tb, isi_ti, isi_ts, isi_tt, isi_tl, isi_lb, isi_li, isi_ls, isi_lt, isi_ll, isi_nb, isi_ni, isi_ns, isi_nt, isi_nl, ix_m, tru_m, bi_lenm, seqL_m, mt_appm, mt_popm, mtOk_appm, mtOk_popm, it_m, ixSt_m, b4]
    unfold b__law_like_8
    rw [wpSs_cons]
    simp only [Int.reduceNeg, Int.reduceAdd, Int.reduceSub, Int.reduceMul, cpow_10, cpow_2, Int.reduceLE, Int.reduceLT, Int.reduceToNat, Int.reducePow, mset_same, mset_mset, Tgs.len, List.getElem?_cons_zero, List.getElem?_cons_succ, List.set_cons_zero, List.set_cons_succ, List.getElem?_nil, Option.some.injEq, exists_eq_left', exists_eq_left, true_and, and_true, if_true, if_false, Bool.false_eq_true, reduceCtorEq, Dt.int.injEq, Dt.bl.injEq, Dt.str.injEq, Dt.lst.injEq, Dt.tup.injEq, Dt.ref.injEq, decide_eq_true_eq, List.length_cons, List.length_nil, Nat.zero_add, Nat.reduceAdd, Option.map_some, Bool.not_true, Bool.not_false, atI_0, atI_1, atI_2, atI_3, atI_4, ixN_0, ixN_1, ixN_2, ixN_3, ixN_4, w_var, w_int, w_str, w_bl, w_non, w_glob, w_bin, w_neg, w_cmp, w_cmp2, w_bop, w_b1, w_b2, w_not, w_ite, w_tup, w_lst, w_ix, w_sl, w_call, w_bi, w_mt, w_isi, w_lc, w_frz, w_es0, w_es1, w_o0, w_o1, w_tval, w_tcmp, w_tcmp2, w_tnot, w_tall, w_tany, w_all0, w_all1, w_all2, w_any0, w_any1, w_any2, it_t, it_l, w_seq, w_rng1, w_rng2, w_gn, w_gt, w_gi, w_gs0, w_gs1, s_asg, s_asgC, s_par, s_aug, s_expr, s_if, s_for, s_while, s_ret, s_retN, s_brk, s_cont, s_pass, s_nil, frz_l, frz_m, bin_add, bin_adds, bin_sub, bin_mul, bin_fdiv, bin_mod, bin_pow, bin_xor, cmp_lt, cmp_le, cmp_gt, cmp_ge, cmp_eqi, cmp_eqs, cmp_eqb, cmp_nei, cmp_nes, cmp_neb, cmp_is0, cmp_is1, cmp_is2, cmp_is3, cmp_is4, cmp_is5, cmp_is6, cmp_isn0, cmp_isn1, cmp_isn2, cmp_isn3, cmp_isn4, cmp_isn5, cmp_in, cmp_notin, bi_lens, bi_lent, bi_lenl, bi_min, bi_max, bi_abs, bi_listT, bi_listL, bi_tupT, bi_tupL, bi_maxL, bi_minL, bi_sumL, bi_anyL, bi_allL, bi_sorted, seqL_l, items_l, items_t, items_m, w_gl, new_f, new_t, ix_t, ix_l, tru_b, tru_n, tru_i, tru_l, tru_t, isi_b, isi_bi, isi_ii, isi_ib, isi_is, isi_it, isi_il, isi_sb, isi_si, isi_ss, isi_tb, isi_ti, isi_ts, isi_tt, isi_tl, isi_lb, isi_li, isi_ls, isi_lt, isi_ll, isi_nb, isi_ni, isi_ns, isi_nt, isi_nl, ix_m, tru_m, bi_lenm, seqL_m, mt_appm, mt_popm, mtOk_appm, mtOk_popm, it_m, ixSt_m, b5, b6, a5, a6, decide_true]
    unfold b__law_like_10
    rw [wpSs_cons]
    simp only [Int.reduceNeg, Int.reduceAdd, Int.reduceSub, Int.reduceMul, cpow_10, cpow_2, Int.reduceLE, Int.reduceLT, Int.reduceToNat, Int.reducePow, mset_same, mset_mset, Tgs.len, List.getElem?_cons_zero, List.getElem?_cons_succ, List.set_cons_zero, List.set_cons_succ, List.getElem?_nil, Option.some.injEq, exists_eq_left', exists_eq_left, true_and, and_true, if_true, if_false, Bool.false_eq_true, reduceCtorEq, Dt.int.injEq, Dt.bl.injEq, Dt.str.injEq, Dt.lst.injEq, Dt.tup.injEq, Dt.ref.injEq, decide_eq_true_eq, List.length_cons, List.length_nil, Nat.zero_add, Nat.reduceAdd, Option.map_some, Bool.not_true, Bool.not_false, atI_0, atI_1, atI_2, atI_3, atI_4, ixN_0, ixN_1, ixN_2, ixN_3, ixN_4, w_var, w_int, w_str, w_bl, w_non, w_glob, w_bin, w_neg, w_cmp, w_cmp2, w_bop, w_b1, w_b2, w_not, w_ite, w_tup, w_lst, w_ix, w_sl, w_call, w_bi, w_mt, w_isi, w_lc, w_frz, w_es0, w_es1, w_o0, w_o1, w_tval, w_tcmp, w_tcmp2, w_tnot, w_tall, w_tany, w_all0, w_all1, w_all2, w_any0, w_any1, w_any2, it_t, it_l, w_seq, w_rng1, w_rng2, w_gn, w_gt, w_gi, w_gs0, w_gs1, s_asg, s_asgC, s_par, s_aug, s_expr, s_if, s_for, s_while, s_ret, s_retN, s_brk, s_cont, s_pass, s_nil, frz_l, frz_m, bin_add, bin_adds, bin_sub, bin_mul, bin_fdiv, bin_mod, bin_pow, bin_xor, cmp_lt, cmp_le, cmp_gt, cmp_ge, cmp_eqi, cmp_eqs, cmp_eqb, cmp_nei, cmp_nes, cmp_neb, cmp_is0, cmp_is1, cmp_is2, cmp_is3, cmp_is4, cmp_is5, cmp_is6, cmp_isn0, cmp_isn1, cmp_isn2, cmp_isn3, cmp_isn4, cmp_isn5, cmp_in, cmp_notin, bi_lens, bi_lent, bi_lenl, bi_min, bi_max, bi_abs, bi_listT, bi_listL, bi_tupT, bi_tupL, bi_maxL, bi_minL, bi_sumL, bi_anyL, bi_allL, bi_sorted, seqL_l, items_l, items_t, items_m, w_gl, new_f, new_t, ix_t, ix_l, tru_b, tru_n, tru_i, tru_l, tru_t, isi_b, isi_bi, isi_ii, isi_ib, isi_is, isi_it, isi_il, isi_sb, isi_si, isi_ss, isi_tb, isi_ti, isi_ts, isi_tt, isi_tl, isi_lb, isi_li, isi_ls, isi_lt, isi_ll, isi_nb, isi_ni, isi_ns, isi_nt, isi_nl, ix_m, tru_m, bi_lenm, seqL_m, mt_appm, mt_popm, mtOk_appm, mtOk_popm, it_m, ixSt_m, h1.len, h2.len, h3, decide_true]
    unfold b__law_like_12
    rw [wpSs_cons]
    simp only [Int.reduceNeg, Int.reduceAdd, Int.reduceSub, Int.reduceMul, cpow_10, cpow_2, Int.reduceLE, Int.reduceLT, Int.reduceToNat, Int.reducePow, mset_same, mset_mset, Tgs.len, List.getElem?_cons_zero, List.getElem?_cons_succ, List.set_cons_zero, List.set_cons_succ, List.getElem?_nil, Option.some.injEq, exists_eq_left', exists_eq_left, true_and, and_true, if_true, if_false, Bool.false_eq_true, reduceCtorEq, Dt.int.injEq, Dt.bl.injEq, Dt.str.injEq, Dt.lst.injEq, Dt.tup.injEq, Dt.ref.injEq, decide_eq_true_eq, List.length_cons, List.length_nil, Nat.zero_add, Nat.reduceAdd, Option.map_some, Bool.not_true, Bool.not_false, atI_0, atI_1, atI_2, atI_3, atI_4, ixN_0, ixN_1, ixN_2, ixN_3, ixN_4, w_var, w_int, w_str, w_bl, w_non, w_glob, w_bin, w_neg, w_cmp, w_cmp2, w_bop, w_b1, w_b2, w_not, w_ite, w_tup, w_lst, w_ix, w_sl, w_call, w_bi, w_mt, w_isi, w_lc, w_frz, w_es0, w_es1, w_o0, w_o1, w_tval, w_tcmp, w_tcmp2, w_tnot, w_tall, w_tany, w_all0, w_all1, w_all2, w_any0, w_any1, w_any2, it_t, it_l, w_seq, w_rng1, w_rng2, w_gn, w_gt, w_gi, w_gs0, w_gs1, s_asg, s_asgC, s_par, s_aug, s_expr, s_if, s_for, s_while, s_ret, s_retN, s_brk, s_cont, s_pass, s_nil, frz_l, frz_m, bin_add, bin_adds, bin_sub, bin_mul, bin_fdiv, bin_mod, bin_pow, bin_xor, cmp_lt, cmp_le, cmp_gt, cmp_ge, cmp_eqi, cmp_eqs, cmp_eqb, cmp_nei, cmp_nes, cmp_neb, cmp_is0, cmp_is1, cmp_is2, cmp_is3, cmp_is4, cmp_is5, cmp_is6, cmp_isn0, cmp_isn1, cmp_isn2, cmp_isn3, cmp_isn4, cmp_isn5, cmp_in, cmp_notin, bi_lens, bi_lent, bi_lenl, bi_min, bi_max, bi_abs, bi_listT, bi_listL, bi_tupT, bi_tupL, bi_maxL, bi_minL, bi_sumL, bi_anyL, bi_allL, bi_sorted, seqL_l, items_l, items_t, items_m, w_gl, new_f, new_t, ix_t, ix_l, tru_b, tru_n, tru_i, tru_l, tru_t, isi_b, isi_bi, isi_ii, isi_ib, isi_is, isi_it, isi_il, isi_sb, isi_si, isi_ss, isi_tb, isi_ti, isi_ts, isi_tt, isi_tl, isi_lb, isi_li, isi_ls, isi_lt, isi_ll, isi_nb, isi_ni, isi_ns, isi_nt, isi_nl, ix_m, tru_m, bi_lenm, seqL_m, mt_appm, mt_popm, mtOk_appm, mtOk_popm, it_m, ixSt_m, h2.len]
    refine ⟨by omega, by unfold sizeLine at h4; omega, ?_⟩
    rw [Int.toNat_natCast]
    refine lcRun_map (fun _ => some (.bl true)) _ _ ?_ (by rw [List.length_map, List.length_range, List.length_nil]; omega) ?_
    · intro d1 hd k1 hk1
      obtain ⟨j, hj, rfl⟩ := List.mem_map.mp hd
      rw [List.mem_range] at hj
      have w : wipeR [some d, some e, none] ([(("_law_j" : Str), 2)].map (·.2)) = [some d, some e, none] := rfl
      rw [w]
      simp only [Int.reduceNeg, Int.reduceAdd, Int.reduceSub, Int.reduceMul, cpow_10, cpow_2, Int.reduceLE, Int.reduceLT, Int.reduceToNat, Int.reducePow, mset_same, mset_mset, Tgs.len, List.getElem?_cons_zero, List.getElem?_cons_succ, List.set_cons_zero, List.set_cons_succ, List.getElem?_nil, Option.some.injEq, exists_eq_left', exists_eq_left, true_and, and_true, if_true, if_false, Bool.false_eq_true, reduceCtorEq, Dt.int.injEq, Dt.bl.injEq, Dt.str.injEq, Dt.lst.injEq, Dt.tup.injEq, Dt.ref.injEq, decide_eq_true_eq, List.length_cons, List.length_nil, Nat.zero_add, Nat.reduceAdd, Option.map_some, Bool.not_true, Bool.not_false, atI_0, atI_1, atI_2, atI_3, atI_4, ixN_0, ixN_1, ixN_2, ixN_3, ixN_4, w_var, w_int, w_str, w_bl, w_non, w_glob, w_bin, w_neg, w_cmp, w_cmp2, w_bop, w_b1, w_b2, w_not, w_ite, w_tup, w_lst, w_ix, w_sl, w_call, w_bi, w_mt, w_isi, w_lc, w_frz, w_es0, w_es1, w_o0, w_o1, w_tval, w_tcmp, w_tcmp2, w_tnot, w_tall, w_tany, w_all0, w_all1, w_all2, w_any0, w_any1, w_any2, it_t, it_l, w_seq, w_rng1, w_rng2, w_gn, w_gt, w_gi, w_gs0, w_gs1, s_asg, s_asgC, s_par, s_aug, s_expr, s_if, s_for, s_while, s_ret, s_retN, s_brk, s_cont, s_pass, s_nil, frz_l, frz_m, bin_add, bin_adds, bin_sub, bin_mul, bin_fdiv, bin_mod, bin_pow, bin_xor, cmp_lt, cmp_le, cmp_gt, cmp_ge, cmp_eqi, cmp_eqs, cmp_eqb, cmp_nei, cmp_nes, cmp_neb, cmp_is0, cmp_is1, cmp_is2, cmp_is3, cmp_is4, cmp_is5, cmp_is6, cmp_isn0, cmp_isn1, cmp_isn2, cmp_isn3, cmp_isn4, cmp_isn5, cmp_in, cmp_notin, bi_lens, bi_lent, bi_lenl, bi_min, bi_max, bi_abs, bi_listT, bi_listL, bi_tupT, bi_tupL, bi_maxL, bi_minL, bi_sumL, bi_anyL, bi_allL, bi_sorted, seqL_l, items_l, items_t, items_m, w_gl, new_f, new_t, ix_t, ix_l, tru_b, tru_n, tru_i, tru_l, tru_t, isi_b, isi_bi, isi_ii, isi_ib, isi_is, isi_it, isi_il, isi_sb, isi_si, isi_ss, isi_tb, isi_ti, isi_ts, isi_tt, isi_tl, isi_lb, isi_li, isi_ls, isi_lt, isi_ll, isi_nb, isi_ni, isi_ns, isi_nt, isi_nl, ix_m, tru_m, bi_lenm, seqL_m, mt_appm, mt_popm, mtOk_appm, mtOk_popm, it_m, ixSt_m, h1.ix, h2.ix, atI_nat]
      refine ⟨_, List.getElem?_eq_getElem (by omega), _, List.getElem?_eq_getElem hj, ?_⟩
      exact hc _ _ _ _ _ (h5 j _ _ (List.getElem?_eq_getElem (by omega)) (List.getElem?_eq_getElem hj)) hk1
    · obtain ⟨bs, eb, hb⟩ := all_true (ds := [] ++ List.filterMap (fun _ => some (Dt.bl true)) (List.map (fun (k : Nat) => Dt.int (k : Int)) (List.range ys.length))) (by
        intro d hd
        rw [List.nil_append] at hd
        obtain ⟨_, _, z⟩ := List.mem_filterMap.mp hd
        exact (Option.some.inj z).symm)
      refine ⟨bs, eb, ?_⟩
      rw [hb]
      exact hrt
theorem Gn_call {T : Txt} {g : Nat} {d : DD} (e : T.defs.lookup g = some d) (m : Nat) : (Gn T (m + 1)).call g = wfB (Gn T m) d.N d.np d.body := by
  show (match T.defs.lookup g with | some d => wfB (Gn T m) d.N d.np d.body | none => botW) = _
  rw [e]
theorem like_all {T : Txt} {d : DD} (e : T.defs.lookup 53 = some d) (h1 : d.N = n__law_like) (h2 : d.np = 2) (h3 : d.body = b__law_like) : ∀ n m, n ≤ m → LikeOk n ((Gn T m).call 53)
  | 0, _, _ => fun _ _ _ _ _ h => False.elim h
  | n + 1, 0, h => absurd h (Nat.not_succ_le_zero n)
  | n + 1, m + 1, h => by
    rw [Gn_call e m, h1, h2, h3]
    exact like_ok (like_all e h1 h2 h3 n m (Nat.le_of_succ_le_succ h))
theorem PullOk.go {W : Wf} (h : PullOk W) {p : Addr} {cap : Int} {d : Drw} {M : Mm} {q : QD} {x : QX} (hd : d.Ok) (h0 : 0 < cap) (h1 : cap < 2 ^ 200) (k : ∀ r (d' : Drw), d'.Ok → 0 ≤ r → r < cap → q (.int r) (mset M p (some d'.o))) : W.run [.ref p, .int cap] (mset M p (some d.o)) q x :=
  h p cap d _ q x mset_same hd h0 h1 fun r d' hd' a b => by
    rw [mset_mset]
    exact k r d' hd' a b
theorem sz {n : Nat} (h : n ≤ 16777216) : n ≤ sizeLine := h
end Fm

/-! Matings: what the program's defs and the laws' helpers do with one. -/
namespace Fm
open PySem L2 PySem.Spec PyProof.Rows
/-- a mating as data -/
abbrev mtg (a b m t : Int) : Dt := .tup [.int a, .int b, .int m, .int t]
def b_back_1 : Sms := .cons (.ret (.tup (.cons (.var 2) (.cons (.var 1) (.cons (.var 3) (.cons (.var 4) (.nil))))))) .nil
def b_back_0 : Sms := .cons (.asg (.tup (.cons (.name 1) (.cons (.name 2) (.cons (.name 3) (.cons (.name 4) (.nil)))))) (.var 0)) b_back_1
abbrev b_back : Sms := b_back_0
abbrev n_back : List Str := ["mating", "one", "other", "many", "turned"]
def b_normal_0 : Sms := .cons (.ret (.ite (.cmp .le (.ix (.var 0) (.int 0)) (.ix (.var 0) (.int 1))) (.var 0) (.call 4 (.cons (.var 0) (.nil))))) .nil
abbrev b_normal : Sms := b_normal_0
abbrev n_normal : List Str := ["mating"]
def b_led_5 : Sms := .cons (.ret (.bin .sub (.bin .add (.var 3) (.var 1)) (.var 2))) .nil
def b_led_4 : Sms := .cons (.ret (.bin .sub (.bin .sub (.bin .add (.var 3) (.var 4)) (.int 1)) (.bin .sub (.var 1) (.var 2)))) .nil
def b_led_3 : Sms := .cons (.if_ (.cmp .eq (.var 5) (.int 1)) (b_led_4) (.nil)) b_led_5
def b_led_2 : Sms := .cons (.ret (.non)) .nil
def b_led_1 : Sms := .cons (.if_ (.any (.cons (.val (.isi (.var 1) [.ty "bool"] false)) (.cons (.not_ (.cmp2 .le .lt (.var 2) (.var 1) (.bin .add (.var 2) (.var 4)))) (.nil)))) (b_led_2) (.nil)) b_led_3
def b_led_0 : Sms := .cons (.asg (.tup (.cons (.name 2) (.cons (.name 3) (.cons (.name 4) (.cons (.name 5) (.nil)))))) (.var 0)) b_led_1
abbrev b_led : Sms := b_led_0
abbrev n_led : List Str := ["mating", "place", "one", "other", "many", "turned"]
def b__law_mating_4 : Sms := .cons (.ret (.tup (.cons (.call 51 (.cons (.var 0) (.cons (.var 3) (.nil)))) (.cons (.call 51 (.cons (.var 0) (.cons (.var 3) (.nil)))) (.cons (.var 2) (.cons (.call 51 (.cons (.var 0) (.cons (.int 2) (.nil)))) (.nil))))))) .nil
def b__law_mating_3 : Sms := .cons (.asg (.name 3) (.bin .add (.bin .sub (.var 1) (.var 2)) (.int 1))) b__law_mating_4
def b__law_mating_2 : Sms := .cons (.asg (.name 2) (.bin .add (.int 1) (.call 51 (.cons (.var 0) (.cons (.bi (.min2) (.cons (.var 2) (.cons (.int 5) (.nil)))) (.nil)))))) .nil
def b__law_mating_1 : Sms := .cons (.if_ (.cmp .eq (.call 51 (.cons (.var 0) (.cons (.int 2) (.nil)))) (.int 0)) (b__law_mating_2) (.nil)) b__law_mating_3
def b__law_mating_0 : Sms := .cons (.asg (.name 2) (.bin .add (.int 1) (.call 51 (.cons (.var 0) (.cons (.var 1) (.nil)))))) b__law_mating_1
abbrev b__law_mating : Sms := b__law_mating_0
abbrev n__law_mating : List Str := ["_law_draw", "_law_length", "_law_many", "_law_room"]
def b__law_ends_4 : Sms := .cons (.ret (.frz (.var 5))) .nil
def b__law_ends_3 : Sms := .cons (.expr (.mt .append (.var 5) (.cons (.tup (.cons (.bin .add (.var 1) (.var 6)) (.cons (.ite (.cmp .eq (.var 4) (.int 1)) (.bin .sub (.bin .sub (.bin .add (.var 2) (.var 3)) (.int 1)) (.var 6)) (.bin .add (.var 2) (.var 6))) (.nil)))) (.nil)))) .nil
def b__law_ends_2 : Sms := .cons (.for_ (.name 6) (.rng1 (.var 3)) (b__law_ends_3)) b__law_ends_4
def b__law_ends_1 : Sms := .cons (.asg (.name 5) (.lst true (.nil))) b__law_ends_2
def b__law_ends_0 : Sms := .cons (.asg (.tup (.cons (.name 1) (.cons (.name 2) (.cons (.name 3) (.cons (.name 4) (.nil)))))) (.var 0)) b__law_ends_1
abbrev b__law_ends : Sms := b__law_ends_0
abbrev n__law_ends : List Str := ["_law_mating_here", "_law_one", "_law_other", "_law_many", "_law_flips", "_law_found", "_law_k"]
def b__law_first_1 : Sms := .cons (.ret (.tup (.cons (.bi (.min2) (.cons (.var 1) (.cons (.var 2) (.nil)))) (.cons (.bi (.max2) (.cons (.var 1) (.cons (.var 2) (.nil)))) (.cons (.var 3) (.cons (.var 4) (.nil))))))) .nil
def b__law_first_0 : Sms := .cons (.asg (.tup (.cons (.name 1) (.cons (.name 2) (.cons (.name 3) (.cons (.name 4) (.nil)))))) (.var 0)) b__law_first_1
abbrev b__law_first : Sms := b__law_first_0
abbrev n__law_first : List Str := ["_law_mating_here", "_law_one", "_law_other", "_law_many", "_law_flips"]
def BackOk (W : Wf) : Prop := ∀ (a b m t : Int) M q x, q (mtg b a m t) M → W.run [mtg a b m t] M q x
theorem back_ok (G : Gt) : BackOk (wfB G n_back 1 b_back) := by
  intro a b m t M q x h
  refine ⟨rfl, ?_⟩
  have e0 : startR n_back [mtg a b m t] = [some (mtg a b m t), none, none, none, none] := rfl
  rw [e0]
  generalize hk : bodyK q x = k
  have hrt : ∀ d, k.rt d = q d := by intro d; rw [← hk]; rfl
  unfold b_back b_back_0
  rw [wpSs_cons]
  simp only [Int.reduceNeg, Int.reduceAdd, Int.reduceSub, Int.reduceMul, cpow_10, cpow_2, Int.reduceLE, Int.reduceLT, Int.reduceToNat, Int.reducePow, mset_same, mset_mset, Tgs.len, List.getElem?_cons_zero, List.getElem?_cons_succ, List.set_cons_zero, List.set_cons_succ, List.getElem?_nil, Option.some.injEq, exists_eq_left', exists_eq_left, true_and, and_true, if_true, if_false, Bool.false_eq_true, reduceCtorEq, Dt.int.injEq, Dt.bl.injEq, Dt.str.injEq, Dt.lst.injEq, Dt.tup.injEq, Dt.ref.injEq, decide_eq_true_eq, List.length_cons, List.length_nil, Nat.zero_add, Nat.reduceAdd, Option.map_some, Bool.not_true, Bool.not_false, atI_0, atI_1, atI_2, atI_3, atI_4, ixN_0, ixN_1, ixN_2, ixN_3, ixN_4, w_var, w_int, w_str, w_bl, w_non, w_glob, w_bin, w_neg, w_cmp, w_cmp2, w_bop, w_b1, w_b2, w_not, w_ite, w_tup, w_lst, w_ix, w_sl, w_call, w_bi, w_mt, w_isi, w_lc, w_frz, w_es0, w_es1, w_o0, w_o1, w_tval, w_tcmp, w_tcmp2, w_tnot, w_tall, w_tany, w_all0, w_all1, w_all2, w_any0, w_any1, w_any2, it_t, it_l, w_seq, w_rng1, w_rng2, w_gn, w_gt, w_gi, w_gs0, w_gs1, s_asg, s_asgC, s_par, s_aug, s_expr, s_if, s_for, s_while, s_ret, s_retN, s_brk, s_cont, s_pass, s_nil, frz_l, frz_m, bin_add, bin_adds, bin_sub, bin_mul, bin_fdiv, bin_mod, bin_pow, bin_xor, cmp_lt, cmp_le, cmp_gt, cmp_ge, cmp_eqi, cmp_eqs, cmp_eqb, cmp_nei, cmp_nes, cmp_neb, cmp_is0, cmp_is1, cmp_is2, cmp_is3, cmp_is4, cmp_is5, cmp_is6, cmp_isn0, cmp_isn1, cmp_isn2, cmp_isn3, cmp_isn4, cmp_isn5, cmp_in, cmp_notin, bi_lens, bi_lent, bi_lenl, bi_min, bi_max, bi_abs, bi_listT, bi_listL, bi_tupT, bi_tupL, bi_maxL, bi_minL, bi_sumL, bi_anyL, bi_allL, bi_sorted, seqL_l, items_l, items_t, items_m, w_gl, new_f, new_t, ix_t, ix_l, tru_b, tru_n, tru_i, tru_l, tru_t, isi_b, isi_bi, isi_ii, isi_ib, isi_is, isi_it, isi_il, isi_sb, isi_si, isi_ss, isi_tb, isi_ti, isi_ts, isi_tt, isi_tl, isi_lb, isi_li, isi_ls, isi_lt, isi_ll, isi_nb, isi_ni, isi_ns, isi_nt, isi_nl, ix_m, tru_m, bi_lenm, seqL_m, mt_appm, mt_popm, mtOk_appm, mtOk_popm, it_m, ixSt_m]
  unfold b_back_1
  rw [wpSs_cons]
  simp only [Int.reduceNeg, Int.reduceAdd, Int.reduceSub, Int.reduceMul, cpow_10, cpow_2, Int.reduceLE, Int.reduceLT, Int.reduceToNat, Int.reducePow, mset_same, mset_mset, Tgs.len, List.getElem?_cons_zero, List.getElem?_cons_succ, List.set_cons_zero, List.set_cons_succ, List.getElem?_nil, Option.some.injEq, exists_eq_left', exists_eq_left, true_and, and_true, if_true, if_false, Bool.false_eq_true, reduceCtorEq, Dt.int.injEq, Dt.bl.injEq, Dt.str.injEq, Dt.lst.injEq, Dt.tup.injEq, Dt.ref.injEq, decide_eq_true_eq, List.length_cons, List.length_nil, Nat.zero_add, Nat.reduceAdd, Option.map_some, Bool.not_true, Bool.not_false, atI_0, atI_1, atI_2, atI_3, atI_4, ixN_0, ixN_1, ixN_2, ixN_3, ixN_4, w_var, w_int, w_str, w_bl, w_non, w_glob, w_bin, w_neg, w_cmp, w_cmp2, w_bop, w_b1, w_b2, w_not, w_ite, w_tup, w_lst, w_ix, w_sl, w_call, w_bi, w_mt, w_isi, w_lc, w_frz, w_es0, w_es1, w_o0, w_o1, w_tval, w_tcmp, w_tcmp2, w_tnot, w_tall, w_tany, w_all0, w_all1, w_all2, w_any0, w_any1, w_any2, it_t, it_l, w_seq, w_rng1, w_rng2, w_gn, w_gt, w_gi, w_gs0, w_gs1, s_asg, s_asgC, s_par, s_aug, s_expr, s_if, s_for, s_while, s_ret, s_retN, s_brk, s_cont, s_pass, s_nil, frz_l, frz_m, bin_add, bin_adds, bin_sub, bin_mul, bin_fdiv, bin_mod, bin_pow, bin_xor, cmp_lt, cmp_le, cmp_gt, cmp_ge, cmp_eqi, cmp_eqs, cmp_eqb, cmp_nei, cmp_nes, cmp_neb, cmp_is0, cmp_is1, cmp_is2, cmp_is3, cmp_is4, cmp_is5, cmp_is6, cmp_isn0, cmp_isn1, cmp_isn2, cmp_isn3, cmp_isn4, cmp_isn5, cmp_in, cmp_notin, bi_lens, bi_lent, bi_lenl, bi_min, bi_max, bi_abs, bi_listT, bi_listL, bi_tupT, bi_tupL, bi_maxL, bi_minL, bi_sumL, bi_anyL, bi_allL, bi_sorted, seqL_l, items_l, items_t, items_m, w_gl, new_f, new_t, ix_t, ix_l, tru_b, tru_n, tru_i, tru_l, tru_t, isi_b, isi_bi, isi_ii, isi_ib, isi_is, isi_it, isi_il, isi_sb, isi_si, isi_ss, isi_tb, isi_ti, isi_ts, isi_tt, isi_tl, isi_lb, isi_li, isi_ls, isi_lt, isi_ll, isi_nb, isi_ni, isi_ns, isi_nt, isi_nl, ix_m, tru_m, bi_lenm, seqL_m, mt_appm, mt_popm, mtOk_appm, mtOk_popm, it_m, ixSt_m, hrt]
  exact ⟨sz (by decide), h⟩
def NormalOk (W : Wf) : Prop := ∀ (a b m t : Int) M q x, q (if a ≤ b then mtg a b m t else mtg b a m t) M → W.run [mtg a b m t] M q x
theorem normal_ok (G : Gt) (hb : BackOk (G.call 4)) : NormalOk (wfB G n_normal 1 b_normal) := by
  intro a b m t M q x h
  refine ⟨rfl, ?_⟩
  have e0 : startR n_normal [mtg a b m t] = [some (mtg a b m t)] := rfl
  rw [e0]
  generalize hk : bodyK q x = k
  have hrt : ∀ d, k.rt d = q d := by intro d; rw [← hk]; rfl
  unfold b_normal b_normal_0
  rw [wpSs_cons]
  simp only [Int.reduceNeg, Int.reduceAdd, Int.reduceSub, Int.reduceMul, cpow_10, cpow_2, Int.reduceLE, Int.reduceLT, Int.reduceToNat, Int.reducePow, mset_same, mset_mset, Tgs.len, List.getElem?_cons_zero, List.getElem?_cons_succ, List.set_cons_zero, List.set_cons_succ, List.getElem?_nil, Option.some.injEq, exists_eq_left', exists_eq_left, true_and, and_true, if_true, if_false, Bool.false_eq_true, reduceCtorEq, Dt.int.injEq, Dt.bl.injEq, Dt.str.injEq, Dt.lst.injEq, Dt.tup.injEq, Dt.ref.injEq, decide_eq_true_eq, List.length_cons, List.length_nil, Nat.zero_add, Nat.reduceAdd, Option.map_some, Bool.not_true, Bool.not_false, atI_0, atI_1, atI_2, atI_3, atI_4, ixN_0, ixN_1, ixN_2, ixN_3, ixN_4, w_var, w_int, w_str, w_bl, w_non, w_glob, w_bin, w_neg, w_cmp, w_cmp2, w_bop, w_b1, w_b2, w_not, w_ite, w_tup, w_lst, w_ix, w_sl, w_call, w_bi, w_mt, w_isi, w_lc, w_frz, w_es0, w_es1, w_o0, w_o1, w_tval, w_tcmp, w_tcmp2, w_tnot, w_tall, w_tany, w_all0, w_all1, w_all2, w_any0, w_any1, w_any2, it_t, it_l, w_seq, w_rng1, w_rng2, w_gn, w_gt, w_gi, w_gs0, w_gs1, s_asg, s_asgC, s_par, s_aug, s_expr, s_if, s_for, s_while, s_ret, s_retN, s_brk, s_cont, s_pass, s_nil, frz_l, frz_m, bin_add, bin_adds, bin_sub, bin_mul, bin_fdiv, bin_mod, bin_pow, bin_xor, cmp_lt, cmp_le, cmp_gt, cmp_ge, cmp_eqi, cmp_eqs, cmp_eqb, cmp_nei, cmp_nes, cmp_neb, cmp_is0, cmp_is1, cmp_is2, cmp_is3, cmp_is4, cmp_is5, cmp_is6, cmp_isn0, cmp_isn1, cmp_isn2, cmp_isn3, cmp_isn4, cmp_isn5, cmp_in, cmp_notin, bi_lens, bi_lent, bi_lenl, bi_min, bi_max, bi_abs, bi_listT, bi_listL, bi_tupT, bi_tupL, bi_maxL, bi_minL, bi_sumL, bi_anyL, bi_allL, bi_sorted, seqL_l, items_l, items_t, items_m, w_gl, new_f, new_t, ix_t, ix_l, tru_b, tru_n, tru_i, tru_l, tru_t, isi_b, isi_bi, isi_ii, isi_ib, isi_is, isi_it, isi_il, isi_sb, isi_si, isi_ss, isi_tb, isi_ti, isi_ts, isi_tt, isi_tl, isi_lb, isi_li, isi_ls, isi_lt, isi_ll, isi_nb, isi_ni, isi_ns, isi_nt, isi_nl, ix_m, tru_m, bi_lenm, seqL_m, mt_appm, mt_popm, mtOk_appm, mtOk_popm, it_m, ixSt_m, hrt]
  by_cases hab : a ≤ b
  · rw [if_pos hab] at h ⊢
    exact h
  · rw [if_neg hab] at h ⊢
    exact hb a b m t _ _ _ (by rw [hrt]; exact h)
/-- where a place is led -/
def ledI (a b m t p : Int) : Dt := if a ≤ p ∧ p < a + m then (if t = 1 then .int (b + m - 1 - (p - a)) else .int (b + p - a)) else .non
def LedOk (W : Wf) : Prop := ∀ (a b m t : Int) (p : Dt) M q x, (match p with
  | .bl _ => q .non M
  | .int p => q (ledI a b m t p) M
  | _ => False) → W.run [mtg a b m t, p] M q x
theorem led_ok (G : Gt) : LedOk (wfB G n_led 2 b_led) := by
  intro a b m t p M q x h
  refine ⟨rfl, ?_⟩
  have e0 : startR n_led [mtg a b m t, p] = [some (mtg a b m t), some p, none, none, none, none] := rfl
  rw [e0]
  generalize hk : bodyK q x = k
  have hrt : ∀ d, k.rt d = q d := by intro d; rw [← hk]; rfl
  unfold b_led b_led_0
  rw [wpSs_cons]
  simp only [Int.reduceNeg, Int.reduceAdd, Int.reduceSub, Int.reduceMul, cpow_10, cpow_2, Int.reduceLE, Int.reduceLT, Int.reduceToNat, Int.reducePow, mset_same, mset_mset, Tgs.len, List.getElem?_cons_zero, List.getElem?_cons_succ, List.set_cons_zero, List.set_cons_succ, List.getElem?_nil, Option.some.injEq, exists_eq_left', exists_eq_left, true_and, and_true, if_true, if_false, Bool.false_eq_true, reduceCtorEq, Dt.int.injEq, Dt.bl.injEq, Dt.str.injEq, Dt.lst.injEq, Dt.tup.injEq, Dt.ref.injEq, decide_eq_true_eq, List.length_cons, List.length_nil, Nat.zero_add, Nat.reduceAdd, Option.map_some, Bool.not_true, Bool.not_false, atI_0, atI_1, atI_2, atI_3, atI_4, ixN_0, ixN_1, ixN_2, ixN_3, ixN_4, w_var, w_int, w_str, w_bl, w_non, w_glob, w_bin, w_neg, w_cmp, w_cmp2, w_bop, w_b1, w_b2, w_not, w_ite, w_tup, w_lst, w_ix, w_sl, w_call, w_bi, w_mt, w_isi, w_lc, w_frz, w_es0, w_es1, w_o0, w_o1, w_tval, w_tcmp, w_tcmp2, w_tnot, w_tall, w_tany, w_all0, w_all1, w_all2, w_any0, w_any1, w_any2, it_t, it_l, w_seq, w_rng1, w_rng2, w_gn, w_gt, w_gi, w_gs0, w_gs1, s_asg, s_asgC, s_par, s_aug, s_expr, s_if, s_for, s_while, s_ret, s_retN, s_brk, s_cont, s_pass, s_nil, frz_l, frz_m, bin_add, bin_adds, bin_sub, bin_mul, bin_fdiv, bin_mod, bin_pow, bin_xor, cmp_lt, cmp_le, cmp_gt, cmp_ge, cmp_eqi, cmp_eqs, cmp_eqb, cmp_nei, cmp_nes, cmp_neb, cmp_is0, cmp_is1, cmp_is2, cmp_is3, cmp_is4, cmp_is5, cmp_is6, cmp_isn0, cmp_isn1, cmp_isn2, cmp_isn3, cmp_isn4, cmp_isn5, cmp_in, cmp_notin, bi_lens, bi_lent, bi_lenl, bi_min, bi_max, bi_abs, bi_listT, bi_listL, bi_tupT, bi_tupL, bi_maxL, bi_minL, bi_sumL, bi_anyL, bi_allL, bi_sorted, seqL_l, items_l, items_t, items_m, w_gl, new_f, new_t, ix_t, ix_l, tru_b, tru_n, tru_i, tru_l, tru_t, isi_b, isi_bi, isi_ii, isi_ib, isi_is, isi_it, isi_il, isi_sb, isi_si, isi_ss, isi_tb, isi_ti, isi_ts, isi_tt, isi_tl, isi_lb, isi_li, isi_ls, isi_lt, isi_ll, isi_nb, isi_ni, isi_ns, isi_nt, isi_nl, ix_m, tru_m, bi_lenm, seqL_m, mt_appm, mt_popm, mtOk_appm, mtOk_popm, it_m, ixSt_m]
  unfold b_led_1
  rw [wpSs_cons]
  cases p with
  | bl z =>
    simp only [Int.reduceNeg, Int.reduceAdd, Int.reduceSub, Int.reduceMul, cpow_10, cpow_2, Int.reduceLE, Int.reduceLT, Int.reduceToNat, Int.reducePow, mset_same, mset_mset, Tgs.len, List.getElem?_cons_zero, List.getElem?_cons_succ, List.set_cons_zero, List.set_cons_succ, List.getElem?_nil, Option.some.injEq, exists_eq_left', exists_eq_left, true_and, and_true, if_true, if_false, Bool.false_eq_true, reduceCtorEq, Dt.int.injEq, Dt.bl.injEq, Dt.str.injEq, Dt.lst.injEq, Dt.tup.injEq, Dt.ref.injEq, decide_eq_true_eq, List.length_cons, List.length_nil, Nat.zero_add, Nat.reduceAdd, Option.map_some, Bool.not_true, Bool.not_false, atI_0, atI_1, atI_2, atI_3, atI_4, ixN_0, ixN_1, ixN_2, ixN_3, ixN_4, w_var, w_int, w_str, w_bl, w_non, w_glob, w_bin, w_neg, w_cmp, w_cmp2, w_bop, w_b1, w_b2, w_not, w_ite, w_tup, w_lst, w_ix, w_sl, w_call, w_bi, w_mt, w_isi, w_lc, w_frz, w_es0, w_es1, w_o0, w_o1, w_tval, w_tcmp, w_tcmp2, w_tnot, w_tall, w_tany, w_all0, w_all1, w_all2, w_any0, w_any1, w_any2, it_t, it_l, w_seq, w_rng1, w_rng2, w_gn, w_gt, w_gi, w_gs0, w_gs1, s_asg, s_asgC, s_par, s_aug, s_expr, s_if, s_for, s_while, s_ret, s_retN, s_brk, s_cont, s_pass, s_nil, frz_l, frz_m, bin_add, bin_adds, bin_sub, bin_mul, bin_fdiv, bin_mod, bin_pow, bin_xor, cmp_lt, cmp_le, cmp_gt, cmp_ge, cmp_eqi, cmp_eqs, cmp_eqb, cmp_nei, cmp_nes, cmp_neb, cmp_is0, cmp_is1, cmp_is2, cmp_is3, cmp_is4, cmp_is5, cmp_is6, cmp_isn0, cmp_isn1, cmp_isn2, cmp_isn3, cmp_isn4, cmp_isn5, cmp_in, cmp_notin, bi_lens, bi_lent, bi_lenl, bi_min, bi_max, bi_abs, bi_listT, bi_listL, bi_tupT, bi_tupL, bi_maxL, bi_minL, bi_sumL, bi_anyL, bi_allL, bi_sorted, seqL_l, items_l, items_t, items_m, w_gl, new_f, new_t, ix_t, ix_l, tru_b, tru_n, tru_i, tru_l, tru_t, isi_b, isi_bi, isi_ii, isi_ib, isi_is, isi_it, isi_il, isi_sb, isi_si, isi_ss, isi_tb, isi_ti, isi_ts, isi_tt, isi_tl, isi_lb, isi_li, isi_ls, isi_lt, isi_ll, isi_nb, isi_ni, isi_ns, isi_nt, isi_nl, ix_m, tru_m, bi_lenm, seqL_m, mt_appm, mt_popm, mtOk_appm, mtOk_popm, it_m, ixSt_m]
    unfold b_led_2
    rw [wpSs_cons]
    simp only [Int.reduceNeg, Int.reduceAdd, Int.reduceSub, Int.reduceMul, cpow_10, cpow_2, Int.reduceLE, Int.reduceLT, Int.reduceToNat, Int.reducePow, mset_same, mset_mset, Tgs.len, List.getElem?_cons_zero, List.getElem?_cons_succ, List.set_cons_zero, List.set_cons_succ, List.getElem?_nil, Option.some.injEq, exists_eq_left', exists_eq_left, true_and, and_true, if_true, if_false, Bool.false_eq_true, reduceCtorEq, Dt.int.injEq, Dt.bl.injEq, Dt.str.injEq, Dt.lst.injEq, Dt.tup.injEq, Dt.ref.injEq, decide_eq_true_eq, List.length_cons, List.length_nil, Nat.zero_add, Nat.reduceAdd, Option.map_some, Bool.not_true, Bool.not_false, atI_0, atI_1, atI_2, atI_3, atI_4, ixN_0, ixN_1, ixN_2, ixN_3, ixN_4, w_var, w_int, w_str, w_bl, w_non, w_glob, w_bin, w_neg, w_cmp, w_cmp2, w_bop, w_b1, w_b2, w_not, w_ite, w_tup, w_lst, w_ix, w_sl, w_call, w_bi, w_mt, w_isi, w_lc, w_frz, w_es0, w_es1, w_o0, w_o1, w_tval, w_tcmp, w_tcmp2, w_tnot, w_tall, w_tany, w_all0, w_all1, w_all2, w_any0, w_any1, w_any2, it_t, it_l, w_seq, w_rng1, w_rng2, w_gn, w_gt, w_gi, w_gs0, w_gs1, s_asg, s_asgC, s_par, s_aug, s_expr, s_if, s_for, s_while, s_ret, s_retN, s_brk, s_cont, s_pass, s_nil, frz_l, frz_m, bin_add, bin_adds, bin_sub, bin_mul, bin_fdiv, bin_mod, bin_pow, bin_xor, cmp_lt, cmp_le, cmp_gt, cmp_ge, cmp_eqi, cmp_eqs, cmp_eqb, cmp_nei, cmp_nes, cmp_neb, cmp_is0, cmp_is1, cmp_is2, cmp_is3, cmp_is4, cmp_is5, cmp_is6, cmp_isn0, cmp_isn1, cmp_isn2, cmp_isn3, cmp_isn4, cmp_isn5, cmp_in, cmp_notin, bi_lens, bi_lent, bi_lenl, bi_min, bi_max, bi_abs, bi_listT, bi_listL, bi_tupT, bi_tupL, bi_maxL, bi_minL, bi_sumL, bi_anyL, bi_allL, bi_sorted, seqL_l, items_l, items_t, items_m, w_gl, new_f, new_t, ix_t, ix_l, tru_b, tru_n, tru_i, tru_l, tru_t, isi_b, isi_bi, isi_ii, isi_ib, isi_is, isi_it, isi_il, isi_sb, isi_si, isi_ss, isi_tb, isi_ti, isi_ts, isi_tt, isi_tl, isi_lb, isi_li, isi_ls, isi_lt, isi_ll, isi_nb, isi_ni, isi_ns, isi_nt, isi_nl, ix_m, tru_m, bi_lenm, seqL_m, mt_appm, mt_popm, mtOk_appm, mtOk_popm, it_m, ixSt_m, hrt]
    exact h
  | int p =>
    have h' : q (ledI a b m t p) M := h
    unfold ledI at h'
    simp only [Int.reduceNeg, Int.reduceAdd, Int.reduceSub, Int.reduceMul, cpow_10, cpow_2, Int.reduceLE, Int.reduceLT, Int.reduceToNat, Int.reducePow, mset_same, mset_mset, Tgs.len, List.getElem?_cons_zero, List.getElem?_cons_succ, List.set_cons_zero, List.set_cons_succ, List.getElem?_nil, Option.some.injEq, exists_eq_left', exists_eq_left, true_and, and_true, if_true, if_false, Bool.false_eq_true, reduceCtorEq, Dt.int.injEq, Dt.bl.injEq, Dt.str.injEq, Dt.lst.injEq, Dt.tup.injEq, Dt.ref.injEq, decide_eq_true_eq, List.length_cons, List.length_nil, Nat.zero_add, Nat.reduceAdd, Option.map_some, Bool.not_true, Bool.not_false, atI_0, atI_1, atI_2, atI_3, atI_4, ixN_0, ixN_1, ixN_2, ixN_3, ixN_4, w_var, w_int, w_str, w_bl, w_non, w_glob, w_bin, w_neg, w_cmp, w_cmp2, w_bop, w_b1, w_b2, w_not, w_ite, w_tup, w_lst, w_ix, w_sl, w_call, w_bi, w_mt, w_isi, w_lc, w_frz, w_es0, w_es1, w_o0, w_o1, w_tval, w_tcmp, w_tcmp2, w_tnot, w_tall, w_tany, w_all0, w_all1, w_all2, w_any0, w_any1, w_any2, it_t, it_l, w_seq, w_rng1, w_rng2, w_gn, w_gt, w_gi, w_gs0, w_gs1, s_asg, s_asgC, s_par, s_aug, s_expr, s_if, s_for, s_while, s_ret, s_retN, s_brk, s_cont, s_pass, s_nil, frz_l, frz_m, bin_add, bin_adds, bin_sub, bin_mul, bin_fdiv, bin_mod, bin_pow, bin_xor, cmp_lt, cmp_le, cmp_gt, cmp_ge, cmp_eqi, cmp_eqs, cmp_eqb, cmp_nei, cmp_nes, cmp_neb, cmp_is0, cmp_is1, cmp_is2, cmp_is3, cmp_is4, cmp_is5, cmp_is6, cmp_isn0, cmp_isn1, cmp_isn2, cmp_isn3, cmp_isn4, cmp_isn5, cmp_in, cmp_notin, bi_lens, bi_lent, bi_lenl, bi_min, bi_max, bi_abs, bi_listT, bi_listL, bi_tupT, bi_tupL, bi_maxL, bi_minL, bi_sumL, bi_anyL, bi_allL, bi_sorted, seqL_l, items_l, items_t, items_m, w_gl, new_f, new_t, ix_t, ix_l, tru_b, tru_n, tru_i, tru_l, tru_t, isi_b, isi_bi, isi_ii, isi_ib, isi_is, isi_it, isi_il, isi_sb, isi_si, isi_ss, isi_tb, isi_ti, isi_ts, isi_tt, isi_tl, isi_lb, isi_li, isi_ls, isi_lt, isi_ll, isi_nb, isi_ni, isi_ns, isi_nt, isi_nl, ix_m, tru_m, bi_lenm, seqL_m, mt_appm, mt_popm, mtOk_appm, mtOk_popm, it_m, ixSt_m]
    have no : ¬ (a ≤ p ∧ p < a + m) → wpSs G b_led_2 ⟨wpSs G b_led_3 k, k.rt, k.bk, k.ct, k.xx⟩ [some (mtg a b m t), some (.int p), some (.int a), some (.int b), some (.int m), some (.int t)] M := by
      intro hn
      rw [if_neg hn] at h'
      unfold b_led_2
      rw [wpSs_cons]
      simp only [Int.reduceNeg, Int.reduceAdd, Int.reduceSub, Int.reduceMul, cpow_10, cpow_2, Int.reduceLE, Int.reduceLT, Int.reduceToNat, Int.reducePow, mset_same, mset_mset, Tgs.len, List.getElem?_cons_zero, List.getElem?_cons_succ, List.set_cons_zero, List.set_cons_succ, List.getElem?_nil, Option.some.injEq, exists_eq_left', exists_eq_left, true_and, and_true, if_true, if_false, Bool.false_eq_true, reduceCtorEq, Dt.int.injEq, Dt.bl.injEq, Dt.str.injEq, Dt.lst.injEq, Dt.tup.injEq, Dt.ref.injEq, decide_eq_true_eq, List.length_cons, List.length_nil, Nat.zero_add, Nat.reduceAdd, Option.map_some, Bool.not_true, Bool.not_false, atI_0, atI_1, atI_2, atI_3, atI_4, ixN_0, ixN_1, ixN_2, ixN_3, ixN_4, w_var, w_int, w_str, w_bl, w_non, w_glob, w_bin, w_neg, w_cmp, w_cmp2, w_bop, w_b1, w_b2, w_not, w_ite, w_tup, w_lst, w_ix, w_sl, w_call, w_bi, w_mt, w_isi, w_lc, w_frz, w_es0, w_es1, w_o0, w_o1, w_tval, w_tcmp, w_tcmp2, w_tnot, w_tall, w_tany, w_all0, w_all1, w_all2, w_any0, w_any1, w_any2, it_t, it_l, w_seq, w_rng1, w_rng2, w_gn, w_gt, w_gi, w_gs0, w_gs1, s_asg, s_asgC, s_par, s_aug, s_expr, s_if, s_for, s_while, s_ret, s_retN, s_brk, s_cont, s_pass, s_nil, frz_l, frz_m, bin_add, bin_adds, bin_sub, bin_mul, bin_fdiv, bin_mod, bin_pow, bin_xor, cmp_lt, cmp_le, cmp_gt, cmp_ge, cmp_eqi, cmp_eqs, cmp_eqb, cmp_nei, cmp_nes, cmp_neb, cmp_is0, cmp_is1, cmp_is2, cmp_is3, cmp_is4, cmp_is5, cmp_is6, cmp_isn0, cmp_isn1, cmp_isn2, cmp_isn3, cmp_isn4, cmp_isn5, cmp_in, cmp_notin, bi_lens, bi_lent, bi_lenl, bi_min, bi_max, bi_abs, bi_listT, bi_listL, bi_tupT, bi_tupL, bi_maxL, bi_minL, bi_sumL, bi_anyL, bi_allL, bi_sorted, seqL_l, items_l, items_t, items_m, w_gl, new_f, new_t, ix_t, ix_l, tru_b, tru_n, tru_i, tru_l, tru_t, isi_b, isi_bi, isi_ii, isi_ib, isi_is, isi_it, isi_il, isi_sb, isi_si, isi_ss, isi_tb, isi_ti, isi_ts, isi_tt, isi_tl, isi_lb, isi_li, isi_ls, isi_lt, isi_ll, isi_nb, isi_ni, isi_ns, isi_nt, isi_nl, ix_m, tru_m, bi_lenm, seqL_m, mt_appm, mt_popm, mtOk_appm, mtOk_popm, it_m, ixSt_m, hrt]
      exact h'
    by_cases h1 : a ≤ p
    · by_cases h2 : p < a + m
      · simp only [h1, h2, Int.reduceNeg, Int.reduceAdd, Int.reduceSub, Int.reduceMul, cpow_10, cpow_2, Int.reduceLE, Int.reduceLT, Int.reduceToNat, Int.reducePow, mset_same, mset_mset, Tgs.len, List.getElem?_cons_zero, List.getElem?_cons_succ, List.set_cons_zero, List.set_cons_succ, List.getElem?_nil, Option.some.injEq, exists_eq_left', exists_eq_left, true_and, and_true, if_true, if_false, Bool.false_eq_true, reduceCtorEq, Dt.int.injEq, Dt.bl.injEq, Dt.str.injEq, Dt.lst.injEq, Dt.tup.injEq, Dt.ref.injEq, decide_eq_true_eq, List.length_cons, List.length_nil, Nat.zero_add, Nat.reduceAdd, Option.map_some, Bool.not_true, Bool.not_false, atI_0, atI_1, atI_2, atI_3, atI_4, ixN_0, ixN_1, ixN_2, ixN_3, ixN_4, w_var, w_int, w_str, w_bl, w_non, w_glob, w_bin, w_neg, w_cmp, w_cmp2, w_bop, w_b1, w_b2, w_not, w_ite, w_tup, w_lst, w_ix, w_sl, w_call, w_bi, w_mt, w_isi, w_lc, w_frz, w_es0, w_es1, w_o0, w_o1, w_tval, w_tcmp, w_tcmp2, w_tnot, w_tall, w_tany, w_all0, w_all1, w_all2, w_any0, w_any1, w_any2, it_t, it_l, w_seq, w_rng1, w_rng2, w_gn, w_gt, w_gi, w_gs0, w_gs1, s_asg, s_asgC, s_par, s_aug, s_expr, s_if, s_for, s_while, s_ret, s_retN, s_brk, s_cont, s_pass, s_nil, frz_l, frz_m, bin_add, bin_adds, bin_sub, bin_mul, bin_fdiv, bin_mod, bin_pow, bin_xor, cmp_lt, cmp_le, cmp_gt, cmp_ge, cmp_eqi, cmp_eqs, cmp_eqb, cmp_nei, cmp_nes, cmp_neb, cmp_is0, cmp_is1, cmp_is2, cmp_is3, cmp_is4, cmp_is5, cmp_is6, cmp_isn0, cmp_isn1, cmp_isn2, cmp_isn3, cmp_isn4, cmp_isn5, cmp_in, cmp_notin, bi_lens, bi_lent, bi_lenl, bi_min, bi_max, bi_abs, bi_listT, bi_listL, bi_tupT, bi_tupL, bi_maxL, bi_minL, bi_sumL, bi_anyL, bi_allL, bi_sorted, seqL_l, items_l, items_t, items_m, w_gl, new_f, new_t, ix_t, ix_l, tru_b, tru_n, tru_i, tru_l, tru_t, isi_b, isi_bi, isi_ii, isi_ib, isi_is, isi_it, isi_il, isi_sb, isi_si, isi_ss, isi_tb, isi_ti, isi_ts, isi_tt, isi_tl, isi_lb, isi_li, isi_ls, isi_lt, isi_ll, isi_nb, isi_ni, isi_ns, isi_nt, isi_nl, ix_m, tru_m, bi_lenm, seqL_m, mt_appm, mt_popm, mtOk_appm, mtOk_popm, it_m, ixSt_m]
        unfold b_led_3
        rw [wpSs_cons]
        simp only [Int.reduceNeg, Int.reduceAdd, Int.reduceSub, Int.reduceMul, cpow_10, cpow_2, Int.reduceLE, Int.reduceLT, Int.reduceToNat, Int.reducePow, mset_same, mset_mset, Tgs.len, List.getElem?_cons_zero, List.getElem?_cons_succ, List.set_cons_zero, List.set_cons_succ, List.getElem?_nil, Option.some.injEq, exists_eq_left', exists_eq_left, true_and, and_true, if_true, if_false, Bool.false_eq_true, reduceCtorEq, Dt.int.injEq, Dt.bl.injEq, Dt.str.injEq, Dt.lst.injEq, Dt.tup.injEq, Dt.ref.injEq, decide_eq_true_eq, List.length_cons, List.length_nil, Nat.zero_add, Nat.reduceAdd, Option.map_some, Bool.not_true, Bool.not_false, atI_0, atI_1, atI_2, atI_3, atI_4, ixN_0, ixN_1, ixN_2, ixN_3, ixN_4, w_var, w_int, w_str, w_bl, w_non, w_glob, w_bin, w_neg, w_cmp, w_cmp2, w_bop, w_b1, w_b2, w_not, w_ite, w_tup, w_lst, w_ix, w_sl, w_call, w_bi, w_mt, w_isi, w_lc, w_frz, w_es0, w_es1, w_o0, w_o1, w_tval, w_tcmp, w_tcmp2, w_tnot, w_tall, w_tany, w_all0, w_all1, w_all2, w_any0, w_any1, w_any2, it_t, it_l, w_seq, w_rng1, w_rng2, w_gn, w_gt, w_gi, w_gs0, w_gs1, s_asg, s_asgC, s_par, s_aug, s_expr, s_if, s_for, s_while, s_ret, s_retN, s_brk, s_cont, s_pass, s_nil, frz_l, frz_m, bin_add, bin_adds, bin_sub, bin_mul, bin_fdiv, bin_mod, bin_pow, bin_xor, cmp_lt, cmp_le, cmp_gt, cmp_ge, cmp_eqi, cmp_eqs, cmp_eqb, cmp_nei, cmp_nes, cmp_neb, cmp_is0, cmp_is1, cmp_is2, cmp_is3, cmp_is4, cmp_is5, cmp_is6, cmp_isn0, cmp_isn1, cmp_isn2, cmp_isn3, cmp_isn4, cmp_isn5, cmp_in, cmp_notin, bi_lens, bi_lent, bi_lenl, bi_min, bi_max, bi_abs, bi_listT, bi_listL, bi_tupT, bi_tupL, bi_maxL, bi_minL, bi_sumL, bi_anyL, bi_allL, bi_sorted, seqL_l, items_l, items_t, items_m, w_gl, new_f, new_t, ix_t, ix_l, tru_b, tru_n, tru_i, tru_l, tru_t, isi_b, isi_bi, isi_ii, isi_ib, isi_is, isi_it, isi_il, isi_sb, isi_si, isi_ss, isi_tb, isi_ti, isi_ts, isi_tt, isi_tl, isi_lb, isi_li, isi_ls, isi_lt, isi_ll, isi_nb, isi_ni, isi_ns, isi_nt, isi_nl, ix_m, tru_m, bi_lenm, seqL_m, mt_appm, mt_popm, mtOk_appm, mtOk_popm, it_m, ixSt_m]
        rw [if_pos ⟨h1, h2⟩] at h'
        by_cases ht : t = 1
        · rw [if_pos ht] at h' ⊢
          unfold b_led_4
          rw [wpSs_cons]
          simp only [Int.reduceNeg, Int.reduceAdd, Int.reduceSub, Int.reduceMul, cpow_10, cpow_2, Int.reduceLE, Int.reduceLT, Int.reduceToNat, Int.reducePow, mset_same, mset_mset, Tgs.len, List.getElem?_cons_zero, List.getElem?_cons_succ, List.set_cons_zero, List.set_cons_succ, List.getElem?_nil, Option.some.injEq, exists_eq_left', exists_eq_left, true_and, and_true, if_true, if_false, Bool.false_eq_true, reduceCtorEq, Dt.int.injEq, Dt.bl.injEq, Dt.str.injEq, Dt.lst.injEq, Dt.tup.injEq, Dt.ref.injEq, decide_eq_true_eq, List.length_cons, List.length_nil, Nat.zero_add, Nat.reduceAdd, Option.map_some, Bool.not_true, Bool.not_false, atI_0, atI_1, atI_2, atI_3, atI_4, ixN_0, ixN_1, ixN_2, ixN_3, ixN_4, w_var, w_int, w_str, w_bl, w_non, w_glob, w_bin, w_neg, w_cmp, w_cmp2, w_bop, w_b1, w_b2, w_not, w_ite, w_tup, w_lst, w_ix, w_sl, w_call, w_bi, w_mt, w_isi, w_lc, w_frz, w_es0, w_es1, w_o0, w_o1, w_tval, w_tcmp, w_tcmp2, w_tnot, w_tall, w_tany, w_all0, w_all1, w_all2, w_any0, w_any1, w_any2, it_t, it_l, w_seq, w_rng1, w_rng2, w_gn, w_gt, w_gi, w_gs0, w_gs1, s_asg, s_asgC, s_par, s_aug, s_expr, s_if, s_for, s_while, s_ret, s_retN, s_brk, s_cont, s_pass, s_nil, frz_l, frz_m, bin_add, bin_adds, bin_sub, bin_mul, bin_fdiv, bin_mod, bin_pow, bin_xor, cmp_lt, cmp_le, cmp_gt, cmp_ge, cmp_eqi, cmp_eqs, cmp_eqb, cmp_nei, cmp_nes, cmp_neb, cmp_is0, cmp_is1, cmp_is2, cmp_is3, cmp_is4, cmp_is5, cmp_is6, cmp_isn0, cmp_isn1, cmp_isn2, cmp_isn3, cmp_isn4, cmp_isn5, cmp_in, cmp_notin, bi_lens, bi_lent, bi_lenl, bi_min, bi_max, bi_abs, bi_listT, bi_listL, bi_tupT, bi_tupL, bi_maxL, bi_minL, bi_sumL, bi_anyL, bi_allL, bi_sorted, seqL_l, items_l, items_t, items_m, w_gl, new_f, new_t, ix_t, ix_l, tru_b, tru_n, tru_i, tru_l, tru_t, isi_b, isi_bi, isi_ii, isi_ib, isi_is, isi_it, isi_il, isi_sb, isi_si, isi_ss, isi_tb, isi_ti, isi_ts, isi_tt, isi_tl, isi_lb, isi_li, isi_ls, isi_lt, isi_ll, isi_nb, isi_ni, isi_ns, isi_nt, isi_nl, ix_m, tru_m, bi_lenm, seqL_m, mt_appm, mt_popm, mtOk_appm, mtOk_popm, it_m, ixSt_m, hrt]
          exact h'
        · rw [if_neg ht] at h' ⊢
          unfold b_led_5
          rw [wpSs_cons]
          simp only [Int.reduceNeg, Int.reduceAdd, Int.reduceSub, Int.reduceMul, cpow_10, cpow_2, Int.reduceLE, Int.reduceLT, Int.reduceToNat, Int.reducePow, mset_same, mset_mset, Tgs.len, List.getElem?_cons_zero, List.getElem?_cons_succ, List.set_cons_zero, List.set_cons_succ, List.getElem?_nil, Option.some.injEq, exists_eq_left', exists_eq_left, true_and, and_true, if_true, if_false, Bool.false_eq_true, reduceCtorEq, Dt.int.injEq, Dt.bl.injEq, Dt.str.injEq, Dt.lst.injEq, Dt.tup.injEq, Dt.ref.injEq, decide_eq_true_eq, List.length_cons, List.length_nil, Nat.zero_add, Nat.reduceAdd, Option.map_some, Bool.not_true, Bool.not_false, atI_0, atI_1, atI_2, atI_3, atI_4, ixN_0, ixN_1, ixN_2, ixN_3, ixN_4, w_var, w_int, w_str, w_bl, w_non, w_glob, w_bin, w_neg, w_cmp, w_cmp2, w_bop, w_b1, w_b2, w_not, w_ite, w_tup, w_lst, w_ix, w_sl, w_call, w_bi, w_mt, w_isi, w_lc, w_frz, w_es0, w_es1, w_o0, w_o1, w_tval, w_tcmp, w_tcmp2, w_tnot, w_tall, w_tany, w_all0, w_all1, w_all2, w_any0, w_any1, w_any2, it_t, it_l, w_seq, w_rng1, w_rng2, w_gn, w_gt, w_gi, w_gs0, w_gs1, s_asg, s_asgC, s_par, s_aug, s_expr, s_if, s_for, s_while, s_ret, s_retN, s_brk, s_cont, s_pass, s_nil, frz_l, frz_m, bin_add, bin_adds, bin_sub, bin_mul, bin_fdiv, bin_mod, bin_pow, bin_xor, cmp_lt, cmp_le, cmp_gt, cmp_ge, cmp_eqi, cmp_eqs, cmp_eqb, cmp_nei, cmp_nes, cmp_neb, cmp_is0, cmp_is1, cmp_is2, cmp_is3, cmp_is4, cmp_is5, cmp_is6, cmp_isn0, cmp_isn1, cmp_isn2, cmp_isn3, cmp_isn4, cmp_isn5, cmp_in, cmp_notin, bi_lens, bi_lent, bi_lenl, bi_min, bi_max, bi_abs, bi_listT, bi_listL, bi_tupT, bi_tupL, bi_maxL, bi_minL, bi_sumL, bi_anyL, bi_allL, bi_sorted, seqL_l, items_l, items_t, items_m, w_gl, new_f, new_t, ix_t, ix_l, tru_b, tru_n, tru_i, tru_l, tru_t, isi_b, isi_bi, isi_ii, isi_ib, isi_is, isi_it, isi_il, isi_sb, isi_si, isi_ss, isi_tb, isi_ti, isi_ts, isi_tt, isi_tl, isi_lb, isi_li, isi_ls, isi_lt, isi_ll, isi_nb, isi_ni, isi_ns, isi_nt, isi_nl, ix_m, tru_m, bi_lenm, seqL_m, mt_appm, mt_popm, mtOk_appm, mtOk_popm, it_m, ixSt_m, hrt]
          exact h'
      · simp only [h1, h2, Int.reduceNeg, Int.reduceAdd, Int.reduceSub, Int.reduceMul, cpow_10, cpow_2, Int.reduceLE, Int.reduceLT, Int.reduceToNat, Int.reducePow, mset_same, mset_mset, Tgs.len, List.getElem?_cons_zero, List.getElem?_cons_succ, List.set_cons_zero, List.set_cons_succ, List.getElem?_nil, Option.some.injEq, exists_eq_left', exists_eq_left, true_and, and_true, if_true, if_false, Bool.false_eq_true, reduceCtorEq, Dt.int.injEq, Dt.bl.injEq, Dt.str.injEq, Dt.lst.injEq, Dt.tup.injEq, Dt.ref.injEq, decide_eq_true_eq, List.length_cons, List.length_nil, Nat.zero_add, Nat.reduceAdd, Option.map_some, Bool.not_true, Bool.not_false, atI_0, atI_1, atI_2, atI_3, atI_4, ixN_0, ixN_1, ixN_2, ixN_3, ixN_4, w_var, w_int, w_str, w_bl, w_non, w_glob, w_bin, w_neg, w_cmp, w_cmp2, w_bop, w_b1, w_b2, w_not, w_ite, w_tup, w_lst, w_ix, w_sl, w_call, w_bi, w_mt, w_isi, w_lc, w_frz, w_es0, w_es1, w_o0, w_o1, w_tval, w_tcmp, w_tcmp2, w_tnot, w_tall, w_tany, w_all0, w_all1, w_all2, w_any0, w_any1, w_any2, it_t, it_l, w_seq, w_rng1, w_rng2, w_gn, w_gt, w_gi, w_gs0, w_gs1, s_asg, s_asgC, s_par, s_aug, s_expr, s_if, s_for, s_while, s_ret, s_retN, s_brk, s_cont, s_pass, s_nil, frz_l, frz_m, bin_add, bin_adds, bin_sub, bin_mul, bin_fdiv, bin_mod, bin_pow, bin_xor, cmp_lt, cmp_le, cmp_gt, cmp_ge, cmp_eqi, cmp_eqs, cmp_eqb, cmp_nei, cmp_nes, cmp_neb, cmp_is0, cmp_is1, cmp_is2, cmp_is3, cmp_is4, cmp_is5, cmp_is6, cmp_isn0, cmp_isn1, cmp_isn2, cmp_isn3, cmp_isn4, cmp_isn5, cmp_in, cmp_notin, bi_lens, bi_lent, bi_lenl, bi_min, bi_max, bi_abs, bi_listT, bi_listL, bi_tupT, bi_tupL, bi_maxL, bi_minL, bi_sumL, bi_anyL, bi_allL, bi_sorted, seqL_l, items_l, items_t, items_m, w_gl, new_f, new_t, ix_t, ix_l, tru_b, tru_n, tru_i, tru_l, tru_t, isi_b, isi_bi, isi_ii, isi_ib, isi_is, isi_it, isi_il, isi_sb, isi_si, isi_ss, isi_tb, isi_ti, isi_ts, isi_tt, isi_tl, isi_lb, isi_li, isi_ls, isi_lt, isi_ll, isi_nb, isi_ni, isi_ns, isi_nt, isi_nl, ix_m, tru_m, bi_lenm, seqL_m, mt_appm, mt_popm, mtOk_appm, mtOk_popm, it_m, ixSt_m]
        exact no (by omega)
    · simp only [h1, Int.reduceNeg, Int.reduceAdd, Int.reduceSub, Int.reduceMul, cpow_10, cpow_2, Int.reduceLE, Int.reduceLT, Int.reduceToNat, Int.reducePow, mset_same, mset_mset, Tgs.len, List.getElem?_cons_zero, List.getElem?_cons_succ, List.set_cons_zero, List.set_cons_succ, List.getElem?_nil, Option.some.injEq, exists_eq_left', exists_eq_left, true_and, and_true, if_true, if_false, Bool.false_eq_true, reduceCtorEq, Dt.int.injEq, Dt.bl.injEq, Dt.str.injEq, Dt.lst.injEq, Dt.tup.injEq, Dt.ref.injEq, decide_eq_true_eq, List.length_cons, List.length_nil, Nat.zero_add, Nat.reduceAdd, Option.map_some, Bool.not_true, Bool.not_false, atI_0, atI_1, atI_2, atI_3, atI_4, ixN_0, ixN_1, ixN_2, ixN_3, ixN_4, w_var, w_int, w_str, w_bl, w_non, w_glob, w_bin, w_neg, w_cmp, w_cmp2, w_bop, w_b1, w_b2, w_not, w_ite, w_tup, w_lst, w_ix, w_sl, w_call, w_bi, w_mt, w_isi, w_lc, w_frz, w_es0, w_es1, w_o0, w_o1, w_tval, w_tcmp, w_tcmp2, w_tnot, w_tall, w_tany, w_all0, w_all1, w_all2, w_any0, w_any1, w_any2, it_t, it_l, w_seq, w_rng1, w_rng2, w_gn, w_gt, w_gi, w_gs0, w_gs1, s_asg, s_asgC, s_par, s_aug, s_expr, s_if, s_for, s_while, s_ret, s_retN, s_brk, s_cont, s_pass, s_nil, frz_l, frz_m, bin_add, bin_adds, bin_sub, bin_mul, bin_fdiv, bin_mod, bin_pow, bin_xor, cmp_lt, cmp_le, cmp_gt, cmp_ge, cmp_eqi, cmp_eqs, cmp_eqb, cmp_nei, cmp_nes, cmp_neb, cmp_is0, cmp_is1, cmp_is2, cmp_is3, cmp_is4, cmp_is5, cmp_is6, cmp_isn0, cmp_isn1, cmp_isn2, cmp_isn3, cmp_isn4, cmp_isn5, cmp_in, cmp_notin, bi_lens, bi_lent, bi_lenl, bi_min, bi_max, bi_abs, bi_listT, bi_listL, bi_tupT, bi_tupL, bi_maxL, bi_minL, bi_sumL, bi_anyL, bi_allL, bi_sorted, seqL_l, items_l, items_t, items_m, w_gl, new_f, new_t, ix_t, ix_l, tru_b, tru_n, tru_i, tru_l, tru_t, isi_b, isi_bi, isi_ii, isi_ib, isi_is, isi_it, isi_il, isi_sb, isi_si, isi_ss, isi_tb, isi_ti, isi_ts, isi_tt, isi_tl, isi_lb, isi_li, isi_ls, isi_lt, isi_ll, isi_nb, isi_ni, isi_ns, isi_nt, isi_nl, ix_m, tru_m, bi_lenm, seqL_m, mt_appm, mt_popm, mtOk_appm, mtOk_popm, it_m, ixSt_m]
      exact no (by omega)
  | _ => exact False.elim h

/-! the laws' helpers -/
def MatingOk (W : Wf) : Prop := ∀ (p : Addr) (L : Int) (d : Drw) M q x, M p = some d.o → d.Ok → 0 < L → L < 2 ^ 199 → (∀ a b m t (d' : Drw), d'.Ok → 0 ≤ a → 0 ≤ b → 1 ≤ m → a + m ≤ L → b + m ≤ L → (t = 0 ∨ t = 1) → q (mtg a b m t) (mset M p (some d'.o))) → W.run [.ref p, .int L] M q x
def matMid (p : Addr) (L : Int) (M : Mm) : Rho → Mm → Prop := fun ρ' M' => ∃ (d' : Drw) (m : Int), d'.Ok ∧ 1 ≤ m ∧ m ≤ L ∧ ρ' = [some (.ref p), some (.int L), some (.int m), none] ∧ M' = mset M p (some d'.o)
theorem mating_ok (G : Gt) (hpu : PullOk (G.call 51)) : MatingOk (wfB G n__law_mating 2 b__law_mating) := by
  intro p L d M q x hM hd h0 h1 h
  have h1' : L < 2 ^ 200 := by omega
  refine ⟨rfl, ?_⟩
  have e0 : startR n__law_mating [.ref p, .int L] = [some (.ref p), some (.int L), none, none] := rfl
  rw [e0]
  generalize hk : bodyK q x = k
  have hrt : ∀ d, k.rt d = q d := by intro d; rw [← hk]; rfl
  unfold b__law_mating b__law_mating_0
  rw [wpSs_cons]
  simp only [Int.reduceNeg, Int.reduceAdd, Int.reduceSub, Int.reduceMul, cpow_10, cpow_2, Int.reduceLE, Int.reduceLT, Int.reduceToNat, Int.reducePow, mset_same, mset_mset, Tgs.len, List.getElem?_cons_zero, List.getElem?_cons_succ, List.set_cons_zero, List.set_cons_succ, List.getElem?_nil, Option.some.injEq, exists_eq_left', exists_eq_left, true_and, and_true, if_true, if_false, Bool.false_eq_true, reduceCtorEq, Dt.int.injEq, Dt.bl.injEq, Dt.str.injEq, Dt.lst.injEq, Dt.tup.injEq, Dt.ref.injEq, decide_eq_true_eq, List.length_cons, List.length_nil, Nat.zero_add, Nat.reduceAdd, Option.map_some, Bool.not_true, Bool.not_false, atI_0, atI_1, atI_2, atI_3, atI_4, ixN_0, ixN_1, ixN_2, ixN_3, ixN_4, w_var, w_int, w_str, w_bl, w_non, w_glob, w_bin, w_neg, w_cmp, w_cmp2, w_bop, w_b1, w_b2, w_not, w_ite, w_tup, w_lst, w_ix, w_sl, w_call, w_bi, w_mt, w_isi, w_lc, w_frz, w_es0, w_es1, w_o0, w_o1, w_tval, w_tcmp, w_tcmp2, w_tnot, w_tall, w_tany, w_all0, w_all1, w_all2, w_any0, w_any1, w_any2, it_t, it_l, w_seq, w_rng1, w_rng2, w_gn, w_gt, w_gi, w_gs0, w_gs1, s_asg, s_asgC, s_par, s_aug, s_expr, s_if, s_for, s_while, s_ret, s_retN, s_brk, s_cont, s_pass, s_nil, frz_l, frz_m, bin_add, bin_adds, bin_sub, bin_mul, bin_fdiv, bin_mod, bin_pow, bin_xor, cmp_lt, cmp_le, cmp_gt, cmp_ge, cmp_eqi, cmp_eqs, cmp_eqb, cmp_nei, cmp_nes, cmp_neb, cmp_is0, cmp_is1, cmp_is2, cmp_is3, cmp_is4, cmp_is5, cmp_is6, cmp_isn0, cmp_isn1, cmp_isn2, cmp_isn3, cmp_isn4, cmp_isn5, cmp_in, cmp_notin, bi_lens, bi_lent, bi_lenl, bi_min, bi_max, bi_abs, bi_listT, bi_listL, bi_tupT, bi_tupL, bi_maxL, bi_minL, bi_sumL, bi_anyL, bi_allL, bi_sorted, seqL_l, items_l, items_t, items_m, w_gl, new_f, new_t, ix_t, ix_l, tru_b, tru_n, tru_i, tru_l, tru_t, isi_b, isi_bi, isi_ii, isi_ib, isi_is, isi_it, isi_il, isi_sb, isi_si, isi_ss, isi_tb, isi_ti, isi_ts, isi_tt, isi_tl, isi_lb, isi_li, isi_ls, isi_lt, isi_ll, isi_nb, isi_ni, isi_ns, isi_nt, isi_nl, ix_m, tru_m, bi_lenm, seqL_m, mt_appm, mt_popm, mtOk_appm, mtOk_popm, it_m, ixSt_m]
  refine hpu p L d _ _ _ hM hd h0 h1' fun r d hd r0 r1 => ?_
  simp only [Int.reduceNeg, Int.reduceAdd, Int.reduceSub, Int.reduceMul, cpow_10, cpow_2, Int.reduceLE, Int.reduceLT, Int.reduceToNat, Int.reducePow, mset_same, mset_mset, Tgs.len, List.getElem?_cons_zero, List.getElem?_cons_succ, List.set_cons_zero, List.set_cons_succ, List.getElem?_nil, Option.some.injEq, exists_eq_left', exists_eq_left, true_and, and_true, if_true, if_false, Bool.false_eq_true, reduceCtorEq, Dt.int.injEq, Dt.bl.injEq, Dt.str.injEq, Dt.lst.injEq, Dt.tup.injEq, Dt.ref.injEq, decide_eq_true_eq, List.length_cons, List.length_nil, Nat.zero_add, Nat.reduceAdd, Option.map_some, Bool.not_true, Bool.not_false, atI_0, atI_1, atI_2, atI_3, atI_4, ixN_0, ixN_1, ixN_2, ixN_3, ixN_4, w_var, w_int, w_str, w_bl, w_non, w_glob, w_bin, w_neg, w_cmp, w_cmp2, w_bop, w_b1, w_b2, w_not, w_ite, w_tup, w_lst, w_ix, w_sl, w_call, w_bi, w_mt, w_isi, w_lc, w_frz, w_es0, w_es1, w_o0, w_o1, w_tval, w_tcmp, w_tcmp2, w_tnot, w_tall, w_tany, w_all0, w_all1, w_all2, w_any0, w_any1, w_any2, it_t, it_l, w_seq, w_rng1, w_rng2, w_gn, w_gt, w_gi, w_gs0, w_gs1, s_asg, s_asgC, s_par, s_aug, s_expr, s_if, s_for, s_while, s_ret, s_retN, s_brk, s_cont, s_pass, s_nil, frz_l, frz_m, bin_add, bin_adds, bin_sub, bin_mul, bin_fdiv, bin_mod, bin_pow, bin_xor, cmp_lt, cmp_le, cmp_gt, cmp_ge, cmp_eqi, cmp_eqs, cmp_eqb, cmp_nei, cmp_nes, cmp_neb, cmp_is0, cmp_is1, cmp_is2, cmp_is3, cmp_is4, cmp_is5, cmp_is6, cmp_isn0, cmp_isn1, cmp_isn2, cmp_isn3, cmp_isn4, cmp_isn5, cmp_in, cmp_notin, bi_lens, bi_lent, bi_lenl, bi_min, bi_max, bi_abs, bi_listT, bi_listL, bi_tupT, bi_tupL, bi_maxL, bi_minL, bi_sumL, bi_anyL, bi_allL, bi_sorted, seqL_l, items_l, items_t, items_m, w_gl, new_f, new_t, ix_t, ix_l, tru_b, tru_n, tru_i, tru_l, tru_t, isi_b, isi_bi, isi_ii, isi_ib, isi_is, isi_it, isi_il, isi_sb, isi_si, isi_ss, isi_tb, isi_ti, isi_ts, isi_tt, isi_tl, isi_lb, isi_li, isi_ls, isi_lt, isi_ll, isi_nb, isi_ni, isi_ns, isi_nt, isi_nl, ix_m, tru_m, bi_lenm, seqL_m, mt_appm, mt_popm, mtOk_appm, mtOk_popm, it_m, ixSt_m]
  unfold b__law_mating_1
  refine @wp_seq G _ _ k _ _ (matMid p L M) ?_ ?_
  · simp only [Int.reduceNeg, Int.reduceAdd, Int.reduceSub, Int.reduceMul, cpow_10, cpow_2, Int.reduceLE, Int.reduceLT, Int.reduceToNat, Int.reducePow, mset_same, mset_mset, Tgs.len, List.getElem?_cons_zero, List.getElem?_cons_succ, List.set_cons_zero, List.set_cons_succ, List.getElem?_nil, Option.some.injEq, exists_eq_left', exists_eq_left, true_and, and_true, if_true, if_false, Bool.false_eq_true, reduceCtorEq, Dt.int.injEq, Dt.bl.injEq, Dt.str.injEq, Dt.lst.injEq, Dt.tup.injEq, Dt.ref.injEq, decide_eq_true_eq, List.length_cons, List.length_nil, Nat.zero_add, Nat.reduceAdd, Option.map_some, Bool.not_true, Bool.not_false, atI_0, atI_1, atI_2, atI_3, atI_4, ixN_0, ixN_1, ixN_2, ixN_3, ixN_4, w_var, w_int, w_str, w_bl, w_non, w_glob, w_bin, w_neg, w_cmp, w_cmp2, w_bop, w_b1, w_b2, w_not, w_ite, w_tup, w_lst, w_ix, w_sl, w_call, w_bi, w_mt, w_isi, w_lc, w_frz, w_es0, w_es1, w_o0, w_o1, w_tval, w_tcmp, w_tcmp2, w_tnot, w_tall, w_tany, w_all0, w_all1, w_all2, w_any0, w_any1, w_any2, it_t, it_l, w_seq, w_rng1, w_rng2, w_gn, w_gt, w_gi, w_gs0, w_gs1, s_asg, s_asgC, s_par, s_aug, s_expr, s_if, s_for, s_while, s_ret, s_retN, s_brk, s_cont, s_pass, s_nil, frz_l, frz_m, bin_add, bin_adds, bin_sub, bin_mul, bin_fdiv, bin_mod, bin_pow, bin_xor, cmp_lt, cmp_le, cmp_gt, cmp_ge, cmp_eqi, cmp_eqs, cmp_eqb, cmp_nei, cmp_nes, cmp_neb, cmp_is0, cmp_is1, cmp_is2, cmp_is3, cmp_is4, cmp_is5, cmp_is6, cmp_isn0, cmp_isn1, cmp_isn2, cmp_isn3, cmp_isn4, cmp_isn5, cmp_in, cmp_notin, bi_lens, bi_lent, bi_lenl, bi_min, bi_max, bi_abs, bi_listT, bi_listL, bi_tupT, bi_tupL, bi_maxL, bi_minL, bi_sumL, bi_anyL, bi_allL, bi_sorted, seqL_l, items_l, items_t, items_m, w_gl, new_f, new_t, ix_t, ix_l, tru_b, tru_n, tru_i, tru_l, tru_t, isi_b, isi_bi, isi_ii, isi_ib, isi_is, isi_it, isi_il, isi_sb, isi_si, isi_ss, isi_tb, isi_ti, isi_ts, isi_tt, isi_tl, isi_lb, isi_li, isi_ls, isi_lt, isi_ll, isi_nb, isi_ni, isi_ns, isi_nt, isi_nl, ix_m, tru_m, bi_lenm, seqL_m, mt_appm, mt_popm, mtOk_appm, mtOk_popm, it_m, ixSt_m]
    refine hpu.go hd (by decide) (by decide) fun r2 d hd r20 r21 => ?_
    simp only [Int.reduceNeg, Int.reduceAdd, Int.reduceSub, Int.reduceMul, cpow_10, cpow_2, Int.reduceLE, Int.reduceLT, Int.reduceToNat, Int.reducePow, mset_same, mset_mset, Tgs.len, List.getElem?_cons_zero, List.getElem?_cons_succ, List.set_cons_zero, List.set_cons_succ, List.getElem?_nil, Option.some.injEq, exists_eq_left', exists_eq_left, true_and, and_true, if_true, if_false, Bool.false_eq_true, reduceCtorEq, Dt.int.injEq, Dt.bl.injEq, Dt.str.injEq, Dt.lst.injEq, Dt.tup.injEq, Dt.ref.injEq, decide_eq_true_eq, List.length_cons, List.length_nil, Nat.zero_add, Nat.reduceAdd, Option.map_some, Bool.not_true, Bool.not_false, atI_0, atI_1, atI_2, atI_3, atI_4, ixN_0, ixN_1, ixN_2, ixN_3, ixN_4, w_var, w_int, w_str, w_bl, w_non, w_glob, w_bin, w_neg, w_cmp, w_cmp2, w_bop, w_b1, w_b2, w_not, w_ite, w_tup, w_lst, w_ix, w_sl, w_call, w_bi, w_mt, w_isi, w_lc, w_frz, w_es0, w_es1, w_o0, w_o1, w_tval, w_tcmp, w_tcmp2, w_tnot, w_tall, w_tany, w_all0, w_all1, w_all2, w_any0, w_any1, w_any2, it_t, it_l, w_seq, w_rng1, w_rng2, w_gn, w_gt, w_gi, w_gs0, w_gs1, s_asg, s_asgC, s_par, s_aug, s_expr, s_if, s_for, s_while, s_ret, s_retN, s_brk, s_cont, s_pass, s_nil, frz_l, frz_m, bin_add, bin_adds, bin_sub, bin_mul, bin_fdiv, bin_mod, bin_pow, bin_xor, cmp_lt, cmp_le, cmp_gt, cmp_ge, cmp_eqi, cmp_eqs, cmp_eqb, cmp_nei, cmp_nes, cmp_neb, cmp_is0, cmp_is1, cmp_is2, cmp_is3, cmp_is4, cmp_is5, cmp_is6, cmp_isn0, cmp_isn1, cmp_isn2, cmp_isn3, cmp_isn4, cmp_isn5, cmp_in, cmp_notin, bi_lens, bi_lent, bi_lenl, bi_min, bi_max, bi_abs, bi_listT, bi_listL, bi_tupT, bi_tupL, bi_maxL, bi_minL, bi_sumL, bi_anyL, bi_allL, bi_sorted, seqL_l, items_l, items_t, items_m, w_gl, new_f, new_t, ix_t, ix_l, tru_b, tru_n, tru_i, tru_l, tru_t, isi_b, isi_bi, isi_ii, isi_ib, isi_is, isi_it, isi_il, isi_sb, isi_si, isi_ss, isi_tb, isi_ti, isi_ts, isi_tt, isi_tl, isi_lb, isi_li, isi_ls, isi_lt, isi_ll, isi_nb, isi_ni, isi_ns, isi_nt, isi_nl, ix_m, tru_m, bi_lenm, seqL_m, mt_appm, mt_popm, mtOk_appm, mtOk_popm, it_m, ixSt_m]
    split
    · unfold b__law_mating_2
      rw [wpSs_cons]
      simp only [Int.reduceNeg, Int.reduceAdd, Int.reduceSub, Int.reduceMul, cpow_10, cpow_2, Int.reduceLE, Int.reduceLT, Int.reduceToNat, Int.reducePow, mset_same, mset_mset, Tgs.len, List.getElem?_cons_zero, List.getElem?_cons_succ, List.set_cons_zero, List.set_cons_succ, List.getElem?_nil, Option.some.injEq, exists_eq_left', exists_eq_left, true_and, and_true, if_true, if_false, Bool.false_eq_true, reduceCtorEq, Dt.int.injEq, Dt.bl.injEq, Dt.str.injEq, Dt.lst.injEq, Dt.tup.injEq, Dt.ref.injEq, decide_eq_true_eq, List.length_cons, List.length_nil, Nat.zero_add, Nat.reduceAdd, Option.map_some, Bool.not_true, Bool.not_false, atI_0, atI_1, atI_2, atI_3, atI_4, ixN_0, ixN_1, ixN_2, ixN_3, ixN_4, w_var, w_int, w_str, w_bl, w_non, w_glob, w_bin, w_neg, w_cmp, w_cmp2, w_bop, w_b1, w_b2, w_not, w_ite, w_tup, w_lst, w_ix, w_sl, w_call, w_bi, w_mt, w_isi, w_lc, w_frz, w_es0, w_es1, w_o0, w_o1, w_tval, w_tcmp, w_tcmp2, w_tnot, w_tall, w_tany, w_all0, w_all1, w_all2, w_any0, w_any1, w_any2, it_t, it_l, w_seq, w_rng1, w_rng2, w_gn, w_gt, w_gi, w_gs0, w_gs1, s_asg, s_asgC, s_par, s_aug, s_expr, s_if, s_for, s_while, s_ret, s_retN, s_brk, s_cont, s_pass, s_nil, frz_l, frz_m, bin_add, bin_adds, bin_sub, bin_mul, bin_fdiv, bin_mod, bin_pow, bin_xor, cmp_lt, cmp_le, cmp_gt, cmp_ge, cmp_eqi, cmp_eqs, cmp_eqb, cmp_nei, cmp_nes, cmp_neb, cmp_is0, cmp_is1, cmp_is2, cmp_is3, cmp_is4, cmp_is5, cmp_is6, cmp_isn0, cmp_isn1, cmp_isn2, cmp_isn3, cmp_isn4, cmp_isn5, cmp_in, cmp_notin, bi_lens, bi_lent, bi_lenl, bi_min, bi_max, bi_abs, bi_listT, bi_listL, bi_tupT, bi_tupL, bi_maxL, bi_minL, bi_sumL, bi_anyL, bi_allL, bi_sorted, seqL_l, items_l, items_t, items_m, w_gl, new_f, new_t, ix_t, ix_l, tru_b, tru_n, tru_i, tru_l, tru_t, isi_b, isi_bi, isi_ii, isi_ib, isi_is, isi_it, isi_il, isi_sb, isi_si, isi_ss, isi_tb, isi_ti, isi_ts, isi_tt, isi_tl, isi_lb, isi_li, isi_ls, isi_lt, isi_ll, isi_nb, isi_ni, isi_ns, isi_nt, isi_nl, ix_m, tru_m, bi_lenm, seqL_m, mt_appm, mt_popm, mtOk_appm, mtOk_popm, it_m, ixSt_m]
      refine hpu.go hd (by omega) (by omega) fun r3 d hd r30 r31 => ?_
      simp only [Int.reduceNeg, Int.reduceAdd, Int.reduceSub, Int.reduceMul, cpow_10, cpow_2, Int.reduceLE, Int.reduceLT, Int.reduceToNat, Int.reducePow, mset_same, mset_mset, Tgs.len, List.getElem?_cons_zero, List.getElem?_cons_succ, List.set_cons_zero, List.set_cons_succ, List.getElem?_nil, Option.some.injEq, exists_eq_left', exists_eq_left, true_and, and_true, if_true, if_false, Bool.false_eq_true, reduceCtorEq, Dt.int.injEq, Dt.bl.injEq, Dt.str.injEq, Dt.lst.injEq, Dt.tup.injEq, Dt.ref.injEq, decide_eq_true_eq, List.length_cons, List.length_nil, Nat.zero_add, Nat.reduceAdd, Option.map_some, Bool.not_true, Bool.not_false, atI_0, atI_1, atI_2, atI_3, atI_4, ixN_0, ixN_1, ixN_2, ixN_3, ixN_4, w_var, w_int, w_str, w_bl, w_non, w_glob, w_bin, w_neg, w_cmp, w_cmp2, w_bop, w_b1, w_b2, w_not, w_ite, w_tup, w_lst, w_ix, w_sl, w_call, w_bi, w_mt, w_isi, w_lc, w_frz, w_es0, w_es1, w_o0, w_o1, w_tval, w_tcmp, w_tcmp2, w_tnot, w_tall, w_tany, w_all0, w_all1, w_all2, w_any0, w_any1, w_any2, it_t, it_l, w_seq, w_rng1, w_rng2, w_gn, w_gt, w_gi, w_gs0, w_gs1, s_asg, s_asgC, s_par, s_aug, s_expr, s_if, s_for, s_while, s_ret, s_retN, s_brk, s_cont, s_pass, s_nil, frz_l, frz_m, bin_add, bin_adds, bin_sub, bin_mul, bin_fdiv, bin_mod, bin_pow, bin_xor, cmp_lt, cmp_le, cmp_gt, cmp_ge, cmp_eqi, cmp_eqs, cmp_eqb, cmp_nei, cmp_nes, cmp_neb, cmp_is0, cmp_is1, cmp_is2, cmp_is3, cmp_is4, cmp_is5, cmp_is6, cmp_isn0, cmp_isn1, cmp_isn2, cmp_isn3, cmp_isn4, cmp_isn5, cmp_in, cmp_notin, bi_lens, bi_lent, bi_lenl, bi_min, bi_max, bi_abs, bi_listT, bi_listL, bi_tupT, bi_tupL, bi_maxL, bi_minL, bi_sumL, bi_anyL, bi_allL, bi_sorted, seqL_l, items_l, items_t, items_m, w_gl, new_f, new_t, ix_t, ix_l, tru_b, tru_n, tru_i, tru_l, tru_t, isi_b, isi_bi, isi_ii, isi_ib, isi_is, isi_it, isi_il, isi_sb, isi_si, isi_ss, isi_tb, isi_ti, isi_ts, isi_tt, isi_tl, isi_lb, isi_li, isi_ls, isi_lt, isi_ll, isi_nb, isi_ni, isi_ns, isi_nt, isi_nl, ix_m, tru_m, bi_lenm, seqL_m, mt_appm, mt_popm, mtOk_appm, mtOk_popm, it_m, ixSt_m]
      exact ⟨d, 1 + r3, hd, by omega, by omega, rfl, rfl⟩
    · exact ⟨d, 1 + r, hd, by omega, by omega, rfl, rfl⟩
  · rintro ρ' M' ⟨d, m, hd, m1, m2, rfl, rfl⟩
    unfold b__law_mating_3
    rw [wpSs_cons]
    simp only [Int.reduceNeg, Int.reduceAdd, Int.reduceSub, Int.reduceMul, cpow_10, cpow_2, Int.reduceLE, Int.reduceLT, Int.reduceToNat, Int.reducePow, mset_same, mset_mset, Tgs.len, List.getElem?_cons_zero, List.getElem?_cons_succ, List.set_cons_zero, List.set_cons_succ, List.getElem?_nil, Option.some.injEq, exists_eq_left', exists_eq_left, true_and, and_true, if_true, if_false, Bool.false_eq_true, reduceCtorEq, Dt.int.injEq, Dt.bl.injEq, Dt.str.injEq, Dt.lst.injEq, Dt.tup.injEq, Dt.ref.injEq, decide_eq_true_eq, List.length_cons, List.length_nil, Nat.zero_add, Nat.reduceAdd, Option.map_some, Bool.not_true, Bool.not_false, atI_0, atI_1, atI_2, atI_3, atI_4, ixN_0, ixN_1, ixN_2, ixN_3, ixN_4, w_var, w_int, w_str, w_bl, w_non, w_glob, w_bin, w_neg, w_cmp, w_cmp2, w_bop, w_b1, w_b2, w_not, w_ite, w_tup, w_lst, w_ix, w_sl, w_call, w_bi, w_mt, w_isi, w_lc, w_frz, w_es0, w_es1, w_o0, w_o1, w_tval, w_tcmp, w_tcmp2, w_tnot, w_tall, w_tany, w_all0, w_all1, w_all2, w_any0, w_any1, w_any2, it_t, it_l, w_seq, w_rng1, w_rng2, w_gn, w_gt, w_gi, w_gs0, w_gs1, s_asg, s_asgC, s_par, s_aug, s_expr, s_if, s_for, s_while, s_ret, s_retN, s_brk, s_cont, s_pass, s_nil, frz_l, frz_m, bin_add, bin_adds, bin_sub, bin_mul, bin_fdiv, bin_mod, bin_pow, bin_xor, cmp_lt, cmp_le, cmp_gt, cmp_ge, cmp_eqi, cmp_eqs, cmp_eqb, cmp_nei, cmp_nes, cmp_neb, cmp_is0, cmp_is1, cmp_is2, cmp_is3, cmp_is4, cmp_is5, cmp_is6, cmp_isn0, cmp_isn1, cmp_isn2, cmp_isn3, cmp_isn4, cmp_isn5, cmp_in, cmp_notin, bi_lens, bi_lent, bi_lenl, bi_min, bi_max, bi_abs, bi_listT, bi_listL, bi_tupT, bi_tupL, bi_maxL, bi_minL, bi_sumL, bi_anyL, bi_allL, bi_sorted, seqL_l, items_l, items_t, items_m, w_gl, new_f, new_t, ix_t, ix_l, tru_b, tru_n, tru_i, tru_l, tru_t, isi_b, isi_bi, isi_ii, isi_ib, isi_is, isi_it, isi_il, isi_sb, isi_si, isi_ss, isi_tb, isi_ti, isi_ts, isi_tt, isi_tl, isi_lb, isi_li, isi_ls, isi_lt, isi_ll, isi_nb, isi_ni, isi_ns, isi_nt, isi_nl, ix_m, tru_m, bi_lenm, seqL_m, mt_appm, mt_popm, mtOk_appm, mtOk_popm, it_m, ixSt_m]
    unfold b__law_mating_4
    rw [wpSs_cons]
    simp only [Int.reduceNeg, Int.reduceAdd, Int.reduceSub, Int.reduceMul, cpow_10, cpow_2, Int.reduceLE, Int.reduceLT, Int.reduceToNat, Int.reducePow, mset_same, mset_mset, Tgs.len, List.getElem?_cons_zero, List.getElem?_cons_succ, List.set_cons_zero, List.set_cons_succ, List.getElem?_nil, Option.some.injEq, exists_eq_left', exists_eq_left, true_and, and_true, if_true, if_false, Bool.false_eq_true, reduceCtorEq, Dt.int.injEq, Dt.bl.injEq, Dt.str.injEq, Dt.lst.injEq, Dt.tup.injEq, Dt.ref.injEq, decide_eq_true_eq, List.length_cons, List.length_nil, Nat.zero_add, Nat.reduceAdd, Option.map_some, Bool.not_true, Bool.not_false, atI_0, atI_1, atI_2, atI_3, atI_4, ixN_0, ixN_1, ixN_2, ixN_3, ixN_4, w_var, w_int, w_str, w_bl, w_non, w_glob, w_bin, w_neg, w_cmp, w_cmp2, w_bop, w_b1, w_b2, w_not, w_ite, w_tup, w_lst, w_ix, w_sl, w_call, w_bi, w_mt, w_isi, w_lc, w_frz, w_es0, w_es1, w_o0, w_o1, w_tval, w_tcmp, w_tcmp2, w_tnot, w_tall, w_tany, w_all0, w_all1, w_all2, w_any0, w_any1, w_any2, it_t, it_l, w_seq, w_rng1, w_rng2, w_gn, w_gt, w_gi, w_gs0, w_gs1, s_asg, s_asgC, s_par, s_aug, s_expr, s_if, s_for, s_while, s_ret, s_retN, s_brk, s_cont, s_pass, s_nil, frz_l, frz_m, bin_add, bin_adds, bin_sub, bin_mul, bin_fdiv, bin_mod, bin_pow, bin_xor, cmp_lt, cmp_le, cmp_gt, cmp_ge, cmp_eqi, cmp_eqs, cmp_eqb, cmp_nei, cmp_nes, cmp_neb, cmp_is0, cmp_is1, cmp_is2, cmp_is3, cmp_is4, cmp_is5, cmp_is6, cmp_isn0, cmp_isn1, cmp_isn2, cmp_isn3, cmp_isn4, cmp_isn5, cmp_in, cmp_notin, bi_lens, bi_lent, bi_lenl, bi_min, bi_max, bi_abs, bi_listT, bi_listL, bi_tupT, bi_tupL, bi_maxL, bi_minL, bi_sumL, bi_anyL, bi_allL, bi_sorted, seqL_l, items_l, items_t, items_m, w_gl, new_f, new_t, ix_t, ix_l, tru_b, tru_n, tru_i, tru_l, tru_t, isi_b, isi_bi, isi_ii, isi_ib, isi_is, isi_it, isi_il, isi_sb, isi_si, isi_ss, isi_tb, isi_ti, isi_ts, isi_tt, isi_tl, isi_lb, isi_li, isi_ls, isi_lt, isi_ll, isi_nb, isi_ni, isi_ns, isi_nt, isi_nl, ix_m, tru_m, bi_lenm, seqL_m, mt_appm, mt_popm, mtOk_appm, mtOk_popm, it_m, ixSt_m]
    refine hpu.go hd (by omega) (by omega) fun a d hd a0 a1 => ?_
    refine hpu.go hd (by omega) (by omega) fun b d hd b0 b1 => ?_
    refine hpu.go hd (by decide) (by decide) fun t d hd t0 t1 => ?_
    simp only [Int.reduceNeg, Int.reduceAdd, Int.reduceSub, Int.reduceMul, cpow_10, cpow_2, Int.reduceLE, Int.reduceLT, Int.reduceToNat, Int.reducePow, mset_same, mset_mset, Tgs.len, List.getElem?_cons_zero, List.getElem?_cons_succ, List.set_cons_zero, List.set_cons_succ, List.getElem?_nil, Option.some.injEq, exists_eq_left', exists_eq_left, true_and, and_true, if_true, if_false, Bool.false_eq_true, reduceCtorEq, Dt.int.injEq, Dt.bl.injEq, Dt.str.injEq, Dt.lst.injEq, Dt.tup.injEq, Dt.ref.injEq, decide_eq_true_eq, List.length_cons, List.length_nil, Nat.zero_add, Nat.reduceAdd, Option.map_some, Bool.not_true, Bool.not_false, atI_0, atI_1, atI_2, atI_3, atI_4, ixN_0, ixN_1, ixN_2, ixN_3, ixN_4, w_var, w_int, w_str, w_bl, w_non, w_glob, w_bin, w_neg, w_cmp, w_cmp2, w_bop, w_b1, w_b2, w_not, w_ite, w_tup, w_lst, w_ix, w_sl, w_call, w_bi, w_mt, w_isi, w_lc, w_frz, w_es0, w_es1, w_o0, w_o1, w_tval, w_tcmp, w_tcmp2, w_tnot, w_tall, w_tany, w_all0, w_all1, w_all2, w_any0, w_any1, w_any2, it_t, it_l, w_seq, w_rng1, w_rng2, w_gn, w_gt, w_gi, w_gs0, w_gs1, s_asg, s_asgC, s_par, s_aug, s_expr, s_if, s_for, s_while, s_ret, s_retN, s_brk, s_cont, s_pass, s_nil, frz_l, frz_m, bin_add, bin_adds, bin_sub, bin_mul, bin_fdiv, bin_mod, bin_pow, bin_xor, cmp_lt, cmp_le, cmp_gt, cmp_ge, cmp_eqi, cmp_eqs, cmp_eqb, cmp_nei, cmp_nes, cmp_neb, cmp_is0, cmp_is1, cmp_is2, cmp_is3, cmp_is4, cmp_is5, cmp_is6, cmp_isn0, cmp_isn1, cmp_isn2, cmp_isn3, cmp_isn4, cmp_isn5, cmp_in, cmp_notin, bi_lens, bi_lent, bi_lenl, bi_min, bi_max, bi_abs, bi_listT, bi_listL, bi_tupT, bi_tupL, bi_maxL, bi_minL, bi_sumL, bi_anyL, bi_allL, bi_sorted, seqL_l, items_l, items_t, items_m, w_gl, new_f, new_t, ix_t, ix_l, tru_b, tru_n, tru_i, tru_l, tru_t, isi_b, isi_bi, isi_ii, isi_ib, isi_is, isi_it, isi_il, isi_sb, isi_si, isi_ss, isi_tb, isi_ti, isi_ts, isi_tt, isi_tl, isi_lb, isi_li, isi_ls, isi_lt, isi_ll, isi_nb, isi_ni, isi_ns, isi_nt, isi_nl, ix_m, tru_m, bi_lenm, seqL_m, mt_appm, mt_popm, mtOk_appm, mtOk_popm, it_m, ixSt_m, hrt]
    exact ⟨sz (by decide), h a b m t d hd a0 b0 m1 (by omega) (by omega) (by omega)⟩
/-- the pairs of places that a mating leads -/
def endP (a b m t : Int) (j : Nat) : Dt := .tup [.int (a + j), .int (if t = 1 then b + m - 1 - j else b + j)]
def endsL (a b m t : Int) : List Dt := (List.range m.toNat).map (endP a b m t)
def EndsOk (W : Wf) : Prop := ∀ (a b m t : Int) M q x, 0 ≤ m → m ≤ 16777216 → q (.lst (endsL a b m t)) M → W.run [mtg a b m t] M q x
theorem ends_ok (G : Gt) : EndsOk (wfB G n__law_ends 1 b__law_ends) := by
  intro a b m t M q x m0 m1 h
  refine ⟨rfl, ?_⟩
  have e0 : startR n__law_ends [mtg a b m t] = [some (mtg a b m t), none, none, none, none, none, none] := rfl
  rw [e0]
  generalize hk : bodyK q x = k
  have hrt : ∀ d, k.rt d = q d := by intro d; rw [← hk]; rfl
  unfold b__law_ends b__law_ends_0
  rw [wpSs_cons]
  simp only [Int.reduceNeg, Int.reduceAdd, Int.reduceSub, Int.reduceMul, cpow_10, cpow_2, Int.reduceLE, Int.reduceLT, Int.reduceToNat, Int.reducePow, mset_same, mset_mset, Tgs.len, List.getElem?_cons_zero, List.getElem?_cons_succ, List.set_cons_zero, List.set_cons_succ, List.getElem?_nil, Option.some.injEq, exists_eq_left', exists_eq_left, true_and, and_true, if_true, if_false, Bool.false_eq_true, reduceCtorEq, Dt.int.injEq, Dt.bl.injEq, Dt.str.injEq, Dt.lst.injEq, Dt.tup.injEq, Dt.ref.injEq, decide_eq_true_eq, List.length_cons, List.length_nil, Nat.zero_add, Nat.reduceAdd, Option.map_some, Bool.not_true, Bool.not_false, atI_0, atI_1, atI_2, atI_3, atI_4, ixN_0, ixN_1, ixN_2, ixN_3, ixN_4, w_var, w_int, w_str, w_bl, w_non, w_glob, w_bin, w_neg, w_cmp, w_cmp2, w_bop, w_b1, w_b2, w_not, w_ite, w_tup, w_lst, w_ix, w_sl, w_call, w_bi, w_mt, w_isi, w_lc, w_frz, w_es0, w_es1, w_o0, w_o1, w_tval, w_tcmp, w_tcmp2, w_tnot, w_tall, w_tany, w_all0, w_all1, w_all2, w_any0, w_any1, w_any2, it_t, it_l, w_seq, w_rng1, w_rng2, w_gn, w_gt, w_gi, w_gs0, w_gs1, s_asg, s_asgC, s_par, s_aug, s_expr, s_if, s_for, s_while, s_ret, s_retN, s_brk, s_cont, s_pass, s_nil, frz_l, frz_m, bin_add, bin_adds, bin_sub, bin_mul, bin_fdiv, bin_mod, bin_pow, bin_xor, cmp_lt, cmp_le, cmp_gt, cmp_ge, cmp_eqi, cmp_eqs, cmp_eqb, cmp_nei, cmp_nes, cmp_neb, cmp_is0, cmp_is1, cmp_is2, cmp_is3, cmp_is4, cmp_is5, cmp_is6, cmp_isn0, cmp_isn1, cmp_isn2, cmp_isn3, cmp_isn4, cmp_isn5, cmp_in, cmp_notin, bi_lens, bi_lent, bi_lenl, bi_min, bi_max, bi_abs, bi_listT, bi_listL, bi_tupT, bi_tupL, bi_maxL, bi_minL, bi_sumL, bi_anyL, bi_allL, bi_sorted, seqL_l, items_l, items_t, items_m, w_gl, new_f, new_t, ix_t, ix_l, tru_b, tru_n, tru_i, tru_l, tru_t, isi_b, isi_bi, isi_ii, isi_ib, isi_is, isi_it, isi_il, isi_sb, isi_si, isi_ss, isi_tb, isi_ti, isi_ts, isi_tt, isi_tl, isi_lb, isi_li, isi_ls, isi_lt, isi_ll, isi_nb, isi_ni, isi_ns, isi_nt, isi_nl, ix_m, tru_m, bi_lenm, seqL_m, mt_appm, mt_popm, mtOk_appm, mtOk_popm, it_m, ixSt_m]
  unfold b__law_ends_1
  rw [wpSs_cons]
  simp only [Int.reduceNeg, Int.reduceAdd, Int.reduceSub, Int.reduceMul, cpow_10, cpow_2, Int.reduceLE, Int.reduceLT, Int.reduceToNat, Int.reducePow, mset_same, mset_mset, Tgs.len, List.getElem?_cons_zero, List.getElem?_cons_succ, List.set_cons_zero, List.set_cons_succ, List.getElem?_nil, Option.some.injEq, exists_eq_left', exists_eq_left, true_and, and_true, if_true, if_false, Bool.false_eq_true, reduceCtorEq, Dt.int.injEq, Dt.bl.injEq, Dt.str.injEq, Dt.lst.injEq, Dt.tup.injEq, Dt.ref.injEq, decide_eq_true_eq, List.length_cons, List.length_nil, Nat.zero_add, Nat.reduceAdd, Option.map_some, Bool.not_true, Bool.not_false, atI_0, atI_1, atI_2, atI_3, atI_4, ixN_0, ixN_1, ixN_2, ixN_3, ixN_4, w_var, w_int, w_str, w_bl, w_non, w_glob, w_bin, w_neg, w_cmp, w_cmp2, w_bop, w_b1, w_b2, w_not, w_ite, w_tup, w_lst, w_ix, w_sl, w_call, w_bi, w_mt, w_isi, w_lc, w_frz, w_es0, w_es1, w_o0, w_o1, w_tval, w_tcmp, w_tcmp2, w_tnot, w_tall, w_tany, w_all0, w_all1, w_all2, w_any0, w_any1, w_any2, it_t, it_l, w_seq, w_rng1, w_rng2, w_gn, w_gt, w_gi, w_gs0, w_gs1, s_asg, s_asgC, s_par, s_aug, s_expr, s_if, s_for, s_while, s_ret, s_retN, s_brk, s_cont, s_pass, s_nil, frz_l, frz_m, bin_add, bin_adds, bin_sub, bin_mul, bin_fdiv, bin_mod, bin_pow, bin_xor, cmp_lt, cmp_le, cmp_gt, cmp_ge, cmp_eqi, cmp_eqs, cmp_eqb, cmp_nei, cmp_nes, cmp_neb, cmp_is0, cmp_is1, cmp_is2, cmp_is3, cmp_is4, cmp_is5, cmp_is6, cmp_isn0, cmp_isn1, cmp_isn2, cmp_isn3, cmp_isn4, cmp_isn5, cmp_in, cmp_notin, bi_lens, bi_lent, bi_lenl, bi_min, bi_max, bi_abs, bi_listT, bi_listL, bi_tupT, bi_tupL, bi_maxL, bi_minL, bi_sumL, bi_anyL, bi_allL, bi_sorted, seqL_l, items_l, items_t, items_m, w_gl, new_f, new_t, ix_t, ix_l, tru_b, tru_n, tru_i, tru_l, tru_t, isi_b, isi_bi, isi_ii, isi_ib, isi_is, isi_it, isi_il, isi_sb, isi_si, isi_ss, isi_tb, isi_ti, isi_ts, isi_tt, isi_tl, isi_lb, isi_li, isi_ls, isi_lt, isi_ll, isi_nb, isi_ni, isi_ns, isi_nt, isi_nl, ix_m, tru_m, bi_lenm, seqL_m, mt_appm, mt_popm, mtOk_appm, mtOk_popm, it_m, ixSt_m]
  refine ⟨sz (by decide), fun p hp => ?_⟩
  unfold b__law_ends_2
  rw [wpSs_cons]
  simp only [Int.reduceNeg, Int.reduceAdd, Int.reduceSub, Int.reduceMul, cpow_10, cpow_2, Int.reduceLE, Int.reduceLT, Int.reduceToNat, Int.reducePow, mset_same, mset_mset, Tgs.len, List.getElem?_cons_zero, List.getElem?_cons_succ, List.set_cons_zero, List.set_cons_succ, List.getElem?_nil, Option.some.injEq, exists_eq_left', exists_eq_left, true_and, and_true, if_true, if_false, Bool.false_eq_true, reduceCtorEq, Dt.int.injEq, Dt.bl.injEq, Dt.str.injEq, Dt.lst.injEq, Dt.tup.injEq, Dt.ref.injEq, decide_eq_true_eq, List.length_cons, List.length_nil, Nat.zero_add, Nat.reduceAdd, Option.map_some, Bool.not_true, Bool.not_false, atI_0, atI_1, atI_2, atI_3, atI_4, ixN_0, ixN_1, ixN_2, ixN_3, ixN_4, w_var, w_int, w_str, w_bl, w_non, w_glob, w_bin, w_neg, w_cmp, w_cmp2, w_bop, w_b1, w_b2, w_not, w_ite, w_tup, w_lst, w_ix, w_sl, w_call, w_bi, w_mt, w_isi, w_lc, w_frz, w_es0, w_es1, w_o0, w_o1, w_tval, w_tcmp, w_tcmp2, w_tnot, w_tall, w_tany, w_all0, w_all1, w_all2, w_any0, w_any1, w_any2, it_t, it_l, w_seq, w_rng1, w_rng2, w_gn, w_gt, w_gi, w_gs0, w_gs1, s_asg, s_asgC, s_par, s_aug, s_expr, s_if, s_for, s_while, s_ret, s_retN, s_brk, s_cont, s_pass, s_nil, frz_l, frz_m, bin_add, bin_adds, bin_sub, bin_mul, bin_fdiv, bin_mod, bin_pow, bin_xor, cmp_lt, cmp_le, cmp_gt, cmp_ge, cmp_eqi, cmp_eqs, cmp_eqb, cmp_nei, cmp_nes, cmp_neb, cmp_is0, cmp_is1, cmp_is2, cmp_is3, cmp_is4, cmp_is5, cmp_is6, cmp_isn0, cmp_isn1, cmp_isn2, cmp_isn3, cmp_isn4, cmp_isn5, cmp_in, cmp_notin, bi_lens, bi_lent, bi_lenl, bi_min, bi_max, bi_abs, bi_listT, bi_listL, bi_tupT, bi_tupL, bi_maxL, bi_minL, bi_sumL, bi_anyL, bi_allL, bi_sorted, seqL_l, items_l, items_t, items_m, w_gl, new_f, new_t, ix_t, ix_l, tru_b, tru_n, tru_i, tru_l, tru_t, isi_b, isi_bi, isi_ii, isi_ib, isi_is, isi_it, isi_il, isi_sb, isi_si, isi_ss, isi_tb, isi_ti, isi_ts, isi_tt, isi_tl, isi_lb, isi_li, isi_ls, isi_lt, isi_ll, isi_nb, isi_ni, isi_ns, isi_nt, isi_nl, ix_m, tru_m, bi_lenm, seqL_m, mt_appm, mt_popm, mtOk_appm, mtOk_popm, it_m, ixSt_m]
  refine ⟨by omega, by omega, ?_⟩
  refine forRun_inv (fun i ρ' M' => ∃ o : Option Dt, ρ' = [some (mtg a b m t), some (.int a), some (.int b), some (.int m), some (.int t), some (.ref p), o] ∧ M' = mset M p (some (.lst ((List.range i).map (endP a b m t)))) ∧ i ≤ m.toNat) ⟨none, rfl, rfl, Nat.zero_le _⟩ (fun _ _ _ _ => trivial) ?_ ?_
  · rintro i v ρ' M' n hv ⟨o, rfl, rfl, hi⟩ hn
    have hlt : i < m.toNat := by
      have := (List.getElem?_eq_some_iff.mp hv).1
      rwa [List.length_map, List.length_range] at this
    have ev : v = .int (i : Int) := by
      rw [List.getElem?_map, List.getElem?_range hlt] at hv
      exact (Option.some.inj hv).symm
    subst ev
    simp only [Int.reduceNeg, Int.reduceAdd, Int.reduceSub, Int.reduceMul, cpow_10, cpow_2, Int.reduceLE, Int.reduceLT, Int.reduceToNat, Int.reducePow, mset_same, mset_mset, Tgs.len, List.getElem?_cons_zero, List.getElem?_cons_succ, List.set_cons_zero, List.set_cons_succ, List.getElem?_nil, Option.some.injEq, exists_eq_left', exists_eq_left, true_and, and_true, if_true, if_false, Bool.false_eq_true, reduceCtorEq, Dt.int.injEq, Dt.bl.injEq, Dt.str.injEq, Dt.lst.injEq, Dt.tup.injEq, Dt.ref.injEq, decide_eq_true_eq, List.length_cons, List.length_nil, Nat.zero_add, Nat.reduceAdd, Option.map_some, Bool.not_true, Bool.not_false, atI_0, atI_1, atI_2, atI_3, atI_4, ixN_0, ixN_1, ixN_2, ixN_3, ixN_4, w_var, w_int, w_str, w_bl, w_non, w_glob, w_bin, w_neg, w_cmp, w_cmp2, w_bop, w_b1, w_b2, w_not, w_ite, w_tup, w_lst, w_ix, w_sl, w_call, w_bi, w_mt, w_isi, w_lc, w_frz, w_es0, w_es1, w_o0, w_o1, w_tval, w_tcmp, w_tcmp2, w_tnot, w_tall, w_tany, w_all0, w_all1, w_all2, w_any0, w_any1, w_any2, it_t, it_l, w_seq, w_rng1, w_rng2, w_gn, w_gt, w_gi, w_gs0, w_gs1, s_asg, s_asgC, s_par, s_aug, s_expr, s_if, s_for, s_while, s_ret, s_retN, s_brk, s_cont, s_pass, s_nil, frz_l, frz_m, bin_add, bin_adds, bin_sub, bin_mul, bin_fdiv, bin_mod, bin_pow, bin_xor, cmp_lt, cmp_le, cmp_gt, cmp_ge, cmp_eqi, cmp_eqs, cmp_eqb, cmp_nei, cmp_nes, cmp_neb, cmp_is0, cmp_is1, cmp_is2, cmp_is3, cmp_is4, cmp_is5, cmp_is6, cmp_isn0, cmp_isn1, cmp_isn2, cmp_isn3, cmp_isn4, cmp_isn5, cmp_in, cmp_notin, bi_lens, bi_lent, bi_lenl, bi_min, bi_max, bi_abs, bi_listT, bi_listL, bi_tupT, bi_tupL, bi_maxL, bi_minL, bi_sumL, bi_anyL, bi_allL, bi_sorted, seqL_l, items_l, items_t, items_m, w_gl, new_f, new_t, ix_t, ix_l, tru_b, tru_n, tru_i, tru_l, tru_t, isi_b, isi_bi, isi_ii, isi_ib, isi_is, isi_it, isi_il, isi_sb, isi_si, isi_ss, isi_tb, isi_ti, isi_ts, isi_tt, isi_tl, isi_lb, isi_li, isi_ls, isi_lt, isi_ll, isi_nb, isi_ni, isi_ns, isi_nt, isi_nl, ix_m, tru_m, bi_lenm, seqL_m, mt_appm, mt_popm, mtOk_appm, mtOk_popm, it_m, ixSt_m]
    unfold b__law_ends_3
    rw [wpSs_cons]
    have fin : ∀ z : Int, z = (if t = 1 then b + m - 1 - i else b + i) → 2 ≤ sizeLine ∧ (List.map (endP a b m t) (List.range i)).length < sizeLine ∧ n [some (mtg a b m t), some (.int a), some (.int b), some (.int m), some (.int t), some (.ref p), some (.int (i : Int))] (mset M p (some (.lst (List.map (endP a b m t) (List.range i) ++ [.tup [.int (a + i), .int z]])))) := by
      intro z hz
      refine ⟨sz (by decide), by rw [List.length_map, List.length_range]; show i < 16777216; omega, hn _ _ ⟨_, rfl, ?_, hlt⟩⟩
      rw [List.range_succ, List.map_append]
      subst hz
      rfl
    simp only [Int.reduceNeg, Int.reduceAdd, Int.reduceSub, Int.reduceMul, cpow_10, cpow_2, Int.reduceLE, Int.reduceLT, Int.reduceToNat, Int.reducePow, mset_same, mset_mset, Tgs.len, List.getElem?_cons_zero, List.getElem?_cons_succ, List.set_cons_zero, List.set_cons_succ, List.getElem?_nil, Option.some.injEq, exists_eq_left', exists_eq_left, true_and, and_true, if_true, if_false, Bool.false_eq_true, reduceCtorEq, Dt.int.injEq, Dt.bl.injEq, Dt.str.injEq, Dt.lst.injEq, Dt.tup.injEq, Dt.ref.injEq, decide_eq_true_eq, List.length_cons, List.length_nil, Nat.zero_add, Nat.reduceAdd, Option.map_some, Bool.not_true, Bool.not_false, atI_0, atI_1, atI_2, atI_3, atI_4, ixN_0, ixN_1, ixN_2, ixN_3, ixN_4, w_var, w_int, w_str, w_bl, w_non, w_glob, w_bin, w_neg, w_cmp, w_cmp2, w_bop, w_b1, w_b2, w_not, w_ite, w_tup, w_lst, w_ix, w_sl, w_call, w_bi, w_mt, w_isi, w_lc, w_frz, w_es0, w_es1, w_o0, w_o1, w_tval, w_tcmp, w_tcmp2, w_tnot, w_tall, w_tany, w_all0, w_all1, w_all2, w_any0, w_any1, w_any2, it_t, it_l, w_seq, w_rng1, w_rng2, w_gn, w_gt, w_gi, w_gs0, w_gs1, s_asg, s_asgC, s_par, s_aug, s_expr, s_if, s_for, s_while, s_ret, s_retN, s_brk, s_cont, s_pass, s_nil, frz_l, frz_m, bin_add, bin_adds, bin_sub, bin_mul, bin_fdiv, bin_mod, bin_pow, bin_xor, cmp_lt, cmp_le, cmp_gt, cmp_ge, cmp_eqi, cmp_eqs, cmp_eqb, cmp_nei, cmp_nes, cmp_neb, cmp_is0, cmp_is1, cmp_is2, cmp_is3, cmp_is4, cmp_is5, cmp_is6, cmp_isn0, cmp_isn1, cmp_isn2, cmp_isn3, cmp_isn4, cmp_isn5, cmp_in, cmp_notin, bi_lens, bi_lent, bi_lenl, bi_min, bi_max, bi_abs, bi_listT, bi_listL, bi_tupT, bi_tupL, bi_maxL, bi_minL, bi_sumL, bi_anyL, bi_allL, bi_sorted, seqL_l, items_l, items_t, items_m, w_gl, new_f, new_t, ix_t, ix_l, tru_b, tru_n, tru_i, tru_l, tru_t, isi_b, isi_bi, isi_ii, isi_ib, isi_is, isi_it, isi_il, isi_sb, isi_si, isi_ss, isi_tb, isi_ti, isi_ts, isi_tt, isi_tl, isi_lb, isi_li, isi_ls, isi_lt, isi_ll, isi_nb, isi_ni, isi_ns, isi_nt, isi_nl, ix_m, tru_m, bi_lenm, seqL_m, mt_appm, mt_popm, mtOk_appm, mtOk_popm, it_m, ixSt_m]
    split
    · rename_i ht
      exact fin _ (by rw [if_pos ht])
    · rename_i ht
      exact fin _ (by rw [if_neg ht])
  · rintro ρ' M' ⟨o, rfl, rfl, hi⟩
    unfold b__law_ends_4
    rw [wpSs_cons]
    simp only [Int.reduceNeg, Int.reduceAdd, Int.reduceSub, Int.reduceMul, cpow_10, cpow_2, Int.reduceLE, Int.reduceLT, Int.reduceToNat, Int.reducePow, mset_same, mset_mset, Tgs.len, List.getElem?_cons_zero, List.getElem?_cons_succ, List.set_cons_zero, List.set_cons_succ, List.getElem?_nil, Option.some.injEq, exists_eq_left', exists_eq_left, true_and, and_true, if_true, if_false, Bool.false_eq_true, reduceCtorEq, Dt.int.injEq, Dt.bl.injEq, Dt.str.injEq, Dt.lst.injEq, Dt.tup.injEq, Dt.ref.injEq, decide_eq_true_eq, List.length_cons, List.length_nil, Nat.zero_add, Nat.reduceAdd, Option.map_some, Bool.not_true, Bool.not_false, atI_0, atI_1, atI_2, atI_3, atI_4, ixN_0, ixN_1, ixN_2, ixN_3, ixN_4, w_var, w_int, w_str, w_bl, w_non, w_glob, w_bin, w_neg, w_cmp, w_cmp2, w_bop, w_b1, w_b2, w_not, w_ite, w_tup, w_lst, w_ix, w_sl, w_call, w_bi, w_mt, w_isi, w_lc, w_frz, w_es0, w_es1, w_o0, w_o1, w_tval, w_tcmp, w_tcmp2, w_tnot, w_tall, w_tany, w_all0, w_all1, w_all2, w_any0, w_any1, w_any2, it_t, it_l, w_seq, w_rng1, w_rng2, w_gn, w_gt, w_gi, w_gs0, w_gs1, s_asg, s_asgC, s_par, s_aug, s_expr, s_if, s_for, s_while, s_ret, s_retN, s_brk, s_cont, s_pass, s_nil, frz_l, frz_m, bin_add, bin_adds, bin_sub, bin_mul, bin_fdiv, bin_mod, bin_pow, bin_xor, cmp_lt, cmp_le, cmp_gt, cmp_ge, cmp_eqi, cmp_eqs, cmp_eqb, cmp_nei, cmp_nes, cmp_neb, cmp_is0, cmp_is1, cmp_is2, cmp_is3, cmp_is4, cmp_is5, cmp_is6, cmp_isn0, cmp_isn1, cmp_isn2, cmp_isn3, cmp_isn4, cmp_isn5, cmp_in, cmp_notin, bi_lens, bi_lent, bi_lenl, bi_min, bi_max, bi_abs, bi_listT, bi_listL, bi_tupT, bi_tupL, bi_maxL, bi_minL, bi_sumL, bi_anyL, bi_allL, bi_sorted, seqL_l, items_l, items_t, items_m, w_gl, new_f, new_t, ix_t, ix_l, tru_b, tru_n, tru_i, tru_l, tru_t, isi_b, isi_bi, isi_ii, isi_ib, isi_is, isi_it, isi_il, isi_sb, isi_si, isi_ss, isi_tb, isi_ti, isi_ts, isi_tt, isi_tl, isi_lb, isi_li, isi_ls, isi_lt, isi_ll, isi_nb, isi_ni, isi_ns, isi_nt, isi_nl, ix_m, tru_m, bi_lenm, seqL_m, mt_appm, mt_popm, mtOk_appm, mtOk_popm, it_m, ixSt_m, hrt]
    rw [mset_self hp, List.length_map, List.length_range]
    exact h
def FirstOk (W : Wf) : Prop := ∀ (a b m t : Int) M q x, q (if a ≤ b then mtg a b m t else mtg b a m t) M → W.run [mtg a b m t] M q x
theorem first_ok (G : Gt) : FirstOk (wfB G n__law_first 1 b__law_first) := by
  intro a b m t M q x h
  refine ⟨rfl, ?_⟩
  have e0 : startR n__law_first [mtg a b m t] = [some (mtg a b m t), none, none, none, none] := rfl
  rw [e0]
  generalize hk : bodyK q x = k
  have hrt : ∀ d, k.rt d = q d := by intro d; rw [← hk]; rfl
  unfold b__law_first b__law_first_0
  rw [wpSs_cons]
  simp only [Int.reduceNeg, Int.reduceAdd, Int.reduceSub, Int.reduceMul, cpow_10, cpow_2, Int.reduceLE, Int.reduceLT, Int.reduceToNat, Int.reducePow, mset_same, mset_mset, Tgs.len, List.getElem?_cons_zero, List.getElem?_cons_succ, List.set_cons_zero, List.set_cons_succ, List.getElem?_nil, Option.some.injEq, exists_eq_left', exists_eq_left, true_and, and_true, if_true, if_false, Bool.false_eq_true, reduceCtorEq, Dt.int.injEq, Dt.bl.injEq, Dt.str.injEq, Dt.lst.injEq, Dt.tup.injEq, Dt.ref.injEq, decide_eq_true_eq, List.length_cons, List.length_nil, Nat.zero_add, Nat.reduceAdd, Option.map_some, Bool.not_true, Bool.not_false, atI_0, atI_1, atI_2, atI_3, atI_4, ixN_0, ixN_1, ixN_2, ixN_3, ixN_4, w_var, w_int, w_str, w_bl, w_non, w_glob, w_bin, w_neg, w_cmp, w_cmp2, w_bop, w_b1, w_b2, w_not, w_ite, w_tup, w_lst, w_ix, w_sl, w_call, w_bi, w_mt, w_isi, w_lc, w_frz, w_es0, w_es1, w_o0, w_o1, w_tval, w_tcmp, w_tcmp2, w_tnot, w_tall, w_tany, w_all0, w_all1, w_all2, w_any0, w_any1, w_any2, it_t, it_l, w_seq, w_rng1, w_rng2, w_gn, w_gt, w_gi, w_gs0, w_gs1, s_asg, s_asgC, s_par, s_aug, s_expr, s_if, s_for, s_while, s_ret, s_retN, s_brk, s_cont, s_pass, s_nil, frz_l, frz_m, bin_add, bin_adds, bin_sub, bin_mul, bin_fdiv, bin_mod, bin_pow, bin_xor, cmp_lt, cmp_le, cmp_gt, cmp_ge, cmp_eqi, cmp_eqs, cmp_eqb, cmp_nei, cmp_nes, cmp_neb, cmp_is0, cmp_is1, cmp_is2, cmp_is3, cmp_is4, cmp_is5, cmp_is6, cmp_isn0, cmp_isn1, cmp_isn2, cmp_isn3, cmp_isn4, cmp_isn5, cmp_in, cmp_notin, bi_lens, bi_lent, bi_lenl, bi_min, bi_max, bi_abs, bi_listT, bi_listL, bi_tupT, bi_tupL, bi_maxL, bi_minL, bi_sumL, bi_anyL, bi_allL, bi_sorted, seqL_l, items_l, items_t, items_m, w_gl, new_f, new_t, ix_t, ix_l, tru_b, tru_n, tru_i, tru_l, tru_t, isi_b, isi_bi, isi_ii, isi_ib, isi_is, isi_it, isi_il, isi_sb, isi_si, isi_ss, isi_tb, isi_ti, isi_ts, isi_tt, isi_tl, isi_lb, isi_li, isi_ls, isi_lt, isi_ll, isi_nb, isi_ni, isi_ns, isi_nt, isi_nl, ix_m, tru_m, bi_lenm, seqL_m, mt_appm, mt_popm, mtOk_appm, mtOk_popm, it_m, ixSt_m]
  unfold b__law_first_1
  rw [wpSs_cons]
  simp only [Int.reduceNeg, Int.reduceAdd, Int.reduceSub, Int.reduceMul, cpow_10, cpow_2, Int.reduceLE, Int.reduceLT, Int.reduceToNat, Int.reducePow, mset_same, mset_mset, Tgs.len, List.getElem?_cons_zero, List.getElem?_cons_succ, List.set_cons_zero, List.set_cons_succ, List.getElem?_nil, Option.some.injEq, exists_eq_left', exists_eq_left, true_and, and_true, if_true, if_false, Bool.false_eq_true, reduceCtorEq, Dt.int.injEq, Dt.bl.injEq, Dt.str.injEq, Dt.lst.injEq, Dt.tup.injEq, Dt.ref.injEq, decide_eq_true_eq, List.length_cons, List.length_nil, Nat.zero_add, Nat.reduceAdd, Option.map_some, Bool.not_true, Bool.not_false, atI_0, atI_1, atI_2, atI_3, atI_4, ixN_0, ixN_1, ixN_2, ixN_3, ixN_4, w_var, w_int, w_str, w_bl, w_non, w_glob, w_bin, w_neg, w_cmp, w_cmp2, w_bop, w_b1, w_b2, w_not, w_ite, w_tup, w_lst, w_ix, w_sl, w_call, w_bi, w_mt, w_isi, w_lc, w_frz, w_es0, w_es1, w_o0, w_o1, w_tval, w_tcmp, w_tcmp2, w_tnot, w_tall, w_tany, w_all0, w_all1, w_all2, w_any0, w_any1, w_any2, it_t, it_l, w_seq, w_rng1, w_rng2, w_gn, w_gt, w_gi, w_gs0, w_gs1, s_asg, s_asgC, s_par, s_aug, s_expr, s_if, s_for, s_while, s_ret, s_retN, s_brk, s_cont, s_pass, s_nil, frz_l, frz_m, bin_add, bin_adds, bin_sub, bin_mul, bin_fdiv, bin_mod, bin_pow, bin_xor, cmp_lt, cmp_le, cmp_gt, cmp_ge, cmp_eqi, cmp_eqs, cmp_eqb, cmp_nei, cmp_nes, cmp_neb, cmp_is0, cmp_is1, cmp_is2, cmp_is3, cmp_is4, cmp_is5, cmp_is6, cmp_isn0, cmp_isn1, cmp_isn2, cmp_isn3, cmp_isn4, cmp_isn5, cmp_in, cmp_notin, bi_lens, bi_lent, bi_lenl, bi_min, bi_max, bi_abs, bi_listT, bi_listL, bi_tupT, bi_tupL, bi_maxL, bi_minL, bi_sumL, bi_anyL, bi_allL, bi_sorted, seqL_l, items_l, items_t, items_m, w_gl, new_f, new_t, ix_t, ix_l, tru_b, tru_n, tru_i, tru_l, tru_t, isi_b, isi_bi, isi_ii, isi_ib, isi_is, isi_it, isi_il, isi_sb, isi_si, isi_ss, isi_tb, isi_ti, isi_ts, isi_tt, isi_tl, isi_lb, isi_li, isi_ls, isi_lt, isi_ll, isi_nb, isi_ni, isi_ns, isi_nt, isi_nl, ix_m, tru_m, bi_lenm, seqL_m, mt_appm, mt_popm, mtOk_appm, mtOk_popm, it_m, ixSt_m, hrt]
  refine ⟨sz (by decide), ?_⟩
  by_cases hab : a ≤ b
  · rw [if_pos hab] at h
    have e1 : min a b = a := by omega
    have e2 : max a b = b := by omega
    rw [e1, e2]
    exact h
  · rw [if_neg hab] at h
    have e1 : min a b = b := by omega
    have e2 : max a b = a := by omega
    rw [e1, e2]
    exact h

/-! dicts by keys -/
section
variable {κ : Type} [DecidableEq κ]
theorem valD_nil {j : κ} : valD ([] : List (κ × Dt)) j = none := rfl
theorem valD_cons {k j : κ} {v : Dt} {r : List (κ × Dt)} : valD ((k, v) :: r) j = if k = j then some v else valD r j := by
  unfold valD
  rw [List.find?_cons]
  by_cases h : k = j
  · simp [h]
  · simp [h]
theorem valD_app {j : κ} {k : κ} {v : Dt} : ∀ kvs : List (κ × Dt), valD (kvs ++ [(k, v)]) j = match valD kvs j with
    | some x => some x
    | none => if k = j then some v else none
  | [] => by rw [List.nil_append, valD_cons, valD_nil]
  | (a, b) :: r => by
    rw [List.cons_append, valD_cons, valD_cons]
    by_cases h : a = j
    · simp [h]
    · simp only [if_neg h]
      exact valD_app r
theorem valD_map {k j : κ} {v : Dt} : ∀ kvs : List (κ × Dt), valD (kvs.map fun kv => if kv.1 = k then (kv.1, v) else kv) j = match valD kvs j with
    | some x => some (if k = j then v else x)
    | none => none
  | [] => rfl
  | (a, b) :: r => by
    rw [List.map_cons]
    by_cases ha : a = k
    · subst ha
      rw [if_pos rfl, valD_cons, valD_cons]
      by_cases h : a = j
      · simp [h]
      · simp only [if_neg h]
        have := valD_map (k := a) (j := j) (v := v) r
        rw [this]
        simp only [if_neg h]
    · rw [if_neg ha, valD_cons, valD_cons]
      by_cases h : a = j
      · subst h
        simp [Ne.symm ha]
      · simp only [if_neg h]
        exact valD_map r
theorem valD_none {j : κ} : ∀ {kvs : List (κ × Dt)}, (kvs.any fun kv => decide (kv.1 = j)) = false ↔ valD kvs j = none
  | [] => ⟨fun _ => rfl, fun _ => rfl⟩
  | (a, b) :: r => by
    rw [List.any_cons, valD_cons]
    by_cases h : a = j
    · simp [h]
    · simp only [h, decide_false, Bool.false_or, if_false]
      exact valD_none
theorem valD_put {k j : κ} {v : Dt} (kvs : List (κ × Dt)) : valD (putD kvs k v) j = if k = j then some v else valD kvs j := by
  unfold putD
  cases h : (kvs.any fun kv => decide (kv.1 = k)) with
  | true =>
    rw [if_pos rfl, valD_map]
    have hs : ∃ x, valD kvs k = some x := by
      cases e : valD kvs k with
      | some x => exact ⟨x, rfl⟩
      | none => rw [valD_none.mpr e] at h; cases h
    by_cases hj : k = j
    · subst hj
      obtain ⟨x, hx⟩ := hs
      rw [hx]; simp
    · cases e : valD kvs j <;> simp [hj]
  | false =>
    rw [if_neg Bool.false_ne_true, valD_app]
    by_cases hj : k = j
    · subst hj
      rw [valD_none.mp h]
    · cases e : valD kvs j <;> simp [hj]
theorem merge_cons {acc : List (κ × Dt)} {kv : κ × Dt} {more : List (κ × Dt)} : mergeD acc (kv :: more) = mergeD (putD acc kv.1 kv.2) more := rfl
theorem valD_merge_no {j : κ} : ∀ (more acc : List (κ × Dt)), (∀ kv, kv ∈ more → kv.1 ≠ j) → valD (mergeD acc more) j = valD acc j
  | [], acc, _ => rfl
  | (a, b) :: r, acc, h => by
    rw [merge_cons, valD_merge_no r _ fun kv hk => h kv (List.mem_cons_of_mem _ hk), valD_put, if_neg (h (a, b) List.mem_cons_self)]
theorem valD_merge {j : κ} {v : Dt} : ∀ (more acc : List (κ × Dt)), (∀ kv, kv ∈ more → kv.1 = j → kv.2 = v) → ((∃ kv, kv ∈ more ∧ kv.1 = j) ∨ valD acc j = some v) → valD (mergeD acc more) j = some v
  | [], acc, _, h => by
    rcases h with ⟨_, h, _⟩ | h
    · cases h
    · exact h
  | (a, b) :: r, acc, h1, h => by
    rw [merge_cons]
    refine valD_merge r _ (fun kv hk => h1 kv (List.mem_cons_of_mem _ hk)) ?_
    by_cases ha : a = j
    · refine .inr ?_
      rw [valD_put, if_pos ha, h1 (a, b) List.mem_cons_self ha]
    · rcases h with ⟨kv, hk, e⟩ | h
      · rcases List.mem_cons.mp hk with rfl | hk
        · exact absurd e ha
        · exact .inl ⟨kv, hk, e⟩
      · refine .inr ?_
        rw [valD_put, if_neg ha, h]
end
theorem bi_dict {d : Dt} {M : Mm} {q : QD} : biD .dictOf [d] M q = ∃ kvs : List (Key × Dt), seqL M d = some (kvs.map fun p => .tup [kD p.1, p.2]) ∧ ∀ p, M p = none → q (.ref p) (mset M p (some (.dK (mergeD [] kvs)))) := by cases d <;> rfl
theorem mt_get2 {M : Mm} {a : Addr} {kvs : List (Key × Dt)} {k z : Dt} {ky : Key} {q : QD} (h : M a = some (.dK kvs)) (e : keyOf k = some ky) : mtD .get2 (.ref a) [k, z] M q = q ((valD kvs ky).getD z) M := by
  show (match M a, keyOf k with
    | some (.dK kvs), some k => q ((valD kvs k).getD z) M
    | _, _ => False) = _
  rw [h, e]
theorem mt_get1 {M : Mm} {a : Addr} {kvs : List (Key × Dt)} {k : Dt} {ky : Key} {q : QD} (h : M a = some (.dK kvs)) (e : keyOf k = some ky) : mtD .get1 (.ref a) [k] M q = q ((valD kvs ky).getD .non) M := by
  show (match M a, keyOf k with
    | some (.dK kvs), some k => q ((valD kvs k).getD .non) M
    | _, _ => False) = _
  rw [h, e]
theorem mtOk_get2 {M : Mm} {a : Addr} {kvs : List (Key × Dt)} (h : M a = some (.dK kvs)) : mtOk .get2 M (.ref a) = true := by
  show mtOkMo .get2 (M a) = true
  rw [h]; rfl
theorem mtOk_get1 {M : Mm} {a : Addr} {kvs : List (Key × Dt)} (h : M a = some (.dK kvs)) : mtOk .get1 M (.ref a) = true := by
  show mtOkMo .get1 (M a) = true
  rw [h]; rfl
/-! alike to itself -/
theorem like_i {M : Mm} {n : Nat} {i : Int} : Like M (n + 1) (.int i) (.int i) := .inr (.inr (.inl ⟨_, rfl, rfl⟩))
theorem like_n {M : Mm} {n : Nat} : Like M (n + 1) .non .non := .inl ⟨rfl, rfl⟩
theorem like_b {M : Mm} {n : Nat} {b : Bool} : Like M (n + 1) (.bl b) (.bl b) := .inr (.inl ⟨_, rfl, rfl⟩)
theorem like_s {M : Mm} {n : Nat} {s : Str} : Like M (n + 1) (.str s) (.str s) := .inr (.inr (.inr (.inl ⟨_, rfl, rfl⟩)))
theorem like_q {M : Mm} {n : Nat} {t : Bool} {d e : Dt} {xs : List Dt} (h1 : SeqD t M d xs) (h2 : SeqD t M e xs) (hl : xs.length ≤ 16777216) (h : ∀ x, x ∈ xs → Like M n x x) : Like M (n + 1) d e :=
  .inr (.inr (.inr (.inr ⟨t, xs, xs, h1, h2, rfl, hl, fun i x y e1 e2 => by
    rw [e1] at e2
    cases e2
    exact h x (List.mem_of_getElem? e1)⟩)))
theorem like_t {M : Mm} {n : Nat} {xs : List Dt} (hl : xs.length ≤ 16777216) (h : ∀ x, x ∈ xs → Like M n x x) : Like M (n + 1) (.tup xs) (.tup xs) := like_q (.inl ⟨rfl, rfl⟩) (.inl ⟨rfl, rfl⟩) hl h
theorem like_l {M : Mm} {n : Nat} {xs : List Dt} (hl : xs.length ≤ 16777216) (h : ∀ x, x ∈ xs → Like M n x x) : Like M (n + 1) (.lst xs) (.lst xs) := like_q (.inr ⟨rfl, .inl rfl⟩) (.inr ⟨rfl, .inl rfl⟩) hl h
theorem like_m {M : Mm} {n : Nat} {a b m t : Int} : Like M (n + 2) (mtg a b m t) (mtg a b m t) := like_t (by show 4 ≤ 16777216; decide) (by
  intro x hx
  simp only [List.mem_cons, List.not_mem_nil, or_false] at hx
  rcases hx with rfl | rfl | rfl | rfl <;> exact like_i)
theorem like_led {M : Mm} {n : Nat} {a b m t p : Int} : Like M (n + 1) (ledI a b m t p) (ledI a b m t p) := by
  unfold ledI
  split
  · split <;> exact like_i
  · exact like_n
/-- what a dict of the led places tells -/
theorem kept_led {a b m t p : Int} (hm : 0 ≤ m) : (valD (mergeD [] ((List.range m.toNat).map fun j : Nat => ((.inl (a + j) : Key), Dt.int (if t = 1 then b + m - 1 - j else b + j)))) (.inl p)).getD .non = ledI a b m t p := by
  unfold ledI
  by_cases h : a ≤ p ∧ p < a + m
  · rw [if_pos h, valD_merge (v := .int (if t = 1 then b + m - 1 - (p - a) else b + p - a))]
    · show Dt.int _ = _
      split <;> rfl
    · intro kv hk e
      obtain ⟨j, hj, rfl⟩ := List.mem_map.mp hk
      have e' : a + (j : Int) = p := Sum.inl.inj e
      have : (j : Int) = p - a := by omega
      show Dt.int _ = Dt.int _
      rw [this]
      split <;> congr 1 <;> omega
    · refine .inl ⟨_, List.mem_map.mpr ⟨(p - a).toNat, List.mem_range.mpr (by omega), rfl⟩, ?_⟩
      show (Sum.inl (a + ((p - a).toNat : Int)) : Key) = .inl p
      congr 1
      omega
  · rw [if_neg h, valD_merge_no]
    · rfl
    · intro kv hk e
      obtain ⟨j, hj, rfl⟩ := List.mem_map.mp hk
      rw [List.mem_range] at hj
      have e' : a + (j : Int) = p := Sum.inl.inj e
      omega
theorem kept_back {a b m t p : Int} (hm : 0 ≤ m) : (valD (mergeD [] ((List.range m.toNat).map fun j : Nat => ((.inl (if t = 1 then b + m - 1 - j else b + j) : Key), Dt.int (a + j)))) (.inl p)).getD .non = ledI b a m t p := by
  unfold ledI
  by_cases h : b ≤ p ∧ p < b + m
  · rw [if_pos h, valD_merge (v := .int (if t = 1 then a + m - 1 - (p - b) else a + p - b))]
    · show Dt.int _ = _
      split <;> rfl
    · intro kv hk e
      obtain ⟨j, hj, rfl⟩ := List.mem_map.mp hk
      have e' : (if t = 1 then b + m - 1 - (j : Int) else b + j) = p := Sum.inl.inj e
      show Dt.int _ = Dt.int _
      congr 1
      split <;> rename_i ht <;> (first | rw [if_pos ht] at e' | rw [if_neg ht] at e') <;> omega
    · by_cases ht : t = 1
      · refine .inl ⟨_, List.mem_map.mpr ⟨(b + m - 1 - p).toNat, List.mem_range.mpr (by omega), rfl⟩, ?_⟩
        show (Sum.inl (if t = 1 then b + m - 1 - ((b + m - 1 - p).toNat : Int) else _) : Key) = .inl p
        rw [if_pos ht]
        congr 1
        omega
      · refine .inl ⟨_, List.mem_map.mpr ⟨(p - b).toNat, List.mem_range.mpr (by omega), rfl⟩, ?_⟩
        show (Sum.inl (if t = 1 then _ else b + ((p - b).toNat : Int)) : Key) = .inl p
        rw [if_neg ht]
        congr 1
        omega
  · rw [if_neg h, valD_merge_no]
    · rfl
    · intro kv hk e
      obtain ⟨j, hj, rfl⟩ := List.mem_map.mp hk
      rw [List.mem_range] at hj
      have e' : (if t = 1 then b + m - 1 - (j : Int) else b + j) = p := Sum.inl.inj e
      split at e' <;> omega
end Fm

/-! Plain data compared; parts of matings, matings moved, swelled, clipped. -/
namespace Fm
open PySem L2 PySem.Spec PyProof.Rows
def Plain : Nat → Dt → Prop
  | _, .non => True
  | _, .bl _ => True
  | _, .int _ => True
  | _, .str s => (PyData.str s).canLay0 = true
  | n + 1, .tup ds => ∀ d, d ∈ ds → Plain n d
  | n + 1, .lst ds => ∀ d, d ∈ ds → Plain n d
  | _, _ => False
theorem plain_pys {n : Nat} : ∀ ds : List Dt, (∀ d, d ∈ ds → ∃ p, pyD d = some p ∧ p.canLay0 = true ∧ p.depth ≤ n) → ∃ ps, pyDs ds = some ps ∧ PyData.canLayAll0 ps = true ∧ PyData.depthAll ps ≤ n ∧ ps.length = ds.length
  | [], _ => ⟨[], rfl, rfl, Nat.zero_le _, rfl⟩
  | d :: ds, h => by
    obtain ⟨p, h1, h2, h3⟩ := h d List.mem_cons_self
    obtain ⟨ps, g1, g2, g3, g4⟩ := plain_pys ds fun d hd => h d (List.mem_cons_of_mem _ hd)
    refine ⟨p :: ps, ?_, ?_, ?_, by rw [List.length_cons, List.length_cons, g4]⟩
    · show (pyD d).bind (fun p => (pyDs ds).map fun r => p :: r) = _
      rw [h1, g1]; rfl
    · show (p.canLay0 && PyData.canLayAll0 ps) = true
      rw [h2, g2]; rfl
    · show max p.depth (PyData.depthAll ps) ≤ n
      omega
theorem Plain.py : ∀ (n : Nat) (d : Dt), Plain n d → ∃ p, pyD d = some p ∧ p.canLay0 = true ∧ p.depth ≤ n
  | _, .non, _ => ⟨_, rfl, rfl, Nat.zero_le _⟩
  | _, .bl _, _ => ⟨_, rfl, rfl, Nat.zero_le _⟩
  | _, .int _, _ => ⟨_, rfl, rfl, Nat.zero_le _⟩
  | n, .str _, h => ⟨_, rfl, by cases n <;> exact h, Nat.zero_le _⟩
  | n + 1, .tup ds, h => by
    obtain ⟨ps, g1, g2, g3, g4⟩ := plain_pys (n := n) ds fun d hd => Plain.py n d (h d hd)
    refine ⟨.tuple ps, ?_, g2, ?_⟩
    · show (pyDs ds).map PyData.tuple = _
      rw [g1]; rfl
    · show PyData.depthAll ps + 1 ≤ n + 1
      omega
  | n + 1, .lst ds, h => by
    obtain ⟨ps, g1, g2, g3, g4⟩ := plain_pys (n := n) ds fun d hd => Plain.py n d (h d hd)
    refine ⟨.list ps, ?_, g2, ?_⟩
    · show (pyDs ds).map PyData.list = _
      rw [g1]; rfl
    · show PyData.depthAll ps + 1 ≤ n + 1
      omega
  | 0, .tup _, h => False.elim h
  | 0, .lst _, h => False.elim h
  | 0, .ref _, h => False.elim h
  | _ + 1, .ref _, h => False.elim h
theorem cmp_eq_nil {M : Mm} {ds : List Dt} (h : ∀ d, d ∈ ds → Plain 60 d) : cmpD .eq (.lst ds) (.lst []) M = some ds.isEmpty := by
  obtain ⟨ps, g1, g2, g3, g4⟩ := plain_pys (n := 60) ds fun d hd => Plain.py 60 d (h d hd)
  show (match (pyDs ds).map PyData.list, some (PyData.list []) with
    | some d, some e => if SeqAt.shaped d = true ∧ SeqAt.shaped e = true then some (PyData.eqv d e) else none
    | _, _ => none) = _
  rw [g1]
  have e1 : SeqAt.shaped (.list ps) = true := by
    show ((PyData.list ps).canLay0 && decide ((PyData.list ps).depth ≤ 64)) = true
    have : (PyData.list ps).depth ≤ 64 := by
      show PyData.depthAll ps + 1 ≤ 64
      omega
    rw [decide_eq_true this, Bool.and_true]
    exact g2
  show (if SeqAt.shaped (.list ps) = true ∧ SeqAt.shaped (.list []) = true then some (PyData.eqv (.list ps) (.list [])) else none) = _
  rw [if_pos ⟨e1, by decide +kernel⟩]
  cases ps with
  | nil =>
    cases ds with
    | nil => rfl
    | cons _ _ => cases g4
  | cons p ps =>
    cases ds with
    | nil => cases g4
    | cons _ _ => rfl
def b_part_4 : Sms := .cons (.ret (.tup (.cons (.var 1) (.cons (.bi (.min2) (.cons (.call 6 (.cons (.var 0) (.cons (.var 1) (.nil)))) (.cons (.call 6 (.cons (.var 0) (.cons (.bin .sub (.bin .add (.var 1) (.var 2)) (.int 1)) (.nil)))) (.nil)))) (.cons (.var 2) (.cons (.ix (.var 0) (.int 3)) (.nil))))))) .nil
def b_part_3 : Sms := .cons (.never) .nil
def b_part_2 : Sms := .cons (.if_ (.any (.cons (.cmp .is_ (.call 6 (.cons (.var 0) (.cons (.var 1) (.nil)))) (.non)) (.cons (.cmp .is_ (.call 6 (.cons (.var 0) (.cons (.bin .sub (.bin .add (.var 1) (.var 2)) (.int 1)) (.nil)))) (.non)) (.nil)))) (b_part_3) (.nil)) b_part_4
def b_part_1 : Sms := .cons (.never) .nil
def b_part_0 : Sms := .cons (.if_ (.any (.cons (.val (.isi (.var 1) [.ty "bool"] false)) (.cons (.val (.isi (.var 2) [.ty "bool"] false)) (.cons (.cmp .lt (.var 2) (.int 1)) (.nil))))) (b_part_1) (.nil)) b_part_2
abbrev b_part : Sms := b_part_0
abbrev n_part : List Str := ["mating", "at", "many"]
def b_moved_0 : Sms := .cons (.ret (.tup (.cons (.bin .add (.ix (.var 0) (.int 0)) (.var 1)) (.cons (.bin .add (.ix (.var 0) (.int 1)) (.var 1)) (.cons (.ix (.var 0) (.int 2)) (.cons (.ix (.var 0) (.int 3)) (.nil))))))) .nil
abbrev b_moved : Sms := b_moved_0
abbrev n_moved : List Str := ["mating", "by"]
def b_swelled_0 : Sms := .cons (.ret (.tup (.cons (.bin .mul (.ix (.var 0) (.int 0)) (.var 1)) (.cons (.bin .mul (.ix (.var 0) (.int 1)) (.var 1)) (.cons (.bin .mul (.ix (.var 0) (.int 2)) (.var 1)) (.cons (.ix (.var 0) (.int 3)) (.nil))))))) .nil
abbrev b_swelled : Sms := b_swelled_0
abbrev n_swelled : List Str := ["mating", "times"]
def b_clipped_7 : Sms := .cons (.ret (.call 7 (.cons (.var 0) (.cons (.bin .add (.var 2) (.var 6)) (.cons (.bin .sub (.var 7) (.var 6)) (.nil)))))) .nil
def b_clipped_6 : Sms := .cons (.ret (.non)) .nil
def b_clipped_5 : Sms := .cons (.if_ (.cmp .ge (.var 6) (.var 7)) (b_clipped_6) (.nil)) b_clipped_7
def b_clipped_4 : Sms := .cons (.asg (.name 7) (.bi (.min2) (.cons (.var 7) (.cons (.bin .sub (.var 1) (.var 3)) (.nil))))) .nil
def b_clipped_3 : Sms := .cons (.asg (.name 6) (.bi (.max2) (.cons (.int 0) (.cons (.bin .sub (.bin .add (.var 3) (.var 4)) (.var 1)) (.nil))))) .nil
def b_clipped_2 : Sms := .cons (.if_ (.cmp .eq (.var 5) (.int 1)) (b_clipped_3) (b_clipped_4)) b_clipped_5
def b_clipped_1 : Sms := .cons (.par 6 7 (.int 0) (.bi (.min2) (.cons (.var 4) (.cons (.bin .sub (.var 1) (.var 2)) (.nil))))) b_clipped_2
def b_clipped_0 : Sms := .cons (.asg (.tup (.cons (.name 2) (.cons (.name 3) (.cons (.name 4) (.cons (.name 5) (.nil)))))) (.var 0)) b_clipped_1
abbrev b_clipped : Sms := b_clipped_0
abbrev n_clipped : List Str := ["mating", "length", "one", "other", "many", "turned", "low", "high"]
def b__law_scaled_0 : Sms := .cons (.ret (.lc false [("_law_one", 2), ("_law_other", 3), ("_law_many", 4), ("_law_flips", 5)] (.tup (.cons (.name 2) (.cons (.name 3) (.cons (.name 4) (.cons (.name 5) (.nil)))))) (.seq (.var 0)) (.nil) (.tup (.cons (.bin .mul (.var 2) (.var 1)) (.cons (.bin .mul (.var 3) (.var 1)) (.cons (.bin .mul (.var 4) (.var 1)) (.cons (.var 5) (.nil)))))))) .nil
abbrev b__law_scaled : Sms := b__law_scaled_0
abbrev n__law_scaled : List Str := ["_law_matings", "_law_times", "_law_one", "_law_other", "_law_many", "_law_flips"]
def b__law_cut_far_10 : Sms := .cons (.ret (.call 53 (.cons (.call 9 (.cons (.var 1) (.cons (.var 3) (.nil)))) (.cons (.tup (.cons (.var 4) (.cons (.var 5) (.cons (.var 6) (.cons (.var 7) (.nil)))))) (.nil))))) .nil
def b__law_cut_far_9 : Sms := .cons (.ret (.bl false)) .nil
def b__law_cut_far_8 : Sms := .cons (.if_ (.not_ (.val (.call 53 (.cons (.call 10 (.cons (.tup (.cons (.var 4) (.cons (.var 5) (.cons (.var 6) (.cons (.var 7) (.nil)))))) (.cons (.var 8) (.nil)))) (.cons (.ite (.cmp .lt (.var 9) (.var 10)) (.var 11) (.non)) (.nil)))))) (b__law_cut_far_9) (.nil)) b__law_cut_far_10
def b__law_cut_far_7 : Sms := .cons (.asg (.name 11) (.tup (.cons (.bin .add (.var 4) (.var 9)) (.cons (.ite (.cmp .eq (.var 7) (.int 1)) (.bin .sub (.bin .add (.var 5) (.var 6)) (.var 10)) (.bin .add (.var 5) (.var 9))) (.cons (.bin .sub (.var 10) (.var 9)) (.cons (.var 7) (.nil))))))) b__law_cut_far_8
def b__law_cut_far_6 : Sms := .cons (.asg (.name 10) (.bi (.min2) (.cons (.var 10) (.cons (.bin .sub (.var 8) (.var 5)) (.nil))))) .nil
def b__law_cut_far_5 : Sms := .cons (.asg (.name 9) (.bi (.max2) (.cons (.int 0) (.cons (.bin .sub (.bin .add (.var 5) (.var 6)) (.var 8)) (.nil))))) .nil
def b__law_cut_far_4 : Sms := .cons (.if_ (.cmp .eq (.var 7) (.int 1)) (b__law_cut_far_5) (b__law_cut_far_6)) b__law_cut_far_7
def b__law_cut_far_3 : Sms := .cons (.par 9 10 (.int 0) (.bi (.min2) (.cons (.var 6) (.cons (.bin .sub (.var 8) (.var 4)) (.nil))))) b__law_cut_far_4
def b__law_cut_far_2 : Sms := .cons (.asg (.name 8) (.ix (.lst false (.cons (.call 51 (.cons (.var 0) (.cons (.bin .add (.bin .mul (.var 2) (.var 3)) (.int 1)) (.nil)))) (.cons (.bin .add (.var 4) (.var 6)) (.cons (.bin .add (.var 5) (.var 6)) (.cons (.bin .sub (.bin .add (.var 5) (.var 6)) (.int 1)) (.nil)))))) (.call 51 (.cons (.var 0) (.cons (.int 4) (.nil)))))) b__law_cut_far_3
def b__law_cut_far_1 : Sms := .cons (.asg (.tup (.cons (.name 4) (.cons (.name 5) (.cons (.name 6) (.cons (.name 7) (.nil)))))) (.ix (.call 69 (.cons (.lst false (.cons (.var 1) (.nil))) (.cons (.var 3) (.nil)))) (.int 0))) b__law_cut_far_2
def b__law_cut_far_0 : Sms := .cons (.asg (.name 3) (.bin .add (.int 1) (.call 51 (.cons (.var 0) (.cons (.bin .pow (.int 10) (.int 15)) (.nil)))))) b__law_cut_far_1
abbrev b__law_cut_far : Sms := b__law_cut_far_0
abbrev n__law_cut_far : List Str := ["_law_draw", "_law_mating_here", "_law_length", "_law_times", "_law_one", "_law_other", "_law_many", "_law_flips", "_law_cut", "_law_low", "_law_high", "_law_due"]
/-- where a part of a mating leads -/
def partB (a b m t at_ n : Int) : Int := if t = 1 then b + m - n - (at_ - a) else b + (at_ - a)
def PartOk (W : Wf) : Prop := ∀ (a b m t at_ n : Int) M q x, a ≤ at_ → at_ + n ≤ a + m → 1 ≤ n → q (mtg at_ (partB a b m t at_ n) n t) M → W.run [mtg a b m t, .int at_, .int n] M q x
theorem part_ok (G : Gt) (hl : LedOk (G.call 6)) : PartOk (wfB G n_part 3 b_part) := by
  intro a b m t at_ n M q x h1 h2 h3 h
  refine ⟨rfl, ?_⟩
  have e0 : startR n_part [mtg a b m t, .int at_, .int n] = [some (mtg a b m t), some (.int at_), some (.int n)] := rfl
  rw [e0]
  generalize hk : bodyK q x = k
  have hrt : ∀ d, k.rt d = q d := by intro d; rw [← hk]; rfl
  have l1 : ledI a b m t at_ = .int (if t = 1 then b + m - 1 - (at_ - a) else b + at_ - a) := by
    unfold ledI
    rw [if_pos (by omega)]
    split <;> rfl
  have l2 : ledI a b m t (at_ + n - 1) = .int (if t = 1 then b + m - 1 - (at_ + n - 1 - a) else b + (at_ + n - 1) - a) := by
    unfold ledI
    rw [if_pos (by omega)]
    split <;> rfl
  have h3' : ¬ n < 1 := by omega
  unfold b_part b_part_0
  rw [wpSs_cons]
  simp only [Int.reduceNeg, Int.reduceAdd, Int.reduceSub, Int.reduceMul, cpow_10, cpow_2, Int.reduceLE, Int.reduceLT, Int.reduceToNat, Int.reducePow, mset_same, mset_mset, Tgs.len, List.getElem?_cons_zero, List.getElem?_cons_succ, List.set_cons_zero, List.set_cons_succ, List.getElem?_nil, Option.some.injEq, exists_eq_left', exists_eq_left, true_and, and_true, if_true, if_false, Bool.false_eq_true, reduceCtorEq, Dt.int.injEq, Dt.bl.injEq, Dt.str.injEq, Dt.lst.injEq, Dt.tup.injEq, Dt.ref.injEq, decide_eq_true_eq, List.length_cons, List.length_nil, Nat.zero_add, Nat.reduceAdd, Option.map_some, Bool.not_true, Bool.not_false, atI_0, atI_1, atI_2, atI_3, atI_4, ixN_0, ixN_1, ixN_2, ixN_3, ixN_4, w_var, w_int, w_str, w_bl, w_non, w_glob, w_bin, w_neg, w_cmp, w_cmp2, w_bop, w_b1, w_b2, w_not, w_ite, w_tup, w_lst, w_ix, w_sl, w_call, w_bi, w_mt, w_isi, w_lc, w_frz, w_es0, w_es1, w_o0, w_o1, w_tval, w_tcmp, w_tcmp2, w_tnot, w_tall, w_tany, w_all0, w_all1, w_all2, w_any0, w_any1, w_any2, it_t, it_l, w_seq, w_rng1, w_rng2, w_gn, w_gt, w_gi, w_gs0, w_gs1, s_asg, s_asgC, s_par, s_aug, s_expr, s_if, s_for, s_while, s_ret, s_retN, s_brk, s_cont, s_pass, s_nil, frz_l, frz_m, bin_add, bin_adds, bin_sub, bin_mul, bin_fdiv, bin_mod, bin_pow, bin_xor, cmp_lt, cmp_le, cmp_gt, cmp_ge, cmp_eqi, cmp_eqs, cmp_eqb, cmp_nei, cmp_nes, cmp_neb, cmp_is0, cmp_is1, cmp_is2, cmp_is3, cmp_is4, cmp_is5, cmp_is6, cmp_isn0, cmp_isn1, cmp_isn2, cmp_isn3, cmp_isn4, cmp_isn5, cmp_in, cmp_notin, bi_lens, bi_lent, bi_lenl, bi_min, bi_max, bi_abs, bi_listT, bi_listL, bi_tupT, bi_tupL, bi_maxL, bi_minL, bi_sumL, bi_anyL, bi_allL, bi_sorted, seqL_l, items_l, items_t, items_m, w_gl, new_f, new_t, ix_t, ix_l, tru_b, tru_n, tru_i, tru_l, tru_t, isi_b, isi_bi, isi_ii, isi_ib, isi_is, isi_it, isi_il, isi_sb, isi_si, isi_ss, isi_tb, isi_ti, isi_ts, isi_tt, isi_tl, isi_lb, isi_li, isi_ls, isi_lt, isi_ll, isi_nb, isi_ni, isi_ns, isi_nt, isi_nl, ix_m, tru_m, bi_lenm, seqL_m, mt_appm, mt_popm, mtOk_appm, mtOk_popm, it_m, ixSt_m, h3', decide_false]
  unfold b_part_2
  rw [wpSs_cons]
  simp only [Int.reduceNeg, Int.reduceAdd, Int.reduceSub, Int.reduceMul, cpow_10, cpow_2, Int.reduceLE, Int.reduceLT, Int.reduceToNat, Int.reducePow, mset_same, mset_mset, Tgs.len, List.getElem?_cons_zero, List.getElem?_cons_succ, List.set_cons_zero, List.set_cons_succ, List.getElem?_nil, Option.some.injEq, exists_eq_left', exists_eq_left, true_and, and_true, if_true, if_false, Bool.false_eq_true, reduceCtorEq, Dt.int.injEq, Dt.bl.injEq, Dt.str.injEq, Dt.lst.injEq, Dt.tup.injEq, Dt.ref.injEq, decide_eq_true_eq, List.length_cons, List.length_nil, Nat.zero_add, Nat.reduceAdd, Option.map_some, Bool.not_true, Bool.not_false, atI_0, atI_1, atI_2, atI_3, atI_4, ixN_0, ixN_1, ixN_2, ixN_3, ixN_4, w_var, w_int, w_str, w_bl, w_non, w_glob, w_bin, w_neg, w_cmp, w_cmp2, w_bop, w_b1, w_b2, w_not, w_ite, w_tup, w_lst, w_ix, w_sl, w_call, w_bi, w_mt, w_isi, w_lc, w_frz, w_es0, w_es1, w_o0, w_o1, w_tval, w_tcmp, w_tcmp2, w_tnot, w_tall, w_tany, w_all0, w_all1, w_all2, w_any0, w_any1, w_any2, it_t, it_l, w_seq, w_rng1, w_rng2, w_gn, w_gt, w_gi, w_gs0, w_gs1, s_asg, s_asgC, s_par, s_aug, s_expr, s_if, s_for, s_while, s_ret, s_retN, s_brk, s_cont, s_pass, s_nil, frz_l, frz_m, bin_add, bin_adds, bin_sub, bin_mul, bin_fdiv, bin_mod, bin_pow, bin_xor, cmp_lt, cmp_le, cmp_gt, cmp_ge, cmp_eqi, cmp_eqs, cmp_eqb, cmp_nei, cmp_nes, cmp_neb, cmp_is0, cmp_is1, cmp_is2, cmp_is3, cmp_is4, cmp_is5, cmp_is6, cmp_isn0, cmp_isn1, cmp_isn2, cmp_isn3, cmp_isn4, cmp_isn5, cmp_in, cmp_notin, bi_lens, bi_lent, bi_lenl, bi_min, bi_max, bi_abs, bi_listT, bi_listL, bi_tupT, bi_tupL, bi_maxL, bi_minL, bi_sumL, bi_anyL, bi_allL, bi_sorted, seqL_l, items_l, items_t, items_m, w_gl, new_f, new_t, ix_t, ix_l, tru_b, tru_n, tru_i, tru_l, tru_t, isi_b, isi_bi, isi_ii, isi_ib, isi_is, isi_it, isi_il, isi_sb, isi_si, isi_ss, isi_tb, isi_ti, isi_ts, isi_tt, isi_tl, isi_lb, isi_li, isi_ls, isi_lt, isi_ll, isi_nb, isi_ni, isi_ns, isi_nt, isi_nl, ix_m, tru_m, bi_lenm, seqL_m, mt_appm, mt_popm, mtOk_appm, mtOk_popm, it_m, ixSt_m]
  refine hl a b m t _ _ _ _ ?_
  simp only [Int.reduceNeg, Int.reduceAdd, Int.reduceSub, Int.reduceMul, cpow_10, cpow_2, Int.reduceLE, Int.reduceLT, Int.reduceToNat, Int.reducePow, mset_same, mset_mset, Tgs.len, List.getElem?_cons_zero, List.getElem?_cons_succ, List.set_cons_zero, List.set_cons_succ, List.getElem?_nil, Option.some.injEq, exists_eq_left', exists_eq_left, true_and, and_true, if_true, if_false, Bool.false_eq_true, reduceCtorEq, Dt.int.injEq, Dt.bl.injEq, Dt.str.injEq, Dt.lst.injEq, Dt.tup.injEq, Dt.ref.injEq, decide_eq_true_eq, List.length_cons, List.length_nil, Nat.zero_add, Nat.reduceAdd, Option.map_some, Bool.not_true, Bool.not_false, atI_0, atI_1, atI_2, atI_3, atI_4, ixN_0, ixN_1, ixN_2, ixN_3, ixN_4, w_var, w_int, w_str, w_bl, w_non, w_glob, w_bin, w_neg, w_cmp, w_cmp2, w_bop, w_b1, w_b2, w_not, w_ite, w_tup, w_lst, w_ix, w_sl, w_call, w_bi, w_mt, w_isi, w_lc, w_frz, w_es0, w_es1, w_o0, w_o1, w_tval, w_tcmp, w_tcmp2, w_tnot, w_tall, w_tany, w_all0, w_all1, w_all2, w_any0, w_any1, w_any2, it_t, it_l, w_seq, w_rng1, w_rng2, w_gn, w_gt, w_gi, w_gs0, w_gs1, s_asg, s_asgC, s_par, s_aug, s_expr, s_if, s_for, s_while, s_ret, s_retN, s_brk, s_cont, s_pass, s_nil, frz_l, frz_m, bin_add, bin_adds, bin_sub, bin_mul, bin_fdiv, bin_mod, bin_pow, bin_xor, cmp_lt, cmp_le, cmp_gt, cmp_ge, cmp_eqi, cmp_eqs, cmp_eqb, cmp_nei, cmp_nes, cmp_neb, cmp_is0, cmp_is1, cmp_is2, cmp_is3, cmp_is4, cmp_is5, cmp_is6, cmp_isn0, cmp_isn1, cmp_isn2, cmp_isn3, cmp_isn4, cmp_isn5, cmp_in, cmp_notin, bi_lens, bi_lent, bi_lenl, bi_min, bi_max, bi_abs, bi_listT, bi_listL, bi_tupT, bi_tupL, bi_maxL, bi_minL, bi_sumL, bi_anyL, bi_allL, bi_sorted, seqL_l, items_l, items_t, items_m, w_gl, new_f, new_t, ix_t, ix_l, tru_b, tru_n, tru_i, tru_l, tru_t, isi_b, isi_bi, isi_ii, isi_ib, isi_is, isi_it, isi_il, isi_sb, isi_si, isi_ss, isi_tb, isi_ti, isi_ts, isi_tt, isi_tl, isi_lb, isi_li, isi_ls, isi_lt, isi_ll, isi_nb, isi_ni, isi_ns, isi_nt, isi_nl, ix_m, tru_m, bi_lenm, seqL_m, mt_appm, mt_popm, mtOk_appm, mtOk_popm, it_m, ixSt_m, l1]
  refine hl a b m t _ _ _ _ ?_
  simp only [Int.reduceNeg, Int.reduceAdd, Int.reduceSub, Int.reduceMul, cpow_10, cpow_2, Int.reduceLE, Int.reduceLT, Int.reduceToNat, Int.reducePow, mset_same, mset_mset, Tgs.len, List.getElem?_cons_zero, List.getElem?_cons_succ, List.set_cons_zero, List.set_cons_succ, List.getElem?_nil, Option.some.injEq, exists_eq_left', exists_eq_left, true_and, and_true, if_true, if_false, Bool.false_eq_true, reduceCtorEq, Dt.int.injEq, Dt.bl.injEq, Dt.str.injEq, Dt.lst.injEq, Dt.tup.injEq, Dt.ref.injEq, decide_eq_true_eq, List.length_cons, List.length_nil, Nat.zero_add, Nat.reduceAdd, Option.map_some, Bool.not_true, Bool.not_false, atI_0, atI_1, atI_2, atI_3, atI_4, ixN_0, ixN_1, ixN_2, ixN_3, ixN_4, w_var, w_int, w_str, w_bl, w_non, w_glob, w_bin, w_neg, w_cmp, w_cmp2, w_bop, w_b1, w_b2, w_not, w_ite, w_tup, w_lst, w_ix, w_sl, w_call, w_bi, w_mt, w_isi, w_lc, w_frz, w_es0, w_es1, w_o0, w_o1, w_tval, w_tcmp, w_tcmp2, w_tnot, w_tall, w_tany, w_all0, w_all1, w_all2, w_any0, w_any1, w_any2, it_t, it_l, w_seq, w_rng1, w_rng2, w_gn, w_gt, w_gi, w_gs0, w_gs1, s_asg, s_asgC, s_par, s_aug, s_expr, s_if, s_for, s_while, s_ret, s_retN, s_brk, s_cont, s_pass, s_nil, frz_l, frz_m, bin_add, bin_adds, bin_sub, bin_mul, bin_fdiv, bin_mod, bin_pow, bin_xor, cmp_lt, cmp_le, cmp_gt, cmp_ge, cmp_eqi, cmp_eqs, cmp_eqb, cmp_nei, cmp_nes, cmp_neb, cmp_is0, cmp_is1, cmp_is2, cmp_is3, cmp_is4, cmp_is5, cmp_is6, cmp_isn0, cmp_isn1, cmp_isn2, cmp_isn3, cmp_isn4, cmp_isn5, cmp_in, cmp_notin, bi_lens, bi_lent, bi_lenl, bi_min, bi_max, bi_abs, bi_listT, bi_listL, bi_tupT, bi_tupL, bi_maxL, bi_minL, bi_sumL, bi_anyL, bi_allL, bi_sorted, seqL_l, items_l, items_t, items_m, w_gl, new_f, new_t, ix_t, ix_l, tru_b, tru_n, tru_i, tru_l, tru_t, isi_b, isi_bi, isi_ii, isi_ib, isi_is, isi_it, isi_il, isi_sb, isi_si, isi_ss, isi_tb, isi_ti, isi_ts, isi_tt, isi_tl, isi_lb, isi_li, isi_ls, isi_lt, isi_ll, isi_nb, isi_ni, isi_ns, isi_nt, isi_nl, ix_m, tru_m, bi_lenm, seqL_m, mt_appm, mt_popm, mtOk_appm, mtOk_popm, it_m, ixSt_m, l2]
  unfold b_part_4
  rw [wpSs_cons]
  simp only [Int.reduceNeg, Int.reduceAdd, Int.reduceSub, Int.reduceMul, cpow_10, cpow_2, Int.reduceLE, Int.reduceLT, Int.reduceToNat, Int.reducePow, mset_same, mset_mset, Tgs.len, List.getElem?_cons_zero, List.getElem?_cons_succ, List.set_cons_zero, List.set_cons_succ, List.getElem?_nil, Option.some.injEq, exists_eq_left', exists_eq_left, true_and, and_true, if_true, if_false, Bool.false_eq_true, reduceCtorEq, Dt.int.injEq, Dt.bl.injEq, Dt.str.injEq, Dt.lst.injEq, Dt.tup.injEq, Dt.ref.injEq, decide_eq_true_eq, List.length_cons, List.length_nil, Nat.zero_add, Nat.reduceAdd, Option.map_some, Bool.not_true, Bool.not_false, atI_0, atI_1, atI_2, atI_3, atI_4, ixN_0, ixN_1, ixN_2, ixN_3, ixN_4, w_var, w_int, w_str, w_bl, w_non, w_glob, w_bin, w_neg, w_cmp, w_cmp2, w_bop, w_b1, w_b2, w_not, w_ite, w_tup, w_lst, w_ix, w_sl, w_call, w_bi, w_mt, w_isi, w_lc, w_frz, w_es0, w_es1, w_o0, w_o1, w_tval, w_tcmp, w_tcmp2, w_tnot, w_tall, w_tany, w_all0, w_all1, w_all2, w_any0, w_any1, w_any2, it_t, it_l, w_seq, w_rng1, w_rng2, w_gn, w_gt, w_gi, w_gs0, w_gs1, s_asg, s_asgC, s_par, s_aug, s_expr, s_if, s_for, s_while, s_ret, s_retN, s_brk, s_cont, s_pass, s_nil, frz_l, frz_m, bin_add, bin_adds, bin_sub, bin_mul, bin_fdiv, bin_mod, bin_pow, bin_xor, cmp_lt, cmp_le, cmp_gt, cmp_ge, cmp_eqi, cmp_eqs, cmp_eqb, cmp_nei, cmp_nes, cmp_neb, cmp_is0, cmp_is1, cmp_is2, cmp_is3, cmp_is4, cmp_is5, cmp_is6, cmp_isn0, cmp_isn1, cmp_isn2, cmp_isn3, cmp_isn4, cmp_isn5, cmp_in, cmp_notin, bi_lens, bi_lent, bi_lenl, bi_min, bi_max, bi_abs, bi_listT, bi_listL, bi_tupT, bi_tupL, bi_maxL, bi_minL, bi_sumL, bi_anyL, bi_allL, bi_sorted, seqL_l, items_l, items_t, items_m, w_gl, new_f, new_t, ix_t, ix_l, tru_b, tru_n, tru_i, tru_l, tru_t, isi_b, isi_bi, isi_ii, isi_ib, isi_is, isi_it, isi_il, isi_sb, isi_si, isi_ss, isi_tb, isi_ti, isi_ts, isi_tt, isi_tl, isi_lb, isi_li, isi_ls, isi_lt, isi_ll, isi_nb, isi_ni, isi_ns, isi_nt, isi_nl, ix_m, tru_m, bi_lenm, seqL_m, mt_appm, mt_popm, mtOk_appm, mtOk_popm, it_m, ixSt_m]
  refine hl a b m t _ _ _ _ ?_
  simp only [Int.reduceNeg, Int.reduceAdd, Int.reduceSub, Int.reduceMul, cpow_10, cpow_2, Int.reduceLE, Int.reduceLT, Int.reduceToNat, Int.reducePow, mset_same, mset_mset, Tgs.len, List.getElem?_cons_zero, List.getElem?_cons_succ, List.set_cons_zero, List.set_cons_succ, List.getElem?_nil, Option.some.injEq, exists_eq_left', exists_eq_left, true_and, and_true, if_true, if_false, Bool.false_eq_true, reduceCtorEq, Dt.int.injEq, Dt.bl.injEq, Dt.str.injEq, Dt.lst.injEq, Dt.tup.injEq, Dt.ref.injEq, decide_eq_true_eq, List.length_cons, List.length_nil, Nat.zero_add, Nat.reduceAdd, Option.map_some, Bool.not_true, Bool.not_false, atI_0, atI_1, atI_2, atI_3, atI_4, ixN_0, ixN_1, ixN_2, ixN_3, ixN_4, w_var, w_int, w_str, w_bl, w_non, w_glob, w_bin, w_neg, w_cmp, w_cmp2, w_bop, w_b1, w_b2, w_not, w_ite, w_tup, w_lst, w_ix, w_sl, w_call, w_bi, w_mt, w_isi, w_lc, w_frz, w_es0, w_es1, w_o0, w_o1, w_tval, w_tcmp, w_tcmp2, w_tnot, w_tall, w_tany, w_all0, w_all1, w_all2, w_any0, w_any1, w_any2, it_t, it_l, w_seq, w_rng1, w_rng2, w_gn, w_gt, w_gi, w_gs0, w_gs1, s_asg, s_asgC, s_par, s_aug, s_expr, s_if, s_for, s_while, s_ret, s_retN, s_brk, s_cont, s_pass, s_nil, frz_l, frz_m, bin_add, bin_adds, bin_sub, bin_mul, bin_fdiv, bin_mod, bin_pow, bin_xor, cmp_lt, cmp_le, cmp_gt, cmp_ge, cmp_eqi, cmp_eqs, cmp_eqb, cmp_nei, cmp_nes, cmp_neb, cmp_is0, cmp_is1, cmp_is2, cmp_is3, cmp_is4, cmp_is5, cmp_is6, cmp_isn0, cmp_isn1, cmp_isn2, cmp_isn3, cmp_isn4, cmp_isn5, cmp_in, cmp_notin, bi_lens, bi_lent, bi_lenl, bi_min, bi_max, bi_abs, bi_listT, bi_listL, bi_tupT, bi_tupL, bi_maxL, bi_minL, bi_sumL, bi_anyL, bi_allL, bi_sorted, seqL_l, items_l, items_t, items_m, w_gl, new_f, new_t, ix_t, ix_l, tru_b, tru_n, tru_i, tru_l, tru_t, isi_b, isi_bi, isi_ii, isi_ib, isi_is, isi_it, isi_il, isi_sb, isi_si, isi_ss, isi_tb, isi_ti, isi_ts, isi_tt, isi_tl, isi_lb, isi_li, isi_ls, isi_lt, isi_ll, isi_nb, isi_ni, isi_ns, isi_nt, isi_nl, ix_m, tru_m, bi_lenm, seqL_m, mt_appm, mt_popm, mtOk_appm, mtOk_popm, it_m, ixSt_m, l1]
  refine hl a b m t _ _ _ _ ?_
  simp only [Int.reduceNeg, Int.reduceAdd, Int.reduceSub, Int.reduceMul, cpow_10, cpow_2, Int.reduceLE, Int.reduceLT, Int.reduceToNat, Int.reducePow, mset_same, mset_mset, Tgs.len, List.getElem?_cons_zero, List.getElem?_cons_succ, List.set_cons_zero, List.set_cons_succ, List.getElem?_nil, Option.some.injEq, exists_eq_left', exists_eq_left, true_and, and_true, if_true, if_false, Bool.false_eq_true, reduceCtorEq, Dt.int.injEq, Dt.bl.injEq, Dt.str.injEq, Dt.lst.injEq, Dt.tup.injEq, Dt.ref.injEq, decide_eq_true_eq, List.length_cons, List.length_nil, Nat.zero_add, Nat.reduceAdd, Option.map_some, Bool.not_true, Bool.not_false, atI_0, atI_1, atI_2, atI_3, atI_4, ixN_0, ixN_1, ixN_2, ixN_3, ixN_4, w_var, w_int, w_str, w_bl, w_non, w_glob, w_bin, w_neg, w_cmp, w_cmp2, w_bop, w_b1, w_b2, w_not, w_ite, w_tup, w_lst, w_ix, w_sl, w_call, w_bi, w_mt, w_isi, w_lc, w_frz, w_es0, w_es1, w_o0, w_o1, w_tval, w_tcmp, w_tcmp2, w_tnot, w_tall, w_tany, w_all0, w_all1, w_all2, w_any0, w_any1, w_any2, it_t, it_l, w_seq, w_rng1, w_rng2, w_gn, w_gt, w_gi, w_gs0, w_gs1, s_asg, s_asgC, s_par, s_aug, s_expr, s_if, s_for, s_while, s_ret, s_retN, s_brk, s_cont, s_pass, s_nil, frz_l, frz_m, bin_add, bin_adds, bin_sub, bin_mul, bin_fdiv, bin_mod, bin_pow, bin_xor, cmp_lt, cmp_le, cmp_gt, cmp_ge, cmp_eqi, cmp_eqs, cmp_eqb, cmp_nei, cmp_nes, cmp_neb, cmp_is0, cmp_is1, cmp_is2, cmp_is3, cmp_is4, cmp_is5, cmp_is6, cmp_isn0, cmp_isn1, cmp_isn2, cmp_isn3, cmp_isn4, cmp_isn5, cmp_in, cmp_notin, bi_lens, bi_lent, bi_lenl, bi_min, bi_max, bi_abs, bi_listT, bi_listL, bi_tupT, bi_tupL, bi_maxL, bi_minL, bi_sumL, bi_anyL, bi_allL, bi_sorted, seqL_l, items_l, items_t, items_m, w_gl, new_f, new_t, ix_t, ix_l, tru_b, tru_n, tru_i, tru_l, tru_t, isi_b, isi_bi, isi_ii, isi_ib, isi_is, isi_it, isi_il, isi_sb, isi_si, isi_ss, isi_tb, isi_ti, isi_ts, isi_tt, isi_tl, isi_lb, isi_li, isi_ls, isi_lt, isi_ll, isi_nb, isi_ni, isi_ns, isi_nt, isi_nl, ix_m, tru_m, bi_lenm, seqL_m, mt_appm, mt_popm, mtOk_appm, mtOk_popm, it_m, ixSt_m, l2, hrt]
  refine ⟨sz (by decide), ?_⟩
  have e : min (if t = 1 then b + m - 1 - (at_ - a) else b + at_ - a) (if t = 1 then b + m - 1 - (at_ + n - 1 - a) else b + (at_ + n - 1) - a) = partB a b m t at_ n := by
    unfold partB
    split <;> omega
  rw [e]
  exact h
def MovedOk (W : Wf) : Prop := ∀ (a b m t y : Int) M q x, q (mtg (a + y) (b + y) m t) M → W.run [mtg a b m t, .int y] M q x
theorem moved_ok (G : Gt) : MovedOk (wfB G n_moved 2 b_moved) := by
  intro a b m t y M q x h
  refine ⟨rfl, ?_⟩
  have e0 : startR n_moved [mtg a b m t, .int y] = [some (mtg a b m t), some (.int y)] := rfl
  rw [e0]
  generalize hk : bodyK q x = k
  have hrt : ∀ d, k.rt d = q d := by intro d; rw [← hk]; rfl
  unfold b_moved b_moved_0
  rw [wpSs_cons]
  simp only [Int.reduceNeg, Int.reduceAdd, Int.reduceSub, Int.reduceMul, cpow_10, cpow_2, Int.reduceLE, Int.reduceLT, Int.reduceToNat, Int.reducePow, mset_same, mset_mset, Tgs.len, List.getElem?_cons_zero, List.getElem?_cons_succ, List.set_cons_zero, List.set_cons_succ, List.getElem?_nil, Option.some.injEq, exists_eq_left', exists_eq_left, true_and, and_true, if_true, if_false, Bool.false_eq_true, reduceCtorEq, Dt.int.injEq, Dt.bl.injEq, Dt.str.injEq, Dt.lst.injEq, Dt.tup.injEq, Dt.ref.injEq, decide_eq_true_eq, List.length_cons, List.length_nil, Nat.zero_add, Nat.reduceAdd, Option.map_some, Bool.not_true, Bool.not_false, atI_0, atI_1, atI_2, atI_3, atI_4, ixN_0, ixN_1, ixN_2, ixN_3, ixN_4, w_var, w_int, w_str, w_bl, w_non, w_glob, w_bin, w_neg, w_cmp, w_cmp2, w_bop, w_b1, w_b2, w_not, w_ite, w_tup, w_lst, w_ix, w_sl, w_call, w_bi, w_mt, w_isi, w_lc, w_frz, w_es0, w_es1, w_o0, w_o1, w_tval, w_tcmp, w_tcmp2, w_tnot, w_tall, w_tany, w_all0, w_all1, w_all2, w_any0, w_any1, w_any2, it_t, it_l, w_seq, w_rng1, w_rng2, w_gn, w_gt, w_gi, w_gs0, w_gs1, s_asg, s_asgC, s_par, s_aug, s_expr, s_if, s_for, s_while, s_ret, s_retN, s_brk, s_cont, s_pass, s_nil, frz_l, frz_m, bin_add, bin_adds, bin_sub, bin_mul, bin_fdiv, bin_mod, bin_pow, bin_xor, cmp_lt, cmp_le, cmp_gt, cmp_ge, cmp_eqi, cmp_eqs, cmp_eqb, cmp_nei, cmp_nes, cmp_neb, cmp_is0, cmp_is1, cmp_is2, cmp_is3, cmp_is4, cmp_is5, cmp_is6, cmp_isn0, cmp_isn1, cmp_isn2, cmp_isn3, cmp_isn4, cmp_isn5, cmp_in, cmp_notin, bi_lens, bi_lent, bi_lenl, bi_min, bi_max, bi_abs, bi_listT, bi_listL, bi_tupT, bi_tupL, bi_maxL, bi_minL, bi_sumL, bi_anyL, bi_allL, bi_sorted, seqL_l, items_l, items_t, items_m, w_gl, new_f, new_t, ix_t, ix_l, tru_b, tru_n, tru_i, tru_l, tru_t, isi_b, isi_bi, isi_ii, isi_ib, isi_is, isi_it, isi_il, isi_sb, isi_si, isi_ss, isi_tb, isi_ti, isi_ts, isi_tt, isi_tl, isi_lb, isi_li, isi_ls, isi_lt, isi_ll, isi_nb, isi_ni, isi_ns, isi_nt, isi_nl, ix_m, tru_m, bi_lenm, seqL_m, mt_appm, mt_popm, mtOk_appm, mtOk_popm, it_m, ixSt_m, hrt]
  exact ⟨sz (by decide), h⟩
def SwelledOk (W : Wf) : Prop := ∀ (a b m t y : Int) M q x, -(2 ^ 64) < y → y < 2 ^ 64 → q (mtg (a * y) (b * y) (m * y) t) M → W.run [mtg a b m t, .int y] M q x
theorem swelled_ok (G : Gt) : SwelledOk (wfB G n_swelled 2 b_swelled) := by
  intro a b m t y M q x y0 y1 h
  refine ⟨rfl, ?_⟩
  have e0 : startR n_swelled [mtg a b m t, .int y] = [some (mtg a b m t), some (.int y)] := rfl
  rw [e0]
  generalize hk : bodyK q x = k
  have hrt : ∀ d, k.rt d = q d := by intro d; rw [← hk]; rfl
  unfold b_swelled b_swelled_0
  rw [wpSs_cons]
  simp only [Int.reduceNeg, Int.reduceAdd, Int.reduceSub, Int.reduceMul, cpow_10, cpow_2, Int.reduceLE, Int.reduceLT, Int.reduceToNat, Int.reducePow, mset_same, mset_mset, Tgs.len, List.getElem?_cons_zero, List.getElem?_cons_succ, List.set_cons_zero, List.set_cons_succ, List.getElem?_nil, Option.some.injEq, exists_eq_left', exists_eq_left, true_and, and_true, if_true, if_false, Bool.false_eq_true, reduceCtorEq, Dt.int.injEq, Dt.bl.injEq, Dt.str.injEq, Dt.lst.injEq, Dt.tup.injEq, Dt.ref.injEq, decide_eq_true_eq, List.length_cons, List.length_nil, Nat.zero_add, Nat.reduceAdd, Option.map_some, Bool.not_true, Bool.not_false, atI_0, atI_1, atI_2, atI_3, atI_4, ixN_0, ixN_1, ixN_2, ixN_3, ixN_4, w_var, w_int, w_str, w_bl, w_non, w_glob, w_bin, w_neg, w_cmp, w_cmp2, w_bop, w_b1, w_b2, w_not, w_ite, w_tup, w_lst, w_ix, w_sl, w_call, w_bi, w_mt, w_isi, w_lc, w_frz, w_es0, w_es1, w_o0, w_o1, w_tval, w_tcmp, w_tcmp2, w_tnot, w_tall, w_tany, w_all0, w_all1, w_all2, w_any0, w_any1, w_any2, it_t, it_l, w_seq, w_rng1, w_rng2, w_gn, w_gt, w_gi, w_gs0, w_gs1, s_asg, s_asgC, s_par, s_aug, s_expr, s_if, s_for, s_while, s_ret, s_retN, s_brk, s_cont, s_pass, s_nil, frz_l, frz_m, bin_add, bin_adds, bin_sub, bin_mul, bin_fdiv, bin_mod, bin_pow, bin_xor, cmp_lt, cmp_le, cmp_gt, cmp_ge, cmp_eqi, cmp_eqs, cmp_eqb, cmp_nei, cmp_nes, cmp_neb, cmp_is0, cmp_is1, cmp_is2, cmp_is3, cmp_is4, cmp_is5, cmp_is6, cmp_isn0, cmp_isn1, cmp_isn2, cmp_isn3, cmp_isn4, cmp_isn5, cmp_in, cmp_notin, bi_lens, bi_lent, bi_lenl, bi_min, bi_max, bi_abs, bi_listT, bi_listL, bi_tupT, bi_tupL, bi_maxL, bi_minL, bi_sumL, bi_anyL, bi_allL, bi_sorted, seqL_l, items_l, items_t, items_m, w_gl, new_f, new_t, ix_t, ix_l, tru_b, tru_n, tru_i, tru_l, tru_t, isi_b, isi_bi, isi_ii, isi_ib, isi_is, isi_it, isi_il, isi_sb, isi_si, isi_ss, isi_tb, isi_ti, isi_ts, isi_tt, isi_tl, isi_lb, isi_li, isi_ls, isi_lt, isi_ll, isi_nb, isi_ni, isi_ns, isi_nt, isi_nl, ix_m, tru_m, bi_lenm, seqL_m, mt_appm, mt_popm, mtOk_appm, mtOk_popm, it_m, ixSt_m, hrt]
  exact ⟨mul_r y0 y1, mul_r y0 y1, mul_r y0 y1, sz (by decide), h⟩
/-- a mating clipped -/
def clipLo (b m t L : Int) : Int := if t = 1 then max 0 (b + m - L) else 0
def clipHi (a b m t L : Int) : Int := if t = 1 then min m (L - a) else min (min m (L - a)) (L - b)
def clipD (a b m t L : Int) : Dt := if clipHi a b m t L ≤ clipLo b m t L then .non else
  mtg (a + clipLo b m t L) (if t = 1 then b + m - clipHi a b m t L else b + clipLo b m t L) (clipHi a b m t L - clipLo b m t L) t
def ClippedOk (W : Wf) : Prop := ∀ (a b m t L : Int) M q x, q (clipD a b m t L) M → W.run [mtg a b m t, .int L] M q x
def clipMid (a b m t L : Int) (M : Mm) : Rho → Mm → Prop := fun ρ' M' => ρ' = [some (mtg a b m t), some (.int L), some (.int a), some (.int b), some (.int m), some (.int t), some (.int (clipLo b m t L)), some (.int (clipHi a b m t L))] ∧ M = M'
theorem clipped_ok (G : Gt) (hp : PartOk (G.call 7)) : ClippedOk (wfB G n_clipped 2 b_clipped) := by
  intro a b m t L M q x h
  refine ⟨rfl, ?_⟩
  have e0 : startR n_clipped [mtg a b m t, .int L] = [some (mtg a b m t), some (.int L), none, none, none, none, none, none] := rfl
  rw [e0]
  generalize hk : bodyK q x = k
  have hrt : ∀ d, k.rt d = q d := by intro d; rw [← hk]; rfl
  unfold b_clipped b_clipped_0
  rw [wpSs_cons]
  simp only [Int.reduceNeg, Int.reduceAdd, Int.reduceSub, Int.reduceMul, cpow_10, cpow_2, Int.reduceLE, Int.reduceLT, Int.reduceToNat, Int.reducePow, mset_same, mset_mset, Tgs.len, List.getElem?_cons_zero, List.getElem?_cons_succ, List.set_cons_zero, List.set_cons_succ, List.getElem?_nil, Option.some.injEq, exists_eq_left', exists_eq_left, true_and, and_true, if_true, if_false, Bool.false_eq_true, reduceCtorEq, Dt.int.injEq, Dt.bl.injEq, Dt.str.injEq, Dt.lst.injEq, Dt.tup.injEq, Dt.ref.injEq, decide_eq_true_eq, List.length_cons, List.length_nil, Nat.zero_add, Nat.reduceAdd, Option.map_some, Bool.not_true, Bool.not_false, atI_0, atI_1, atI_2, atI_3, atI_4, ixN_0, ixN_1, ixN_2, ixN_3, ixN_4, w_var, w_int, w_str, w_bl, w_non, w_glob, w_bin, w_neg, w_cmp, w_cmp2, w_bop, w_b1, w_b2, w_not, w_ite, w_tup, w_lst, w_ix, w_sl, w_call, w_bi, w_mt, w_isi, w_lc, w_frz, w_es0, w_es1, w_o0, w_o1, w_tval, w_tcmp, w_tcmp2, w_tnot, w_tall, w_tany, w_all0, w_all1, w_all2, w_any0, w_any1, w_any2, it_t, it_l, w_seq, w_rng1, w_rng2, w_gn, w_gt, w_gi, w_gs0, w_gs1, s_asg, s_asgC, s_par, s_aug, s_expr, s_if, s_for, s_while, s_ret, s_retN, s_brk, s_cont, s_pass, s_nil, frz_l, frz_m, bin_add, bin_adds, bin_sub, bin_mul, bin_fdiv, bin_mod, bin_pow, bin_xor, cmp_lt, cmp_le, cmp_gt, cmp_ge, cmp_eqi, cmp_eqs, cmp_eqb, cmp_nei, cmp_nes, cmp_neb, cmp_is0, cmp_is1, cmp_is2, cmp_is3, cmp_is4, cmp_is5, cmp_is6, cmp_isn0, cmp_isn1, cmp_isn2, cmp_isn3, cmp_isn4, cmp_isn5, cmp_in, cmp_notin, bi_lens, bi_lent, bi_lenl, bi_min, bi_max, bi_abs, bi_listT, bi_listL, bi_tupT, bi_tupL, bi_maxL, bi_minL, bi_sumL, bi_anyL, bi_allL, bi_sorted, seqL_l, items_l, items_t, items_m, w_gl, new_f, new_t, ix_t, ix_l, tru_b, tru_n, tru_i, tru_l, tru_t, isi_b, isi_bi, isi_ii, isi_ib, isi_is, isi_it, isi_il, isi_sb, isi_si, isi_ss, isi_tb, isi_ti, isi_ts, isi_tt, isi_tl, isi_lb, isi_li, isi_ls, isi_lt, isi_ll, isi_nb, isi_ni, isi_ns, isi_nt, isi_nl, ix_m, tru_m, bi_lenm, seqL_m, mt_appm, mt_popm, mtOk_appm, mtOk_popm, it_m, ixSt_m]
  unfold b_clipped_1
  rw [wpSs_cons]
  simp only [Int.reduceNeg, Int.reduceAdd, Int.reduceSub, Int.reduceMul, cpow_10, cpow_2, Int.reduceLE, Int.reduceLT, Int.reduceToNat, Int.reducePow, mset_same, mset_mset, Tgs.len, List.getElem?_cons_zero, List.getElem?_cons_succ, List.set_cons_zero, List.set_cons_succ, List.getElem?_nil, Option.some.injEq, exists_eq_left', exists_eq_left, true_and, and_true, if_true, if_false, Bool.false_eq_true, reduceCtorEq, Dt.int.injEq, Dt.bl.injEq, Dt.str.injEq, Dt.lst.injEq, Dt.tup.injEq, Dt.ref.injEq, decide_eq_true_eq, List.length_cons, List.length_nil, Nat.zero_add, Nat.reduceAdd, Option.map_some, Bool.not_true, Bool.not_false, atI_0, atI_1, atI_2, atI_3, atI_4, ixN_0, ixN_1, ixN_2, ixN_3, ixN_4, w_var, w_int, w_str, w_bl, w_non, w_glob, w_bin, w_neg, w_cmp, w_cmp2, w_bop, w_b1, w_b2, w_not, w_ite, w_tup, w_lst, w_ix, w_sl, w_call, w_bi, w_mt, w_isi, w_lc, w_frz, w_es0, w_es1, w_o0, w_o1, w_tval, w_tcmp, w_tcmp2, w_tnot, w_tall, w_tany, w_all0, w_all1, w_all2, w_any0, w_any1, w_any2, it_t, it_l, w_seq, w_rng1, w_rng2, w_gn, w_gt, w_gi, w_gs0, w_gs1, s_asg, s_asgC, s_par, s_aug, s_expr, s_if, s_for, s_while, s_ret, s_retN, s_brk, s_cont, s_pass, s_nil, frz_l, frz_m, bin_add, bin_adds, bin_sub, bin_mul, bin_fdiv, bin_mod, bin_pow, bin_xor, cmp_lt, cmp_le, cmp_gt, cmp_ge, cmp_eqi, cmp_eqs, cmp_eqb, cmp_nei, cmp_nes, cmp_neb, cmp_is0, cmp_is1, cmp_is2, cmp_is3, cmp_is4, cmp_is5, cmp_is6, cmp_isn0, cmp_isn1, cmp_isn2, cmp_isn3, cmp_isn4, cmp_isn5, cmp_in, cmp_notin, bi_lens, bi_lent, bi_lenl, bi_min, bi_max, bi_abs, bi_listT, bi_listL, bi_tupT, bi_tupL, bi_maxL, bi_minL, bi_sumL, bi_anyL, bi_allL, bi_sorted, seqL_l, items_l, items_t, items_m, w_gl, new_f, new_t, ix_t, ix_l, tru_b, tru_n, tru_i, tru_l, tru_t, isi_b, isi_bi, isi_ii, isi_ib, isi_is, isi_it, isi_il, isi_sb, isi_si, isi_ss, isi_tb, isi_ti, isi_ts, isi_tt, isi_tl, isi_lb, isi_li, isi_ls, isi_lt, isi_ll, isi_nb, isi_ni, isi_ns, isi_nt, isi_nl, ix_m, tru_m, bi_lenm, seqL_m, mt_appm, mt_popm, mtOk_appm, mtOk_popm, it_m, ixSt_m]
  unfold b_clipped_2
  refine @wp_seq G _ _ k _ _ (clipMid a b m t L M) ?_ ?_
  · simp only [Int.reduceNeg, Int.reduceAdd, Int.reduceSub, Int.reduceMul, cpow_10, cpow_2, Int.reduceLE, Int.reduceLT, Int.reduceToNat, Int.reducePow, mset_same, mset_mset, Tgs.len, List.getElem?_cons_zero, List.getElem?_cons_succ, List.set_cons_zero, List.set_cons_succ, List.getElem?_nil, Option.some.injEq, exists_eq_left', exists_eq_left, true_and, and_true, if_true, if_false, Bool.false_eq_true, reduceCtorEq, Dt.int.injEq, Dt.bl.injEq, Dt.str.injEq, Dt.lst.injEq, Dt.tup.injEq, Dt.ref.injEq, decide_eq_true_eq, List.length_cons, List.length_nil, Nat.zero_add, Nat.reduceAdd, Option.map_some, Bool.not_true, Bool.not_false, atI_0, atI_1, atI_2, atI_3, atI_4, ixN_0, ixN_1, ixN_2, ixN_3, ixN_4, w_var, w_int, w_str, w_bl, w_non, w_glob, w_bin, w_neg, w_cmp, w_cmp2, w_bop, w_b1, w_b2, w_not, w_ite, w_tup, w_lst, w_ix, w_sl, w_call, w_bi, w_mt, w_isi, w_lc, w_frz, w_es0, w_es1, w_o0, w_o1, w_tval, w_tcmp, w_tcmp2, w_tnot, w_tall, w_tany, w_all0, w_all1, w_all2, w_any0, w_any1, w_any2, it_t, it_l, w_seq, w_rng1, w_rng2, w_gn, w_gt, w_gi, w_gs0, w_gs1, s_asg, s_asgC, s_par, s_aug, s_expr, s_if, s_for, s_while, s_ret, s_retN, s_brk, s_cont, s_pass, s_nil, frz_l, frz_m, bin_add, bin_adds, bin_sub, bin_mul, bin_fdiv, bin_mod, bin_pow, bin_xor, cmp_lt, cmp_le, cmp_gt, cmp_ge, cmp_eqi, cmp_eqs, cmp_eqb, cmp_nei, cmp_nes, cmp_neb, cmp_is0, cmp_is1, cmp_is2, cmp_is3, cmp_is4, cmp_is5, cmp_is6, cmp_isn0, cmp_isn1, cmp_isn2, cmp_isn3, cmp_isn4, cmp_isn5, cmp_in, cmp_notin, bi_lens, bi_lent, bi_lenl, bi_min, bi_max, bi_abs, bi_listT, bi_listL, bi_tupT, bi_tupL, bi_maxL, bi_minL, bi_sumL, bi_anyL, bi_allL, bi_sorted, seqL_l, items_l, items_t, items_m, w_gl, new_f, new_t, ix_t, ix_l, tru_b, tru_n, tru_i, tru_l, tru_t, isi_b, isi_bi, isi_ii, isi_ib, isi_is, isi_it, isi_il, isi_sb, isi_si, isi_ss, isi_tb, isi_ti, isi_ts, isi_tt, isi_tl, isi_lb, isi_li, isi_ls, isi_lt, isi_ll, isi_nb, isi_ni, isi_ns, isi_nt, isi_nl, ix_m, tru_m, bi_lenm, seqL_m, mt_appm, mt_popm, mtOk_appm, mtOk_popm, it_m, ixSt_m]
    split
    · rename_i ht
      unfold b_clipped_3
      rw [wpSs_cons]
      simp only [Int.reduceNeg, Int.reduceAdd, Int.reduceSub, Int.reduceMul, cpow_10, cpow_2, Int.reduceLE, Int.reduceLT, Int.reduceToNat, Int.reducePow, mset_same, mset_mset, Tgs.len, List.getElem?_cons_zero, List.getElem?_cons_succ, List.set_cons_zero, List.set_cons_succ, List.getElem?_nil, Option.some.injEq, exists_eq_left', exists_eq_left, true_and, and_true, if_true, if_false, Bool.false_eq_true, reduceCtorEq, Dt.int.injEq, Dt.bl.injEq, Dt.str.injEq, Dt.lst.injEq, Dt.tup.injEq, Dt.ref.injEq, decide_eq_true_eq, List.length_cons, List.length_nil, Nat.zero_add, Nat.reduceAdd, Option.map_some, Bool.not_true, Bool.not_false, atI_0, atI_1, atI_2, atI_3, atI_4, ixN_0, ixN_1, ixN_2, ixN_3, ixN_4, w_var, w_int, w_str, w_bl, w_non, w_glob, w_bin, w_neg, w_cmp, w_cmp2, w_bop, w_b1, w_b2, w_not, w_ite, w_tup, w_lst, w_ix, w_sl, w_call, w_bi, w_mt, w_isi, w_lc, w_frz, w_es0, w_es1, w_o0, w_o1, w_tval, w_tcmp, w_tcmp2, w_tnot, w_tall, w_tany, w_all0, w_all1, w_all2, w_any0, w_any1, w_any2, it_t, it_l, w_seq, w_rng1, w_rng2, w_gn, w_gt, w_gi, w_gs0, w_gs1, s_asg, s_asgC, s_par, s_aug, s_expr, s_if, s_for, s_while, s_ret, s_retN, s_brk, s_cont, s_pass, s_nil, frz_l, frz_m, bin_add, bin_adds, bin_sub, bin_mul, bin_fdiv, bin_mod, bin_pow, bin_xor, cmp_lt, cmp_le, cmp_gt, cmp_ge, cmp_eqi, cmp_eqs, cmp_eqb, cmp_nei, cmp_nes, cmp_neb, cmp_is0, cmp_is1, cmp_is2, cmp_is3, cmp_is4, cmp_is5, cmp_is6, cmp_isn0, cmp_isn1, cmp_isn2, cmp_isn3, cmp_isn4, cmp_isn5, cmp_in, cmp_notin, bi_lens, bi_lent, bi_lenl, bi_min, bi_max, bi_abs, bi_listT, bi_listL, bi_tupT, bi_tupL, bi_maxL, bi_minL, bi_sumL, bi_anyL, bi_allL, bi_sorted, seqL_l, items_l, items_t, items_m, w_gl, new_f, new_t, ix_t, ix_l, tru_b, tru_n, tru_i, tru_l, tru_t, isi_b, isi_bi, isi_ii, isi_ib, isi_is, isi_it, isi_il, isi_sb, isi_si, isi_ss, isi_tb, isi_ti, isi_ts, isi_tt, isi_tl, isi_lb, isi_li, isi_ls, isi_lt, isi_ll, isi_nb, isi_ni, isi_ns, isi_nt, isi_nl, ix_m, tru_m, bi_lenm, seqL_m, mt_appm, mt_popm, mtOk_appm, mtOk_popm, it_m, ixSt_m]
      unfold clipMid clipLo clipHi
      rw [if_pos ht, if_pos ht]
      exact ⟨rfl, rfl⟩
    · rename_i ht
      unfold b_clipped_4
      rw [wpSs_cons]
      simp only [Int.reduceNeg, Int.reduceAdd, Int.reduceSub, Int.reduceMul, cpow_10, cpow_2, Int.reduceLE, Int.reduceLT, Int.reduceToNat, Int.reducePow, mset_same, mset_mset, Tgs.len, List.getElem?_cons_zero, List.getElem?_cons_succ, List.set_cons_zero, List.set_cons_succ, List.getElem?_nil, Option.some.injEq, exists_eq_left', exists_eq_left, true_and, and_true, if_true, if_false, Bool.false_eq_true, reduceCtorEq, Dt.int.injEq, Dt.bl.injEq, Dt.str.injEq, Dt.lst.injEq, Dt.tup.injEq, Dt.ref.injEq, decide_eq_true_eq, List.length_cons, List.length_nil, Nat.zero_add, Nat.reduceAdd, Option.map_some, Bool.not_true, Bool.not_false, atI_0, atI_1, atI_2, atI_3, atI_4, ixN_0, ixN_1, ixN_2, ixN_3, ixN_4, w_var, w_int, w_str, w_bl, w_non, w_glob, w_bin, w_neg, w_cmp, w_cmp2, w_bop, w_b1, w_b2, w_not, w_ite, w_tup, w_lst, w_ix, w_sl, w_call, w_bi, w_mt, w_isi, w_lc, w_frz, w_es0, w_es1, w_o0, w_o1, w_tval, w_tcmp, w_tcmp2, w_tnot, w_tall, w_tany, w_all0, w_all1, w_all2, w_any0, w_any1, w_any2, it_t, it_l, w_seq, w_rng1, w_rng2, w_gn, w_gt, w_gi, w_gs0, w_gs1, s_asg, s_asgC, s_par, s_aug, s_expr, s_if, s_for, s_while, s_ret, s_retN, s_brk, s_cont, s_pass, s_nil, frz_l, frz_m, bin_add, bin_adds, bin_sub, bin_mul, bin_fdiv, bin_mod, bin_pow, bin_xor, cmp_lt, cmp_le, cmp_gt, cmp_ge, cmp_eqi, cmp_eqs, cmp_eqb, cmp_nei, cmp_nes, cmp_neb, cmp_is0, cmp_is1, cmp_is2, cmp_is3, cmp_is4, cmp_is5, cmp_is6, cmp_isn0, cmp_isn1, cmp_isn2, cmp_isn3, cmp_isn4, cmp_isn5, cmp_in, cmp_notin, bi_lens, bi_lent, bi_lenl, bi_min, bi_max, bi_abs, bi_listT, bi_listL, bi_tupT, bi_tupL, bi_maxL, bi_minL, bi_sumL, bi_anyL, bi_allL, bi_sorted, seqL_l, items_l, items_t, items_m, w_gl, new_f, new_t, ix_t, ix_l, tru_b, tru_n, tru_i, tru_l, tru_t, isi_b, isi_bi, isi_ii, isi_ib, isi_is, isi_it, isi_il, isi_sb, isi_si, isi_ss, isi_tb, isi_ti, isi_ts, isi_tt, isi_tl, isi_lb, isi_li, isi_ls, isi_lt, isi_ll, isi_nb, isi_ni, isi_ns, isi_nt, isi_nl, ix_m, tru_m, bi_lenm, seqL_m, mt_appm, mt_popm, mtOk_appm, mtOk_popm, it_m, ixSt_m]
      unfold clipMid clipLo clipHi
      rw [if_neg ht, if_neg ht]
      exact ⟨rfl, rfl⟩
  · rintro ρ' M' ⟨rfl, rfl⟩
    unfold b_clipped_5
    rw [wpSs_cons]
    simp only [Int.reduceNeg, Int.reduceAdd, Int.reduceSub, Int.reduceMul, cpow_10, cpow_2, Int.reduceLE, Int.reduceLT, Int.reduceToNat, Int.reducePow, mset_same, mset_mset, Tgs.len, List.getElem?_cons_zero, List.getElem?_cons_succ, List.set_cons_zero, List.set_cons_succ, List.getElem?_nil, Option.some.injEq, exists_eq_left', exists_eq_left, true_and, and_true, if_true, if_false, Bool.false_eq_true, reduceCtorEq, Dt.int.injEq, Dt.bl.injEq, Dt.str.injEq, Dt.lst.injEq, Dt.tup.injEq, Dt.ref.injEq, decide_eq_true_eq, List.length_cons, List.length_nil, Nat.zero_add, Nat.reduceAdd, Option.map_some, Bool.not_true, Bool.not_false, atI_0, atI_1, atI_2, atI_3, atI_4, ixN_0, ixN_1, ixN_2, ixN_3, ixN_4, w_var, w_int, w_str, w_bl, w_non, w_glob, w_bin, w_neg, w_cmp, w_cmp2, w_bop, w_b1, w_b2, w_not, w_ite, w_tup, w_lst, w_ix, w_sl, w_call, w_bi, w_mt, w_isi, w_lc, w_frz, w_es0, w_es1, w_o0, w_o1, w_tval, w_tcmp, w_tcmp2, w_tnot, w_tall, w_tany, w_all0, w_all1, w_all2, w_any0, w_any1, w_any2, it_t, it_l, w_seq, w_rng1, w_rng2, w_gn, w_gt, w_gi, w_gs0, w_gs1, s_asg, s_asgC, s_par, s_aug, s_expr, s_if, s_for, s_while, s_ret, s_retN, s_brk, s_cont, s_pass, s_nil, frz_l, frz_m, bin_add, bin_adds, bin_sub, bin_mul, bin_fdiv, bin_mod, bin_pow, bin_xor, cmp_lt, cmp_le, cmp_gt, cmp_ge, cmp_eqi, cmp_eqs, cmp_eqb, cmp_nei, cmp_nes, cmp_neb, cmp_is0, cmp_is1, cmp_is2, cmp_is3, cmp_is4, cmp_is5, cmp_is6, cmp_isn0, cmp_isn1, cmp_isn2, cmp_isn3, cmp_isn4, cmp_isn5, cmp_in, cmp_notin, bi_lens, bi_lent, bi_lenl, bi_min, bi_max, bi_abs, bi_listT, bi_listL, bi_tupT, bi_tupL, bi_maxL, bi_minL, bi_sumL, bi_anyL, bi_allL, bi_sorted, seqL_l, items_l, items_t, items_m, w_gl, new_f, new_t, ix_t, ix_l, tru_b, tru_n, tru_i, tru_l, tru_t, isi_b, isi_bi, isi_ii, isi_ib, isi_is, isi_it, isi_il, isi_sb, isi_si, isi_ss, isi_tb, isi_ti, isi_ts, isi_tt, isi_tl, isi_lb, isi_li, isi_ls, isi_lt, isi_ll, isi_nb, isi_ni, isi_ns, isi_nt, isi_nl, ix_m, tru_m, bi_lenm, seqL_m, mt_appm, mt_popm, mtOk_appm, mtOk_popm, it_m, ixSt_m]
    unfold clipD at h
    have hlo : 0 ≤ clipLo b m t L := by unfold clipLo; split <;> omega
    have hhi : clipHi a b m t L ≤ m := by unfold clipHi; split <;> omega
    generalize clipLo b m t L = lo at h hlo ⊢
    generalize clipHi a b m t L = hi at h hhi ⊢
    by_cases hc : hi ≤ lo
    · rw [if_pos hc] at h ⊢
      unfold b_clipped_6
      rw [wpSs_cons]
      simp only [Int.reduceNeg, Int.reduceAdd, Int.reduceSub, Int.reduceMul, cpow_10, cpow_2, Int.reduceLE, Int.reduceLT, Int.reduceToNat, Int.reducePow, mset_same, mset_mset, Tgs.len, List.getElem?_cons_zero, List.getElem?_cons_succ, List.set_cons_zero, List.set_cons_succ, List.getElem?_nil, Option.some.injEq, exists_eq_left', exists_eq_left, true_and, and_true, if_true, if_false, Bool.false_eq_true, reduceCtorEq, Dt.int.injEq, Dt.bl.injEq, Dt.str.injEq, Dt.lst.injEq, Dt.tup.injEq, Dt.ref.injEq, decide_eq_true_eq, List.length_cons, List.length_nil, Nat.zero_add, Nat.reduceAdd, Option.map_some, Bool.not_true, Bool.not_false, atI_0, atI_1, atI_2, atI_3, atI_4, ixN_0, ixN_1, ixN_2, ixN_3, ixN_4, w_var, w_int, w_str, w_bl, w_non, w_glob, w_bin, w_neg, w_cmp, w_cmp2, w_bop, w_b1, w_b2, w_not, w_ite, w_tup, w_lst, w_ix, w_sl, w_call, w_bi, w_mt, w_isi, w_lc, w_frz, w_es0, w_es1, w_o0, w_o1, w_tval, w_tcmp, w_tcmp2, w_tnot, w_tall, w_tany, w_all0, w_all1, w_all2, w_any0, w_any1, w_any2, it_t, it_l, w_seq, w_rng1, w_rng2, w_gn, w_gt, w_gi, w_gs0, w_gs1, s_asg, s_asgC, s_par, s_aug, s_expr, s_if, s_for, s_while, s_ret, s_retN, s_brk, s_cont, s_pass, s_nil, frz_l, frz_m, bin_add, bin_adds, bin_sub, bin_mul, bin_fdiv, bin_mod, bin_pow, bin_xor, cmp_lt, cmp_le, cmp_gt, cmp_ge, cmp_eqi, cmp_eqs, cmp_eqb, cmp_nei, cmp_nes, cmp_neb, cmp_is0, cmp_is1, cmp_is2, cmp_is3, cmp_is4, cmp_is5, cmp_is6, cmp_isn0, cmp_isn1, cmp_isn2, cmp_isn3, cmp_isn4, cmp_isn5, cmp_in, cmp_notin, bi_lens, bi_lent, bi_lenl, bi_min, bi_max, bi_abs, bi_listT, bi_listL, bi_tupT, bi_tupL, bi_maxL, bi_minL, bi_sumL, bi_anyL, bi_allL, bi_sorted, seqL_l, items_l, items_t, items_m, w_gl, new_f, new_t, ix_t, ix_l, tru_b, tru_n, tru_i, tru_l, tru_t, isi_b, isi_bi, isi_ii, isi_ib, isi_is, isi_it, isi_il, isi_sb, isi_si, isi_ss, isi_tb, isi_ti, isi_ts, isi_tt, isi_tl, isi_lb, isi_li, isi_ls, isi_lt, isi_ll, isi_nb, isi_ni, isi_ns, isi_nt, isi_nl, ix_m, tru_m, bi_lenm, seqL_m, mt_appm, mt_popm, mtOk_appm, mtOk_popm, it_m, ixSt_m, hrt]
      exact h
    · rw [if_neg hc] at h ⊢
      unfold b_clipped_7
      rw [wpSs_cons]
      simp only [Int.reduceNeg, Int.reduceAdd, Int.reduceSub, Int.reduceMul, cpow_10, cpow_2, Int.reduceLE, Int.reduceLT, Int.reduceToNat, Int.reducePow, mset_same, mset_mset, Tgs.len, List.getElem?_cons_zero, List.getElem?_cons_succ, List.set_cons_zero, List.set_cons_succ, List.getElem?_nil, Option.some.injEq, exists_eq_left', exists_eq_left, true_and, and_true, if_true, if_false, Bool.false_eq_true, reduceCtorEq, Dt.int.injEq, Dt.bl.injEq, Dt.str.injEq, Dt.lst.injEq, Dt.tup.injEq, Dt.ref.injEq, decide_eq_true_eq, List.length_cons, List.length_nil, Nat.zero_add, Nat.reduceAdd, Option.map_some, Bool.not_true, Bool.not_false, atI_0, atI_1, atI_2, atI_3, atI_4, ixN_0, ixN_1, ixN_2, ixN_3, ixN_4, w_var, w_int, w_str, w_bl, w_non, w_glob, w_bin, w_neg, w_cmp, w_cmp2, w_bop, w_b1, w_b2, w_not, w_ite, w_tup, w_lst, w_ix, w_sl, w_call, w_bi, w_mt, w_isi, w_lc, w_frz, w_es0, w_es1, w_o0, w_o1, w_tval, w_tcmp, w_tcmp2, w_tnot, w_tall, w_tany, w_all0, w_all1, w_all2, w_any0, w_any1, w_any2, it_t, it_l, w_seq, w_rng1, w_rng2, w_gn, w_gt, w_gi, w_gs0, w_gs1, s_asg, s_asgC, s_par, s_aug, s_expr, s_if, s_for, s_while, s_ret, s_retN, s_brk, s_cont, s_pass, s_nil, frz_l, frz_m, bin_add, bin_adds, bin_sub, bin_mul, bin_fdiv, bin_mod, bin_pow, bin_xor, cmp_lt, cmp_le, cmp_gt, cmp_ge, cmp_eqi, cmp_eqs, cmp_eqb, cmp_nei, cmp_nes, cmp_neb, cmp_is0, cmp_is1, cmp_is2, cmp_is3, cmp_is4, cmp_is5, cmp_is6, cmp_isn0, cmp_isn1, cmp_isn2, cmp_isn3, cmp_isn4, cmp_isn5, cmp_in, cmp_notin, bi_lens, bi_lent, bi_lenl, bi_min, bi_max, bi_abs, bi_listT, bi_listL, bi_tupT, bi_tupL, bi_maxL, bi_minL, bi_sumL, bi_anyL, bi_allL, bi_sorted, seqL_l, items_l, items_t, items_m, w_gl, new_f, new_t, ix_t, ix_l, tru_b, tru_n, tru_i, tru_l, tru_t, isi_b, isi_bi, isi_ii, isi_ib, isi_is, isi_it, isi_il, isi_sb, isi_si, isi_ss, isi_tb, isi_ti, isi_ts, isi_tt, isi_tl, isi_lb, isi_li, isi_ls, isi_lt, isi_ll, isi_nb, isi_ni, isi_ns, isi_nt, isi_nl, ix_m, tru_m, bi_lenm, seqL_m, mt_appm, mt_popm, mtOk_appm, mtOk_popm, it_m, ixSt_m]
      refine hp _ _ _ _ _ _ _ _ _ (by omega) (by omega) (by omega) ?_
      rw [hrt]
      have e : partB a b m t (a + lo) (hi - lo) = if t = 1 then b + m - hi else b + lo := by
        unfold partB
        split <;> omega
      rw [e]
      exact h

abbrev mtd (z : Int × Int × Int × Int) : Dt := mtg z.1 z.2.1 z.2.2.1 z.2.2.2
def scl (k : Int) (z : Int × Int × Int × Int) : Int × Int × Int × Int := (z.1 * k, z.2.1 * k, z.2.2.1 * k, z.2.2.2)
def ScaledOk (W : Wf) : Prop := ∀ (l : List (Int × Int × Int × Int)) (k : Int) M q x, l.length ≤ 16777216 → -(2 ^ 64) < k → k < 2 ^ 64 → q (.lst (l.map fun z => mtd (scl k z))) M → W.run [.lst (l.map mtd), .int k] M q x
theorem scaled_ok (G : Gt) : ScaledOk (wfB G n__law_scaled 2 b__law_scaled) := by
  intro l y M q x hl y0 y1 h
  refine ⟨rfl, ?_⟩
  have e0 : startR n__law_scaled [.lst (l.map mtd), .int y] = [some (.lst (l.map mtd)), some (.int y), none, none, none, none] := rfl
  rw [e0]
  generalize hk : bodyK q x = k
  have hrt : ∀ d, k.rt d = q d := by intro d; rw [← hk]; rfl
  unfold b__law_scaled b__law_scaled_0
  rw [wpSs_cons]
  simp only [Int.reduceNeg, Int.reduceAdd, Int.reduceSub, Int.reduceMul, cpow_10, cpow_2, Int.reduceLE, Int.reduceLT, Int.reduceToNat, Int.reducePow, mset_same, mset_mset, Tgs.len, List.getElem?_cons_zero, List.getElem?_cons_succ, List.set_cons_zero, List.set_cons_succ, List.getElem?_nil, Option.some.injEq, exists_eq_left', exists_eq_left, true_and, and_true, if_true, if_false, Bool.false_eq_true, reduceCtorEq, Dt.int.injEq, Dt.bl.injEq, Dt.str.injEq, Dt.lst.injEq, Dt.tup.injEq, Dt.ref.injEq, decide_eq_true_eq, List.length_cons, List.length_nil, Nat.zero_add, Nat.reduceAdd, Option.map_some, Bool.not_true, Bool.not_false, atI_0, atI_1, atI_2, atI_3, atI_4, ixN_0, ixN_1, ixN_2, ixN_3, ixN_4, w_var, w_int, w_str, w_bl, w_non, w_glob, w_bin, w_neg, w_cmp, w_cmp2, w_bop, w_b1, w_b2, w_not, w_ite, w_tup, w_lst, w_ix, w_sl, w_call, w_bi, w_mt, w_isi, w_lc, w_frz, w_es0, w_es1, w_o0, w_o1, w_tval, w_tcmp, w_tcmp2, w_tnot, w_tall, w_tany, w_all0, w_all1, w_all2, w_any0, w_any1, w_any2, it_t, it_l, w_seq, w_rng1, w_rng2, w_gn, w_gt, w_gi, w_gs0, w_gs1, s_asg, s_asgC, s_par, s_aug, s_expr, s_if, s_for, s_while, s_ret, s_retN, s_brk, s_cont, s_pass, s_nil, frz_l, frz_m, bin_add, bin_adds, bin_sub, bin_mul, bin_fdiv, bin_mod, bin_pow, bin_xor, cmp_lt, cmp_le, cmp_gt, cmp_ge, cmp_eqi, cmp_eqs, cmp_eqb, cmp_nei, cmp_nes, cmp_neb, cmp_is0, cmp_is1, cmp_is2, cmp_is3, cmp_is4, cmp_is5, cmp_is6, cmp_isn0, cmp_isn1, cmp_isn2, cmp_isn3, cmp_isn4, cmp_isn5, cmp_in, cmp_notin, bi_lens, bi_lent, bi_lenl, bi_min, bi_max, bi_abs, bi_listT, bi_listL, bi_tupT, bi_tupL, bi_maxL, bi_minL, bi_sumL, bi_anyL, bi_allL, bi_sorted, seqL_l, items_l, items_t, items_m, w_gl, new_f, new_t, ix_t, ix_l, tru_b, tru_n, tru_i, tru_l, tru_t, isi_b, isi_bi, isi_ii, isi_ib, isi_is, isi_it, isi_il, isi_sb, isi_si, isi_ss, isi_tb, isi_ti, isi_ts, isi_tt, isi_tl, isi_lb, isi_li, isi_ls, isi_lt, isi_ll, isi_nb, isi_ni, isi_ns, isi_nt, isi_nl, ix_m, tru_m, bi_lenm, seqL_m, mt_appm, mt_popm, mtOk_appm, mtOk_popm, it_m, ixSt_m, hrt]
  let f : Dt → Option Dt := fun d => match d with
    | .tup [.int a, .int b, .int m, .int t] => some (mtg (a * y) (b * y) (m * y) t)
    | _ => none
  have hfm : (l.map mtd).filterMap f = l.map fun z => mtd (scl y z) := by
    rw [List.filterMap_map, ← List.filterMap_eq_map]
    rfl
  refine lcRun_map f _ _ ?_ (by rw [List.length_map]; show 0 + _ ≤ 16777216; omega) ?_
  · intro d1 hd1 k1 hk1
    obtain ⟨z, hz, rfl⟩ := List.mem_map.mp hd1
    have w : ∀ (a b : Option Dt), wipeR [a, b, none, none, none, none] ([(("_law_one" : Str), 2), ("_law_other", 3), ("_law_many", 4), ("_law_flips", 5)].map (·.2)) = [a, b, none, none, none, none] := fun _ _ => rfl
    rw [w]
    simp only [Int.reduceNeg, Int.reduceAdd, Int.reduceSub, Int.reduceMul, cpow_10, cpow_2, Int.reduceLE, Int.reduceLT, Int.reduceToNat, Int.reducePow, mset_same, mset_mset, Tgs.len, List.getElem?_cons_zero, List.getElem?_cons_succ, List.set_cons_zero, List.set_cons_succ, List.getElem?_nil, Option.some.injEq, exists_eq_left', exists_eq_left, true_and, and_true, if_true, if_false, Bool.false_eq_true, reduceCtorEq, Dt.int.injEq, Dt.bl.injEq, Dt.str.injEq, Dt.lst.injEq, Dt.tup.injEq, Dt.ref.injEq, decide_eq_true_eq, List.length_cons, List.length_nil, Nat.zero_add, Nat.reduceAdd, Option.map_some, Bool.not_true, Bool.not_false, atI_0, atI_1, atI_2, atI_3, atI_4, ixN_0, ixN_1, ixN_2, ixN_3, ixN_4, w_var, w_int, w_str, w_bl, w_non, w_glob, w_bin, w_neg, w_cmp, w_cmp2, w_bop, w_b1, w_b2, w_not, w_ite, w_tup, w_lst, w_ix, w_sl, w_call, w_bi, w_mt, w_isi, w_lc, w_frz, w_es0, w_es1, w_o0, w_o1, w_tval, w_tcmp, w_tcmp2, w_tnot, w_tall, w_tany, w_all0, w_all1, w_all2, w_any0, w_any1, w_any2, it_t, it_l, w_seq, w_rng1, w_rng2, w_gn, w_gt, w_gi, w_gs0, w_gs1, s_asg, s_asgC, s_par, s_aug, s_expr, s_if, s_for, s_while, s_ret, s_retN, s_brk, s_cont, s_pass, s_nil, frz_l, frz_m, bin_add, bin_adds, bin_sub, bin_mul, bin_fdiv, bin_mod, bin_pow, bin_xor, cmp_lt, cmp_le, cmp_gt, cmp_ge, cmp_eqi, cmp_eqs, cmp_eqb, cmp_nei, cmp_nes, cmp_neb, cmp_is0, cmp_is1, cmp_is2, cmp_is3, cmp_is4, cmp_is5, cmp_is6, cmp_isn0, cmp_isn1, cmp_isn2, cmp_isn3, cmp_isn4, cmp_isn5, cmp_in, cmp_notin, bi_lens, bi_lent, bi_lenl, bi_min, bi_max, bi_abs, bi_listT, bi_listL, bi_tupT, bi_tupL, bi_maxL, bi_minL, bi_sumL, bi_anyL, bi_allL, bi_sorted, seqL_l, items_l, items_t, items_m, w_gl, new_f, new_t, ix_t, ix_l, tru_b, tru_n, tru_i, tru_l, tru_t, isi_b, isi_bi, isi_ii, isi_ib, isi_is, isi_it, isi_il, isi_sb, isi_si, isi_ss, isi_tb, isi_ti, isi_ts, isi_tt, isi_tl, isi_lb, isi_li, isi_ls, isi_lt, isi_ll, isi_nb, isi_ni, isi_ns, isi_nt, isi_nl, ix_m, tru_m, bi_lenm, seqL_m, mt_appm, mt_popm, mtOk_appm, mtOk_popm, it_m, ixSt_m]
    exact ⟨mul_r y0 y1, mul_r y0 y1, mul_r y0 y1, sz (by decide), hk1⟩
  · rw [List.nil_append, hfm]
    exact h
/-- one mating made as much greater -/
theorem ScaledOk.one {W : Wf} (h : ScaledOk W) {a b m t k : Int} {M : Mm} {q : QD} {x : QX} (k0 : -(2 ^ 64) < k) (k1 : k < 2 ^ 64) (hq : q (.lst [mtg (a * k) (b * k) (m * k) t]) M) : W.run [.lst [mtg a b m t], .int k] M q x :=
  h [(a, b, m, t)] k M q x (by show 1 ≤ 16777216; decide) k0 k1 hq
def CutOk (W : Wf) : Prop := ∀ (p : Addr) (a b m t L : Int) (d : Drw) M q x, M p = some d.o → d.Ok → 0 ≤ a → 0 ≤ b → 0 ≤ L → L ≤ 100 → (∀ d' : Drw, d'.Ok → q (.bl true) (mset M p (some d'.o))) → W.run [.ref p, mtg a b m t, .int L] M q x
theorem like_clip {M : Mm} {n : Nat} {a b m t L : Int} : Like M (n + 2) (clipD a b m t L) (clipD a b m t L) := by
  unfold clipD
  split
  · exact like_n
  · exact like_m
def cutMid (p : Addr) (d1 : Dt) (M : Mm) (f1 f2 a b m t k C L : Int) : Rho → Mm → Prop := fun ρ' M' => ρ' = [some (.ref p), some d1, some (.int L), some (.int k), some (.int a), some (.int b), some (.int m), some (.int t), some (.int C), some (.int f1), some (.int f2), none] ∧ M = M'
theorem cut_ok (G : Gt) (hpu : PullOk (G.call 51)) (hsc : ScaledOk (G.call 69)) (hcl : ClippedOk (G.call 10)) (hsw : SwelledOk (G.call 9)) (hli : LikeOk 2 (G.call 53)) : CutOk (wfB G n__law_cut_far 3 b__law_cut_far) := by
  intro p a b m t L d M q x hM hd a0 b0 L0 L1 h
  refine ⟨rfl, ?_⟩
  have e0 : startR n__law_cut_far [.ref p, mtg a b m t, .int L] = [some (.ref p), some (mtg a b m t), some (.int L), none, none, none, none, none, none, none, none, none] := rfl
  rw [e0]
  generalize hk : bodyK q x = k
  have hrt : ∀ d, k.rt d = q d := by intro d; rw [← hk]; rfl
  unfold b__law_cut_far b__law_cut_far_0
  rw [wpSs_cons]
  simp only [Int.reduceNeg, Int.reduceAdd, Int.reduceSub, Int.reduceMul, cpow_10, cpow_2, Int.reduceLE, Int.reduceLT, Int.reduceToNat, Int.reducePow, mset_same, mset_mset, Tgs.len, List.getElem?_cons_zero, List.getElem?_cons_succ, List.set_cons_zero, List.set_cons_succ, List.getElem?_nil, Option.some.injEq, exists_eq_left', exists_eq_left, true_and, and_true, if_true, if_false, Bool.false_eq_true, reduceCtorEq, Dt.int.injEq, Dt.bl.injEq, Dt.str.injEq, Dt.lst.injEq, Dt.tup.injEq, Dt.ref.injEq, decide_eq_true_eq, List.length_cons, List.length_nil, Nat.zero_add, Nat.reduceAdd, Option.map_some, Bool.not_true, Bool.not_false, atI_0, atI_1, atI_2, atI_3, atI_4, ixN_0, ixN_1, ixN_2, ixN_3, ixN_4, w_var, w_int, w_str, w_bl, w_non, w_glob, w_bin, w_neg, w_cmp, w_cmp2, w_bop, w_b1, w_b2, w_not, w_ite, w_tup, w_lst, w_ix, w_sl, w_call, w_bi, w_mt, w_isi, w_lc, w_frz, w_es0, w_es1, w_o0, w_o1, w_tval, w_tcmp, w_tcmp2, w_tnot, w_tall, w_tany, w_all0, w_all1, w_all2, w_any0, w_any1, w_any2, it_t, it_l, w_seq, w_rng1, w_rng2, w_gn, w_gt, w_gi, w_gs0, w_gs1, s_asg, s_asgC, s_par, s_aug, s_expr, s_if, s_for, s_while, s_ret, s_retN, s_brk, s_cont, s_pass, s_nil, frz_l, frz_m, bin_add, bin_adds, bin_sub, bin_mul, bin_fdiv, bin_mod, bin_pow, bin_xor, cmp_lt, cmp_le, cmp_gt, cmp_ge, cmp_eqi, cmp_eqs, cmp_eqb, cmp_nei, cmp_nes, cmp_neb, cmp_is0, cmp_is1, cmp_is2, cmp_is3, cmp_is4, cmp_is5, cmp_is6, cmp_isn0, cmp_isn1, cmp_isn2, cmp_isn3, cmp_isn4, cmp_isn5, cmp_in, cmp_notin, bi_lens, bi_lent, bi_lenl, bi_min, bi_max, bi_abs, bi_listT, bi_listL, bi_tupT, bi_tupL, bi_maxL, bi_minL, bi_sumL, bi_anyL, bi_allL, bi_sorted, seqL_l, items_l, items_t, items_m, w_gl, new_f, new_t, ix_t, ix_l, tru_b, tru_n, tru_i, tru_l, tru_t, isi_b, isi_bi, isi_ii, isi_ib, isi_is, isi_it, isi_il, isi_sb, isi_si, isi_ss, isi_tb, isi_ti, isi_ts, isi_tt, isi_tl, isi_lb, isi_li, isi_ls, isi_lt, isi_ll, isi_nb, isi_ni, isi_ns, isi_nt, isi_nl, ix_m, tru_m, bi_lenm, seqL_m, mt_appm, mt_popm, mtOk_appm, mtOk_popm, it_m, ixSt_m]
  refine hpu p _ d _ _ _ hM hd (by decide) (by decide) fun y d hd y0 y1 => ?_
  simp only [Int.reduceNeg, Int.reduceAdd, Int.reduceSub, Int.reduceMul, cpow_10, cpow_2, Int.reduceLE, Int.reduceLT, Int.reduceToNat, Int.reducePow, mset_same, mset_mset, Tgs.len, List.getElem?_cons_zero, List.getElem?_cons_succ, List.set_cons_zero, List.set_cons_succ, List.getElem?_nil, Option.some.injEq, exists_eq_left', exists_eq_left, true_and, and_true, if_true, if_false, Bool.false_eq_true, reduceCtorEq, Dt.int.injEq, Dt.bl.injEq, Dt.str.injEq, Dt.lst.injEq, Dt.tup.injEq, Dt.ref.injEq, decide_eq_true_eq, List.length_cons, List.length_nil, Nat.zero_add, Nat.reduceAdd, Option.map_some, Bool.not_true, Bool.not_false, atI_0, atI_1, atI_2, atI_3, atI_4, ixN_0, ixN_1, ixN_2, ixN_3, ixN_4, w_var, w_int, w_str, w_bl, w_non, w_glob, w_bin, w_neg, w_cmp, w_cmp2, w_bop, w_b1, w_b2, w_not, w_ite, w_tup, w_lst, w_ix, w_sl, w_call, w_bi, w_mt, w_isi, w_lc, w_frz, w_es0, w_es1, w_o0, w_o1, w_tval, w_tcmp, w_tcmp2, w_tnot, w_tall, w_tany, w_all0, w_all1, w_all2, w_any0, w_any1, w_any2, it_t, it_l, w_seq, w_rng1, w_rng2, w_gn, w_gt, w_gi, w_gs0, w_gs1, s_asg, s_asgC, s_par, s_aug, s_expr, s_if, s_for, s_while, s_ret, s_retN, s_brk, s_cont, s_pass, s_nil, frz_l, frz_m, bin_add, bin_adds, bin_sub, bin_mul, bin_fdiv, bin_mod, bin_pow, bin_xor, cmp_lt, cmp_le, cmp_gt, cmp_ge, cmp_eqi, cmp_eqs, cmp_eqb, cmp_nei, cmp_nes, cmp_neb, cmp_is0, cmp_is1, cmp_is2, cmp_is3, cmp_is4, cmp_is5, cmp_is6, cmp_isn0, cmp_isn1, cmp_isn2, cmp_isn3, cmp_isn4, cmp_isn5, cmp_in, cmp_notin, bi_lens, bi_lent, bi_lenl, bi_min, bi_max, bi_abs, bi_listT, bi_listL, bi_tupT, bi_tupL, bi_maxL, bi_minL, bi_sumL, bi_anyL, bi_allL, bi_sorted, seqL_l, items_l, items_t, items_m, w_gl, new_f, new_t, ix_t, ix_l, tru_b, tru_n, tru_i, tru_l, tru_t, isi_b, isi_bi, isi_ii, isi_ib, isi_is, isi_it, isi_il, isi_sb, isi_si, isi_ss, isi_tb, isi_ti, isi_ts, isi_tt, isi_tl, isi_lb, isi_li, isi_ls, isi_lt, isi_ll, isi_nb, isi_ni, isi_ns, isi_nt, isi_nl, ix_m, tru_m, bi_lenm, seqL_m, mt_appm, mt_popm, mtOk_appm, mtOk_popm, it_m, ixSt_m]
  unfold b__law_cut_far_1
  rw [wpSs_cons]
  simp only [Int.reduceNeg, Int.reduceAdd, Int.reduceSub, Int.reduceMul, cpow_10, cpow_2, Int.reduceLE, Int.reduceLT, Int.reduceToNat, Int.reducePow, mset_same, mset_mset, Tgs.len, List.getElem?_cons_zero, List.getElem?_cons_succ, List.set_cons_zero, List.set_cons_succ, List.getElem?_nil, Option.some.injEq, exists_eq_left', exists_eq_left, true_and, and_true, if_true, if_false, Bool.false_eq_true, reduceCtorEq, Dt.int.injEq, Dt.bl.injEq, Dt.str.injEq, Dt.lst.injEq, Dt.tup.injEq, Dt.ref.injEq, decide_eq_true_eq, List.length_cons, List.length_nil, Nat.zero_add, Nat.reduceAdd, Option.map_some, Bool.not_true, Bool.not_false, atI_0, atI_1, atI_2, atI_3, atI_4, ixN_0, ixN_1, ixN_2, ixN_3, ixN_4, w_var, w_int, w_str, w_bl, w_non, w_glob, w_bin, w_neg, w_cmp, w_cmp2, w_bop, w_b1, w_b2, w_not, w_ite, w_tup, w_lst, w_ix, w_sl, w_call, w_bi, w_mt, w_isi, w_lc, w_frz, w_es0, w_es1, w_o0, w_o1, w_tval, w_tcmp, w_tcmp2, w_tnot, w_tall, w_tany, w_all0, w_all1, w_all2, w_any0, w_any1, w_any2, it_t, it_l, w_seq, w_rng1, w_rng2, w_gn, w_gt, w_gi, w_gs0, w_gs1, s_asg, s_asgC, s_par, s_aug, s_expr, s_if, s_for, s_while, s_ret, s_retN, s_brk, s_cont, s_pass, s_nil, frz_l, frz_m, bin_add, bin_adds, bin_sub, bin_mul, bin_fdiv, bin_mod, bin_pow, bin_xor, cmp_lt, cmp_le, cmp_gt, cmp_ge, cmp_eqi, cmp_eqs, cmp_eqb, cmp_nei, cmp_nes, cmp_neb, cmp_is0, cmp_is1, cmp_is2, cmp_is3, cmp_is4, cmp_is5, cmp_is6, cmp_isn0, cmp_isn1, cmp_isn2, cmp_isn3, cmp_isn4, cmp_isn5, cmp_in, cmp_notin, bi_lens, bi_lent, bi_lenl, bi_min, bi_max, bi_abs, bi_listT, bi_listL, bi_tupT, bi_tupL, bi_maxL, bi_minL, bi_sumL, bi_anyL, bi_allL, bi_sorted, seqL_l, items_l, items_t, items_m, w_gl, new_f, new_t, ix_t, ix_l, tru_b, tru_n, tru_i, tru_l, tru_t, isi_b, isi_bi, isi_ii, isi_ib, isi_is, isi_it, isi_il, isi_sb, isi_si, isi_ss, isi_tb, isi_ti, isi_ts, isi_tt, isi_tl, isi_lb, isi_li, isi_ls, isi_lt, isi_ll, isi_nb, isi_ni, isi_ns, isi_nt, isi_nl, ix_m, tru_m, bi_lenm, seqL_m, mt_appm, mt_popm, mtOk_appm, mtOk_popm, it_m, ixSt_m]
  generalize hT : 1 + y = T
  refine ⟨sz (by decide), hsc.one (by omega) (by omega) ?_⟩
  simp only [Int.reduceNeg, Int.reduceAdd, Int.reduceSub, Int.reduceMul, cpow_10, cpow_2, Int.reduceLE, Int.reduceLT, Int.reduceToNat, Int.reducePow, mset_same, mset_mset, Tgs.len, List.getElem?_cons_zero, List.getElem?_cons_succ, List.set_cons_zero, List.set_cons_succ, List.getElem?_nil, Option.some.injEq, exists_eq_left', exists_eq_left, true_and, and_true, if_true, if_false, Bool.false_eq_true, reduceCtorEq, Dt.int.injEq, Dt.bl.injEq, Dt.str.injEq, Dt.lst.injEq, Dt.tup.injEq, Dt.ref.injEq, decide_eq_true_eq, List.length_cons, List.length_nil, Nat.zero_add, Nat.reduceAdd, Option.map_some, Bool.not_true, Bool.not_false, atI_0, atI_1, atI_2, atI_3, atI_4, ixN_0, ixN_1, ixN_2, ixN_3, ixN_4, w_var, w_int, w_str, w_bl, w_non, w_glob, w_bin, w_neg, w_cmp, w_cmp2, w_bop, w_b1, w_b2, w_not, w_ite, w_tup, w_lst, w_ix, w_sl, w_call, w_bi, w_mt, w_isi, w_lc, w_frz, w_es0, w_es1, w_o0, w_o1, w_tval, w_tcmp, w_tcmp2, w_tnot, w_tall, w_tany, w_all0, w_all1, w_all2, w_any0, w_any1, w_any2, it_t, it_l, w_seq, w_rng1, w_rng2, w_gn, w_gt, w_gi, w_gs0, w_gs1, s_asg, s_asgC, s_par, s_aug, s_expr, s_if, s_for, s_while, s_ret, s_retN, s_brk, s_cont, s_pass, s_nil, frz_l, frz_m, bin_add, bin_adds, bin_sub, bin_mul, bin_fdiv, bin_mod, bin_pow, bin_xor, cmp_lt, cmp_le, cmp_gt, cmp_ge, cmp_eqi, cmp_eqs, cmp_eqb, cmp_nei, cmp_nes, cmp_neb, cmp_is0, cmp_is1, cmp_is2, cmp_is3, cmp_is4, cmp_is5, cmp_is6, cmp_isn0, cmp_isn1, cmp_isn2, cmp_isn3, cmp_isn4, cmp_isn5, cmp_in, cmp_notin, bi_lens, bi_lent, bi_lenl, bi_min, bi_max, bi_abs, bi_listT, bi_listL, bi_tupT, bi_tupL, bi_maxL, bi_minL, bi_sumL, bi_anyL, bi_allL, bi_sorted, seqL_l, items_l, items_t, items_m, w_gl, new_f, new_t, ix_t, ix_l, tru_b, tru_n, tru_i, tru_l, tru_t, isi_b, isi_bi, isi_ii, isi_ib, isi_is, isi_it, isi_il, isi_sb, isi_si, isi_ss, isi_tb, isi_ti, isi_ts, isi_tt, isi_tl, isi_lb, isi_li, isi_ls, isi_lt, isi_ll, isi_nb, isi_ni, isi_ns, isi_nt, isi_nl, ix_m, tru_m, bi_lenm, seqL_m, mt_appm, mt_popm, mtOk_appm, mtOk_popm, it_m, ixSt_m]
  generalize hA : a * T = A
  generalize hB : b * T = B
  generalize hm : m * T = m'
  have hLT : 0 ≤ L * T ∧ L * T ≤ 100 * 1000000000000000 := by
    refine ⟨Int.mul_nonneg L0 (by omega), ?_⟩
    exact Int.mul_le_mul L1 (by omega) (by omega) (by decide)
  unfold b__law_cut_far_2
  rw [wpSs_cons]
  simp only [Int.reduceNeg, Int.reduceAdd, Int.reduceSub, Int.reduceMul, cpow_10, cpow_2, Int.reduceLE, Int.reduceLT, Int.reduceToNat, Int.reducePow, mset_same, mset_mset, Tgs.len, List.getElem?_cons_zero, List.getElem?_cons_succ, List.set_cons_zero, List.set_cons_succ, List.getElem?_nil, Option.some.injEq, exists_eq_left', exists_eq_left, true_and, and_true, if_true, if_false, Bool.false_eq_true, reduceCtorEq, Dt.int.injEq, Dt.bl.injEq, Dt.str.injEq, Dt.lst.injEq, Dt.tup.injEq, Dt.ref.injEq, decide_eq_true_eq, List.length_cons, List.length_nil, Nat.zero_add, Nat.reduceAdd, Option.map_some, Bool.not_true, Bool.not_false, atI_0, atI_1, atI_2, atI_3, atI_4, ixN_0, ixN_1, ixN_2, ixN_3, ixN_4, w_var, w_int, w_str, w_bl, w_non, w_glob, w_bin, w_neg, w_cmp, w_cmp2, w_bop, w_b1, w_b2, w_not, w_ite, w_tup, w_lst, w_ix, w_sl, w_call, w_bi, w_mt, w_isi, w_lc, w_frz, w_es0, w_es1, w_o0, w_o1, w_tval, w_tcmp, w_tcmp2, w_tnot, w_tall, w_tany, w_all0, w_all1, w_all2, w_any0, w_any1, w_any2, it_t, it_l, w_seq, w_rng1, w_rng2, w_gn, w_gt, w_gi, w_gs0, w_gs1, s_asg, s_asgC, s_par, s_aug, s_expr, s_if, s_for, s_while, s_ret, s_retN, s_brk, s_cont, s_pass, s_nil, frz_l, frz_m, bin_add, bin_adds, bin_sub, bin_mul, bin_fdiv, bin_mod, bin_pow, bin_xor, cmp_lt, cmp_le, cmp_gt, cmp_ge, cmp_eqi, cmp_eqs, cmp_eqb, cmp_nei, cmp_nes, cmp_neb, cmp_is0, cmp_is1, cmp_is2, cmp_is3, cmp_is4, cmp_is5, cmp_is6, cmp_isn0, cmp_isn1, cmp_isn2, cmp_isn3, cmp_isn4, cmp_isn5, cmp_in, cmp_notin, bi_lens, bi_lent, bi_lenl, bi_min, bi_max, bi_abs, bi_listT, bi_listL, bi_tupT, bi_tupL, bi_maxL, bi_minL, bi_sumL, bi_anyL, bi_allL, bi_sorted, seqL_l, items_l, items_t, items_m, w_gl, new_f, new_t, ix_t, ix_l, tru_b, tru_n, tru_i, tru_l, tru_t, isi_b, isi_bi, isi_ii, isi_ib, isi_is, isi_it, isi_il, isi_sb, isi_si, isi_ss, isi_tb, isi_ti, isi_ts, isi_tt, isi_tl, isi_lb, isi_li, isi_ls, isi_lt, isi_ll, isi_nb, isi_ni, isi_ns, isi_nt, isi_nl, ix_m, tru_m, bi_lenm, seqL_m, mt_appm, mt_popm, mtOk_appm, mtOk_popm, it_m, ixSt_m]
  refine ⟨mul_r (by omega) (by omega), hpu.go hd (by omega) (by omega) fun c d hd c0 c1 => ?_⟩
  refine ⟨sz (by decide), hpu.go hd (by decide) (by decide) fun z d hd z0 z1 => ?_⟩
  obtain ⟨C, eC⟩ : ∃ C : Int, atI [Dt.int c, Dt.int (A + m'), Dt.int (B + m'), Dt.int (B + m' - 1)] z = some (.int C) := by
    have : z = 0 ∨ z = 1 ∨ z = 2 ∨ z = 3 := by omega
    rcases this with rfl | rfl | rfl | rfl
    · exact ⟨_, rfl⟩
    · exact ⟨_, rfl⟩
    · exact ⟨_, rfl⟩
    · exact ⟨_, rfl⟩
  simp only [Int.reduceNeg, Int.reduceAdd, Int.reduceSub, Int.reduceMul, cpow_10, cpow_2, Int.reduceLE, Int.reduceLT, Int.reduceToNat, Int.reducePow, mset_same, mset_mset, Tgs.len, List.getElem?_cons_zero, List.getElem?_cons_succ, List.set_cons_zero, List.set_cons_succ, List.getElem?_nil, Option.some.injEq, exists_eq_left', exists_eq_left, true_and, and_true, if_true, if_false, Bool.false_eq_true, reduceCtorEq, Dt.int.injEq, Dt.bl.injEq, Dt.str.injEq, Dt.lst.injEq, Dt.tup.injEq, Dt.ref.injEq, decide_eq_true_eq, List.length_cons, List.length_nil, Nat.zero_add, Nat.reduceAdd, Option.map_some, Bool.not_true, Bool.not_false, atI_0, atI_1, atI_2, atI_3, atI_4, ixN_0, ixN_1, ixN_2, ixN_3, ixN_4, w_var, w_int, w_str, w_bl, w_non, w_glob, w_bin, w_neg, w_cmp, w_cmp2, w_bop, w_b1, w_b2, w_not, w_ite, w_tup, w_lst, w_ix, w_sl, w_call, w_bi, w_mt, w_isi, w_lc, w_frz, w_es0, w_es1, w_o0, w_o1, w_tval, w_tcmp, w_tcmp2, w_tnot, w_tall, w_tany, w_all0, w_all1, w_all2, w_any0, w_any1, w_any2, it_t, it_l, w_seq, w_rng1, w_rng2, w_gn, w_gt, w_gi, w_gs0, w_gs1, s_asg, s_asgC, s_par, s_aug, s_expr, s_if, s_for, s_while, s_ret, s_retN, s_brk, s_cont, s_pass, s_nil, frz_l, frz_m, bin_add, bin_adds, bin_sub, bin_mul, bin_fdiv, bin_mod, bin_pow, bin_xor, cmp_lt, cmp_le, cmp_gt, cmp_ge, cmp_eqi, cmp_eqs, cmp_eqb, cmp_nei, cmp_nes, cmp_neb, cmp_is0, cmp_is1, cmp_is2, cmp_is3, cmp_is4, cmp_is5, cmp_is6, cmp_isn0, cmp_isn1, cmp_isn2, cmp_isn3, cmp_isn4, cmp_isn5, cmp_in, cmp_notin, bi_lens, bi_lent, bi_lenl, bi_min, bi_max, bi_abs, bi_listT, bi_listL, bi_tupT, bi_tupL, bi_maxL, bi_minL, bi_sumL, bi_anyL, bi_allL, bi_sorted, seqL_l, items_l, items_t, items_m, w_gl, new_f, new_t, ix_t, ix_l, tru_b, tru_n, tru_i, tru_l, tru_t, isi_b, isi_bi, isi_ii, isi_ib, isi_is, isi_it, isi_il, isi_sb, isi_si, isi_ss, isi_tb, isi_ti, isi_ts, isi_tt, isi_tl, isi_lb, isi_li, isi_ls, isi_lt, isi_ll, isi_nb, isi_ni, isi_ns, isi_nt, isi_nl, ix_m, tru_m, bi_lenm, seqL_m, mt_appm, mt_popm, mtOk_appm, mtOk_popm, it_m, ixSt_m, eC]
  unfold b__law_cut_far_3
  rw [wpSs_cons]
  simp only [Int.reduceNeg, Int.reduceAdd, Int.reduceSub, Int.reduceMul, cpow_10, cpow_2, Int.reduceLE, Int.reduceLT, Int.reduceToNat, Int.reducePow, mset_same, mset_mset, Tgs.len, List.getElem?_cons_zero, List.getElem?_cons_succ, List.set_cons_zero, List.set_cons_succ, List.getElem?_nil, Option.some.injEq, exists_eq_left', exists_eq_left, true_and, and_true, if_true, if_false, Bool.false_eq_true, reduceCtorEq, Dt.int.injEq, Dt.bl.injEq, Dt.str.injEq, Dt.lst.injEq, Dt.tup.injEq, Dt.ref.injEq, decide_eq_true_eq, List.length_cons, List.length_nil, Nat.zero_add, Nat.reduceAdd, Option.map_some, Bool.not_true, Bool.not_false, atI_0, atI_1, atI_2, atI_3, atI_4, ixN_0, ixN_1, ixN_2, ixN_3, ixN_4, w_var, w_int, w_str, w_bl, w_non, w_glob, w_bin, w_neg, w_cmp, w_cmp2, w_bop, w_b1, w_b2, w_not, w_ite, w_tup, w_lst, w_ix, w_sl, w_call, w_bi, w_mt, w_isi, w_lc, w_frz, w_es0, w_es1, w_o0, w_o1, w_tval, w_tcmp, w_tcmp2, w_tnot, w_tall, w_tany, w_all0, w_all1, w_all2, w_any0, w_any1, w_any2, it_t, it_l, w_seq, w_rng1, w_rng2, w_gn, w_gt, w_gi, w_gs0, w_gs1, s_asg, s_asgC, s_par, s_aug, s_expr, s_if, s_for, s_while, s_ret, s_retN, s_brk, s_cont, s_pass, s_nil, frz_l, frz_m, bin_add, bin_adds, bin_sub, bin_mul, bin_fdiv, bin_mod, bin_pow, bin_xor, cmp_lt, cmp_le, cmp_gt, cmp_ge, cmp_eqi, cmp_eqs, cmp_eqb, cmp_nei, cmp_nes, cmp_neb, cmp_is0, cmp_is1, cmp_is2, cmp_is3, cmp_is4, cmp_is5, cmp_is6, cmp_isn0, cmp_isn1, cmp_isn2, cmp_isn3, cmp_isn4, cmp_isn5, cmp_in, cmp_notin, bi_lens, bi_lent, bi_lenl, bi_min, bi_max, bi_abs, bi_listT, bi_listL, bi_tupT, bi_tupL, bi_maxL, bi_minL, bi_sumL, bi_anyL, bi_allL, bi_sorted, seqL_l, items_l, items_t, items_m, w_gl, new_f, new_t, ix_t, ix_l, tru_b, tru_n, tru_i, tru_l, tru_t, isi_b, isi_bi, isi_ii, isi_ib, isi_is, isi_it, isi_il, isi_sb, isi_si, isi_ss, isi_tb, isi_ti, isi_ts, isi_tt, isi_tl, isi_lb, isi_li, isi_ls, isi_lt, isi_ll, isi_nb, isi_ni, isi_ns, isi_nt, isi_nl, ix_m, tru_m, bi_lenm, seqL_m, mt_appm, mt_popm, mtOk_appm, mtOk_popm, it_m, ixSt_m]
  generalize hM2 : mset M p (some d.o) = M2
  unfold b__law_cut_far_4
  refine @wp_seq G _ _ k _ _ (cutMid p (mtg a b m t) M2 (clipLo B m' t C) (clipHi A B m' t C) A B m' t T C L) ?_ ?_
  · simp only [Int.reduceNeg, Int.reduceAdd, Int.reduceSub, Int.reduceMul, cpow_10, cpow_2, Int.reduceLE, Int.reduceLT, Int.reduceToNat, Int.reducePow, mset_same, mset_mset, Tgs.len, List.getElem?_cons_zero, List.getElem?_cons_succ, List.set_cons_zero, List.set_cons_succ, List.getElem?_nil, Option.some.injEq, exists_eq_left', exists_eq_left, true_and, and_true, if_true, if_false, Bool.false_eq_true, reduceCtorEq, Dt.int.injEq, Dt.bl.injEq, Dt.str.injEq, Dt.lst.injEq, Dt.tup.injEq, Dt.ref.injEq, decide_eq_true_eq, List.length_cons, List.length_nil, Nat.zero_add, Nat.reduceAdd, Option.map_some, Bool.not_true, Bool.not_false, atI_0, atI_1, atI_2, atI_3, atI_4, ixN_0, ixN_1, ixN_2, ixN_3, ixN_4, w_var, w_int, w_str, w_bl, w_non, w_glob, w_bin, w_neg, w_cmp, w_cmp2, w_bop, w_b1, w_b2, w_not, w_ite, w_tup, w_lst, w_ix, w_sl, w_call, w_bi, w_mt, w_isi, w_lc, w_frz, w_es0, w_es1, w_o0, w_o1, w_tval, w_tcmp, w_tcmp2, w_tnot, w_tall, w_tany, w_all0, w_all1, w_all2, w_any0, w_any1, w_any2, it_t, it_l, w_seq, w_rng1, w_rng2, w_gn, w_gt, w_gi, w_gs0, w_gs1, s_asg, s_asgC, s_par, s_aug, s_expr, s_if, s_for, s_while, s_ret, s_retN, s_brk, s_cont, s_pass, s_nil, frz_l, frz_m, bin_add, bin_adds, bin_sub, bin_mul, bin_fdiv, bin_mod, bin_pow, bin_xor, cmp_lt, cmp_le, cmp_gt, cmp_ge, cmp_eqi, cmp_eqs, cmp_eqb, cmp_nei, cmp_nes, cmp_neb, cmp_is0, cmp_is1, cmp_is2, cmp_is3, cmp_is4, cmp_is5, cmp_is6, cmp_isn0, cmp_isn1, cmp_isn2, cmp_isn3, cmp_isn4, cmp_isn5, cmp_in, cmp_notin, bi_lens, bi_lent, bi_lenl, bi_min, bi_max, bi_abs, bi_listT, bi_listL, bi_tupT, bi_tupL, bi_maxL, bi_minL, bi_sumL, bi_anyL, bi_allL, bi_sorted, seqL_l, items_l, items_t, items_m, w_gl, new_f, new_t, ix_t, ix_l, tru_b, tru_n, tru_i, tru_l, tru_t, isi_b, isi_bi, isi_ii, isi_ib, isi_is, isi_it, isi_il, isi_sb, isi_si, isi_ss, isi_tb, isi_ti, isi_ts, isi_tt, isi_tl, isi_lb, isi_li, isi_ls, isi_lt, isi_ll, isi_nb, isi_ni, isi_ns, isi_nt, isi_nl, ix_m, tru_m, bi_lenm, seqL_m, mt_appm, mt_popm, mtOk_appm, mtOk_popm, it_m, ixSt_m]
    unfold cutMid clipLo clipHi
    split
    · rename_i ht
      unfold b__law_cut_far_5
      rw [wpSs_cons]
      simp only [Int.reduceNeg, Int.reduceAdd, Int.reduceSub, Int.reduceMul, cpow_10, cpow_2, Int.reduceLE, Int.reduceLT, Int.reduceToNat, Int.reducePow, mset_same, mset_mset, Tgs.len, List.getElem?_cons_zero, List.getElem?_cons_succ, List.set_cons_zero, List.set_cons_succ, List.getElem?_nil, Option.some.injEq, exists_eq_left', exists_eq_left, true_and, and_true, if_true, if_false, Bool.false_eq_true, reduceCtorEq, Dt.int.injEq, Dt.bl.injEq, Dt.str.injEq, Dt.lst.injEq, Dt.tup.injEq, Dt.ref.injEq, decide_eq_true_eq, List.length_cons, List.length_nil, Nat.zero_add, Nat.reduceAdd, Option.map_some, Bool.not_true, Bool.not_false, atI_0, atI_1, atI_2, atI_3, atI_4, ixN_0, ixN_1, ixN_2, ixN_3, ixN_4, w_var, w_int, w_str, w_bl, w_non, w_glob, w_bin, w_neg, w_cmp, w_cmp2, w_bop, w_b1, w_b2, w_not, w_ite, w_tup, w_lst, w_ix, w_sl, w_call, w_bi, w_mt, w_isi, w_lc, w_frz, w_es0, w_es1, w_o0, w_o1, w_tval, w_tcmp, w_tcmp2, w_tnot, w_tall, w_tany, w_all0, w_all1, w_all2, w_any0, w_any1, w_any2, it_t, it_l, w_seq, w_rng1, w_rng2, w_gn, w_gt, w_gi, w_gs0, w_gs1, s_asg, s_asgC, s_par, s_aug, s_expr, s_if, s_for, s_while, s_ret, s_retN, s_brk, s_cont, s_pass, s_nil, frz_l, frz_m, bin_add, bin_adds, bin_sub, bin_mul, bin_fdiv, bin_mod, bin_pow, bin_xor, cmp_lt, cmp_le, cmp_gt, cmp_ge, cmp_eqi, cmp_eqs, cmp_eqb, cmp_nei, cmp_nes, cmp_neb, cmp_is0, cmp_is1, cmp_is2, cmp_is3, cmp_is4, cmp_is5, cmp_is6, cmp_isn0, cmp_isn1, cmp_isn2, cmp_isn3, cmp_isn4, cmp_isn5, cmp_in, cmp_notin, bi_lens, bi_lent, bi_lenl, bi_min, bi_max, bi_abs, bi_listT, bi_listL, bi_tupT, bi_tupL, bi_maxL, bi_minL, bi_sumL, bi_anyL, bi_allL, bi_sorted, seqL_l, items_l, items_t, items_m, w_gl, new_f, new_t, ix_t, ix_l, tru_b, tru_n, tru_i, tru_l, tru_t, isi_b, isi_bi, isi_ii, isi_ib, isi_is, isi_it, isi_il, isi_sb, isi_si, isi_ss, isi_tb, isi_ti, isi_ts, isi_tt, isi_tl, isi_lb, isi_li, isi_ls, isi_lt, isi_ll, isi_nb, isi_ni, isi_ns, isi_nt, isi_nl, ix_m, tru_m, bi_lenm, seqL_m, mt_appm, mt_popm, mtOk_appm, mtOk_popm, it_m, ixSt_m]
    · rename_i ht
      unfold b__law_cut_far_6
      rw [wpSs_cons]
      simp only [Int.reduceNeg, Int.reduceAdd, Int.reduceSub, Int.reduceMul, cpow_10, cpow_2, Int.reduceLE, Int.reduceLT, Int.reduceToNat, Int.reducePow, mset_same, mset_mset, Tgs.len, List.getElem?_cons_zero, List.getElem?_cons_succ, List.set_cons_zero, List.set_cons_succ, List.getElem?_nil, Option.some.injEq, exists_eq_left', exists_eq_left, true_and, and_true, if_true, if_false, Bool.false_eq_true, reduceCtorEq, Dt.int.injEq, Dt.bl.injEq, Dt.str.injEq, Dt.lst.injEq, Dt.tup.injEq, Dt.ref.injEq, decide_eq_true_eq, List.length_cons, List.length_nil, Nat.zero_add, Nat.reduceAdd, Option.map_some, Bool.not_true, Bool.not_false, atI_0, atI_1, atI_2, atI_3, atI_4, ixN_0, ixN_1, ixN_2, ixN_3, ixN_4, w_var, w_int, w_str, w_bl, w_non, w_glob, w_bin, w_neg, w_cmp, w_cmp2, w_bop, w_b1, w_b2, w_not, w_ite, w_tup, w_lst, w_ix, w_sl, w_call, w_bi, w_mt, w_isi, w_lc, w_frz, w_es0, w_es1, w_o0, w_o1, w_tval, w_tcmp, w_tcmp2, w_tnot, w_tall, w_tany, w_all0, w_all1, w_all2, w_any0, w_any1, w_any2, it_t, it_l, w_seq, w_rng1, w_rng2, w_gn, w_gt, w_gi, w_gs0, w_gs1, s_asg, s_asgC, s_par, s_aug, s_expr, s_if, s_for, s_while, s_ret, s_retN, s_brk, s_cont, s_pass, s_nil, frz_l, frz_m, bin_add, bin_adds, bin_sub, bin_mul, bin_fdiv, bin_mod, bin_pow, bin_xor, cmp_lt, cmp_le, cmp_gt, cmp_ge, cmp_eqi, cmp_eqs, cmp_eqb, cmp_nei, cmp_nes, cmp_neb, cmp_is0, cmp_is1, cmp_is2, cmp_is3, cmp_is4, cmp_is5, cmp_is6, cmp_isn0, cmp_isn1, cmp_isn2, cmp_isn3, cmp_isn4, cmp_isn5, cmp_in, cmp_notin, bi_lens, bi_lent, bi_lenl, bi_min, bi_max, bi_abs, bi_listT, bi_listL, bi_tupT, bi_tupL, bi_maxL, bi_minL, bi_sumL, bi_anyL, bi_allL, bi_sorted, seqL_l, items_l, items_t, items_m, w_gl, new_f, new_t, ix_t, ix_l, tru_b, tru_n, tru_i, tru_l, tru_t, isi_b, isi_bi, isi_ii, isi_ib, isi_is, isi_it, isi_il, isi_sb, isi_si, isi_ss, isi_tb, isi_ti, isi_ts, isi_tt, isi_tl, isi_lb, isi_li, isi_ls, isi_lt, isi_ll, isi_nb, isi_ni, isi_ns, isi_nt, isi_nl, ix_m, tru_m, bi_lenm, seqL_m, mt_appm, mt_popm, mtOk_appm, mtOk_popm, it_m, ixSt_m]
  · rintro ρ' M' ⟨rfl, rfl⟩
    unfold b__law_cut_far_7
    rw [wpSs_cons]
    have tail : ∀ u : Dt, wpSs G b__law_cut_far_10 k [some (.ref p), some (mtg a b m t), some (.int L), some (.int T), some (.int A), some (.int B), some (.int m'), some (.int t), some (.int C), some (.int (clipLo B m' t C)), some (.int (clipHi A B m' t C)), some u] M2 := by
      intro u
      unfold b__law_cut_far_10
      rw [wpSs_cons]
      simp only [Int.reduceNeg, Int.reduceAdd, Int.reduceSub, Int.reduceMul, cpow_10, cpow_2, Int.reduceLE, Int.reduceLT, Int.reduceToNat, Int.reducePow, mset_same, mset_mset, Tgs.len, List.getElem?_cons_zero, List.getElem?_cons_succ, List.set_cons_zero, List.set_cons_succ, List.getElem?_nil, Option.some.injEq, exists_eq_left', exists_eq_left, true_and, and_true, if_true, if_false, Bool.false_eq_true, reduceCtorEq, Dt.int.injEq, Dt.bl.injEq, Dt.str.injEq, Dt.lst.injEq, Dt.tup.injEq, Dt.ref.injEq, decide_eq_true_eq, List.length_cons, List.length_nil, Nat.zero_add, Nat.reduceAdd, Option.map_some, Bool.not_true, Bool.not_false, atI_0, atI_1, atI_2, atI_3, atI_4, ixN_0, ixN_1, ixN_2, ixN_3, ixN_4, w_var, w_int, w_str, w_bl, w_non, w_glob, w_bin, w_neg, w_cmp, w_cmp2, w_bop, w_b1, w_b2, w_not, w_ite, w_tup, w_lst, w_ix, w_sl, w_call, w_bi, w_mt, w_isi, w_lc, w_frz, w_es0, w_es1, w_o0, w_o1, w_tval, w_tcmp, w_tcmp2, w_tnot, w_tall, w_tany, w_all0, w_all1, w_all2, w_any0, w_any1, w_any2, it_t, it_l, w_seq, w_rng1, w_rng2, w_gn, w_gt, w_gi, w_gs0, w_gs1, s_asg, s_asgC, s_par, s_aug, s_expr, s_if, s_for, s_while, s_ret, s_retN, s_brk, s_cont, s_pass, s_nil, frz_l, frz_m, bin_add, bin_adds, bin_sub, bin_mul, bin_fdiv, bin_mod, bin_pow, bin_xor, cmp_lt, cmp_le, cmp_gt, cmp_ge, cmp_eqi, cmp_eqs, cmp_eqb, cmp_nei, cmp_nes, cmp_neb, cmp_is0, cmp_is1, cmp_is2, cmp_is3, cmp_is4, cmp_is5, cmp_is6, cmp_isn0, cmp_isn1, cmp_isn2, cmp_isn3, cmp_isn4, cmp_isn5, cmp_in, cmp_notin, bi_lens, bi_lent, bi_lenl, bi_min, bi_max, bi_abs, bi_listT, bi_listL, bi_tupT, bi_tupL, bi_maxL, bi_minL, bi_sumL, bi_anyL, bi_allL, bi_sorted, seqL_l, items_l, items_t, items_m, w_gl, new_f, new_t, ix_t, ix_l, tru_b, tru_n, tru_i, tru_l, tru_t, isi_b, isi_bi, isi_ii, isi_ib, isi_is, isi_it, isi_il, isi_sb, isi_si, isi_ss, isi_tb, isi_ti, isi_ts, isi_tt, isi_tl, isi_lb, isi_li, isi_ls, isi_lt, isi_ll, isi_nb, isi_ni, isi_ns, isi_nt, isi_nl, ix_m, tru_m, bi_lenm, seqL_m, mt_appm, mt_popm, mtOk_appm, mtOk_popm, it_m, ixSt_m]
      refine hsw a b m t T _ _ _ (by omega) (by omega) ?_
      refine ⟨sz (by decide), ?_⟩
      rw [hA, hB, hm]
      refine hli _ _ _ _ _ like_m ?_
      rw [hrt, ← hM2]
      exact h d hd
    have go : ∀ z : Int, z = (if t = 1 then B + m' - clipHi A B m' t C else B + clipLo B m' t C) → wpSs G b__law_cut_far_8 k [some (.ref p), some (mtg a b m t), some (.int L), some (.int T), some (.int A), some (.int B), some (.int m'), some (.int t), some (.int C), some (.int (clipLo B m' t C)), some (.int (clipHi A B m' t C)), some (mtg (A + clipLo B m' t C) z (clipHi A B m' t C - clipLo B m' t C) t)] M2 := by
      rintro z hz
      unfold b__law_cut_far_8
      rw [wpSs_cons]
      simp only [Int.reduceNeg, Int.reduceAdd, Int.reduceSub, Int.reduceMul, cpow_10, cpow_2, Int.reduceLE, Int.reduceLT, Int.reduceToNat, Int.reducePow, mset_same, mset_mset, Tgs.len, List.getElem?_cons_zero, List.getElem?_cons_succ, List.set_cons_zero, List.set_cons_succ, List.getElem?_nil, Option.some.injEq, exists_eq_left', exists_eq_left, true_and, and_true, if_true, if_false, Bool.false_eq_true, reduceCtorEq, Dt.int.injEq, Dt.bl.injEq, Dt.str.injEq, Dt.lst.injEq, Dt.tup.injEq, Dt.ref.injEq, decide_eq_true_eq, List.length_cons, List.length_nil, Nat.zero_add, Nat.reduceAdd, Option.map_some, Bool.not_true, Bool.not_false, atI_0, atI_1, atI_2, atI_3, atI_4, ixN_0, ixN_1, ixN_2, ixN_3, ixN_4, w_var, w_int, w_str, w_bl, w_non, w_glob, w_bin, w_neg, w_cmp, w_cmp2, w_bop, w_b1, w_b2, w_not, w_ite, w_tup, w_lst, w_ix, w_sl, w_call, w_bi, w_mt, w_isi, w_lc, w_frz, w_es0, w_es1, w_o0, w_o1, w_tval, w_tcmp, w_tcmp2, w_tnot, w_tall, w_tany, w_all0, w_all1, w_all2, w_any0, w_any1, w_any2, it_t, it_l, w_seq, w_rng1, w_rng2, w_gn, w_gt, w_gi, w_gs0, w_gs1, s_asg, s_asgC, s_par, s_aug, s_expr, s_if, s_for, s_while, s_ret, s_retN, s_brk, s_cont, s_pass, s_nil, frz_l, frz_m, bin_add, bin_adds, bin_sub, bin_mul, bin_fdiv, bin_mod, bin_pow, bin_xor, cmp_lt, cmp_le, cmp_gt, cmp_ge, cmp_eqi, cmp_eqs, cmp_eqb, cmp_nei, cmp_nes, cmp_neb, cmp_is0, cmp_is1, cmp_is2, cmp_is3, cmp_is4, cmp_is5, cmp_is6, cmp_isn0, cmp_isn1, cmp_isn2, cmp_isn3, cmp_isn4, cmp_isn5, cmp_in, cmp_notin, bi_lens, bi_lent, bi_lenl, bi_min, bi_max, bi_abs, bi_listT, bi_listL, bi_tupT, bi_tupL, bi_maxL, bi_minL, bi_sumL, bi_anyL, bi_allL, bi_sorted, seqL_l, items_l, items_t, items_m, w_gl, new_f, new_t, ix_t, ix_l, tru_b, tru_n, tru_i, tru_l, tru_t, isi_b, isi_bi, isi_ii, isi_ib, isi_is, isi_it, isi_il, isi_sb, isi_si, isi_ss, isi_tb, isi_ti, isi_ts, isi_tt, isi_tl, isi_lb, isi_li, isi_ls, isi_lt, isi_ll, isi_nb, isi_ni, isi_ns, isi_nt, isi_nl, ix_m, tru_m, bi_lenm, seqL_m, mt_appm, mt_popm, mtOk_appm, mtOk_popm, it_m, ixSt_m]
      refine ⟨sz (by decide), hcl A B m' t C _ _ _ ?_⟩
      by_cases hc : clipLo B m' t C < clipHi A B m' t C
      · have e : mtg (A + clipLo B m' t C) z (clipHi A B m' t C - clipLo B m' t C) t = clipD A B m' t C := by
          unfold clipD
          rw [if_neg (by omega), hz]
        simp only [hc, if_true]
        rw [e]
        refine hli _ _ _ _ _ like_clip ?_
        simp only [Int.reduceNeg, Int.reduceAdd, Int.reduceSub, Int.reduceMul, cpow_10, cpow_2, Int.reduceLE, Int.reduceLT, Int.reduceToNat, Int.reducePow, mset_same, mset_mset, Tgs.len, List.getElem?_cons_zero, List.getElem?_cons_succ, List.set_cons_zero, List.set_cons_succ, List.getElem?_nil, Option.some.injEq, exists_eq_left', exists_eq_left, true_and, and_true, if_true, if_false, Bool.false_eq_true, reduceCtorEq, Dt.int.injEq, Dt.bl.injEq, Dt.str.injEq, Dt.lst.injEq, Dt.tup.injEq, Dt.ref.injEq, decide_eq_true_eq, List.length_cons, List.length_nil, Nat.zero_add, Nat.reduceAdd, Option.map_some, Bool.not_true, Bool.not_false, atI_0, atI_1, atI_2, atI_3, atI_4, ixN_0, ixN_1, ixN_2, ixN_3, ixN_4, w_var, w_int, w_str, w_bl, w_non, w_glob, w_bin, w_neg, w_cmp, w_cmp2, w_bop, w_b1, w_b2, w_not, w_ite, w_tup, w_lst, w_ix, w_sl, w_call, w_bi, w_mt, w_isi, w_lc, w_frz, w_es0, w_es1, w_o0, w_o1, w_tval, w_tcmp, w_tcmp2, w_tnot, w_tall, w_tany, w_all0, w_all1, w_all2, w_any0, w_any1, w_any2, it_t, it_l, w_seq, w_rng1, w_rng2, w_gn, w_gt, w_gi, w_gs0, w_gs1, s_asg, s_asgC, s_par, s_aug, s_expr, s_if, s_for, s_while, s_ret, s_retN, s_brk, s_cont, s_pass, s_nil, frz_l, frz_m, bin_add, bin_adds, bin_sub, bin_mul, bin_fdiv, bin_mod, bin_pow, bin_xor, cmp_lt, cmp_le, cmp_gt, cmp_ge, cmp_eqi, cmp_eqs, cmp_eqb, cmp_nei, cmp_nes, cmp_neb, cmp_is0, cmp_is1, cmp_is2, cmp_is3, cmp_is4, cmp_is5, cmp_is6, cmp_isn0, cmp_isn1, cmp_isn2, cmp_isn3, cmp_isn4, cmp_isn5, cmp_in, cmp_notin, bi_lens, bi_lent, bi_lenl, bi_min, bi_max, bi_abs, bi_listT, bi_listL, bi_tupT, bi_tupL, bi_maxL, bi_minL, bi_sumL, bi_anyL, bi_allL, bi_sorted, seqL_l, items_l, items_t, items_m, w_gl, new_f, new_t, ix_t, ix_l, tru_b, tru_n, tru_i, tru_l, tru_t, isi_b, isi_bi, isi_ii, isi_ib, isi_is, isi_it, isi_il, isi_sb, isi_si, isi_ss, isi_tb, isi_ti, isi_ts, isi_tt, isi_tl, isi_lb, isi_li, isi_ls, isi_lt, isi_ll, isi_nb, isi_ni, isi_ns, isi_nt, isi_nl, ix_m, tru_m, bi_lenm, seqL_m, mt_appm, mt_popm, mtOk_appm, mtOk_popm, it_m, ixSt_m]
        exact tail _
      · have e : clipD A B m' t C = .non := by
          unfold clipD
          rw [if_pos (by omega)]
        simp only [hc, if_false]
        rw [e]
        refine hli _ _ _ _ _ like_n ?_
        simp only [Int.reduceNeg, Int.reduceAdd, Int.reduceSub, Int.reduceMul, cpow_10, cpow_2, Int.reduceLE, Int.reduceLT, Int.reduceToNat, Int.reducePow, mset_same, mset_mset, Tgs.len, List.getElem?_cons_zero, List.getElem?_cons_succ, List.set_cons_zero, List.set_cons_succ, List.getElem?_nil, Option.some.injEq, exists_eq_left', exists_eq_left, true_and, and_true, if_true, if_false, Bool.false_eq_true, reduceCtorEq, Dt.int.injEq, Dt.bl.injEq, Dt.str.injEq, Dt.lst.injEq, Dt.tup.injEq, Dt.ref.injEq, decide_eq_true_eq, List.length_cons, List.length_nil, Nat.zero_add, Nat.reduceAdd, Option.map_some, Bool.not_true, Bool.not_false, atI_0, atI_1, atI_2, atI_3, atI_4, ixN_0, ixN_1, ixN_2, ixN_3, ixN_4, w_var, w_int, w_str, w_bl, w_non, w_glob, w_bin, w_neg, w_cmp, w_cmp2, w_bop, w_b1, w_b2, w_not, w_ite, w_tup, w_lst, w_ix, w_sl, w_call, w_bi, w_mt, w_isi, w_lc, w_frz, w_es0, w_es1, w_o0, w_o1, w_tval, w_tcmp, w_tcmp2, w_tnot, w_tall, w_tany, w_all0, w_all1, w_all2, w_any0, w_any1, w_any2, it_t, it_l, w_seq, w_rng1, w_rng2, w_gn, w_gt, w_gi, w_gs0, w_gs1, s_asg, s_asgC, s_par, s_aug, s_expr, s_if, s_for, s_while, s_ret, s_retN, s_brk, s_cont, s_pass, s_nil, frz_l, frz_m, bin_add, bin_adds, bin_sub, bin_mul, bin_fdiv, bin_mod, bin_pow, bin_xor, cmp_lt, cmp_le, cmp_gt, cmp_ge, cmp_eqi, cmp_eqs, cmp_eqb, cmp_nei, cmp_nes, cmp_neb, cmp_is0, cmp_is1, cmp_is2, cmp_is3, cmp_is4, cmp_is5, cmp_is6, cmp_isn0, cmp_isn1, cmp_isn2, cmp_isn3, cmp_isn4, cmp_isn5, cmp_in, cmp_notin, bi_lens, bi_lent, bi_lenl, bi_min, bi_max, bi_abs, bi_listT, bi_listL, bi_tupT, bi_tupL, bi_maxL, bi_minL, bi_sumL, bi_anyL, bi_allL, bi_sorted, seqL_l, items_l, items_t, items_m, w_gl, new_f, new_t, ix_t, ix_l, tru_b, tru_n, tru_i, tru_l, tru_t, isi_b, isi_bi, isi_ii, isi_ib, isi_is, isi_it, isi_il, isi_sb, isi_si, isi_ss, isi_tb, isi_ti, isi_ts, isi_tt, isi_tl, isi_lb, isi_li, isi_ls, isi_lt, isi_ll, isi_nb, isi_ni, isi_ns, isi_nt, isi_nl, ix_m, tru_m, bi_lenm, seqL_m, mt_appm, mt_popm, mtOk_appm, mtOk_popm, it_m, ixSt_m]
        exact tail _
    simp only [Int.reduceNeg, Int.reduceAdd, Int.reduceSub, Int.reduceMul, cpow_10, cpow_2, Int.reduceLE, Int.reduceLT, Int.reduceToNat, Int.reducePow, mset_same, mset_mset, Tgs.len, List.getElem?_cons_zero, List.getElem?_cons_succ, List.set_cons_zero, List.set_cons_succ, List.getElem?_nil, Option.some.injEq, exists_eq_left', exists_eq_left, true_and, and_true, if_true, if_false, Bool.false_eq_true, reduceCtorEq, Dt.int.injEq, Dt.bl.injEq, Dt.str.injEq, Dt.lst.injEq, Dt.tup.injEq, Dt.ref.injEq, decide_eq_true_eq, List.length_cons, List.length_nil, Nat.zero_add, Nat.reduceAdd, Option.map_some, Bool.not_true, Bool.not_false, atI_0, atI_1, atI_2, atI_3, atI_4, ixN_0, ixN_1, ixN_2, ixN_3, ixN_4, w_var, w_int, w_str, w_bl, w_non, w_glob, w_bin, w_neg, w_cmp, w_cmp2, w_bop, w_b1, w_b2, w_not, w_ite, w_tup, w_lst, w_ix, w_sl, w_call, w_bi, w_mt, w_isi, w_lc, w_frz, w_es0, w_es1, w_o0, w_o1, w_tval, w_tcmp, w_tcmp2, w_tnot, w_tall, w_tany, w_all0, w_all1, w_all2, w_any0, w_any1, w_any2, it_t, it_l, w_seq, w_rng1, w_rng2, w_gn, w_gt, w_gi, w_gs0, w_gs1, s_asg, s_asgC, s_par, s_aug, s_expr, s_if, s_for, s_while, s_ret, s_retN, s_brk, s_cont, s_pass, s_nil, frz_l, frz_m, bin_add, bin_adds, bin_sub, bin_mul, bin_fdiv, bin_mod, bin_pow, bin_xor, cmp_lt, cmp_le, cmp_gt, cmp_ge, cmp_eqi, cmp_eqs, cmp_eqb, cmp_nei, cmp_nes, cmp_neb, cmp_is0, cmp_is1, cmp_is2, cmp_is3, cmp_is4, cmp_is5, cmp_is6, cmp_isn0, cmp_isn1, cmp_isn2, cmp_isn3, cmp_isn4, cmp_isn5, cmp_in, cmp_notin, bi_lens, bi_lent, bi_lenl, bi_min, bi_max, bi_abs, bi_listT, bi_listL, bi_tupT, bi_tupL, bi_maxL, bi_minL, bi_sumL, bi_anyL, bi_allL, bi_sorted, seqL_l, items_l, items_t, items_m, w_gl, new_f, new_t, ix_t, ix_l, tru_b, tru_n, tru_i, tru_l, tru_t, isi_b, isi_bi, isi_ii, isi_ib, isi_is, isi_it, isi_il, isi_sb, isi_si, isi_ss, isi_tb, isi_ti, isi_ts, isi_tt, isi_tl, isi_lb, isi_li, isi_ls, isi_lt, isi_ll, isi_nb, isi_ni, isi_ns, isi_nt, isi_nl, ix_m, tru_m, bi_lenm, seqL_m, mt_appm, mt_popm, mtOk_appm, mtOk_popm, it_m, ixSt_m]
    split
    · rename_i ht
      exact ⟨sz (by decide), go _ (by rw [if_pos ht])⟩
    · rename_i ht
      exact ⟨sz (by decide), go _ (by rw [if_neg ht])⟩
end Fm

/-! One mating after another; pairs of places in order. -/
namespace Fm
open PySem L2 PySem.Spec PyProof.Rows
theorem fm_congr {α β : Type} {f g : α → Option β} : ∀ {l : List α}, (∀ x, x ∈ l → f x = g x) → l.filterMap f = l.filterMap g
  | [], _ => rfl
  | a :: l, h => by
    rw [List.filterMap_cons, List.filterMap_cons, h a List.mem_cons_self, fm_congr fun x hx => h x (List.mem_cons_of_mem _ hx)]
theorem filter_range {α : Type} (g : Nat → α) (lo hi : Nat) : ∀ n : Nat, (List.range n).filterMap (fun j => if lo ≤ j ∧ j < hi then some (g j) else none) = (List.range (min hi n - lo)).map fun i => g (lo + i)
  | 0 => by rw [Nat.min_zero, Nat.zero_sub]; rfl
  | n + 1 => by
    rw [List.range_succ, List.filterMap_append, filter_range g lo hi n]
    by_cases h : lo ≤ n ∧ n < hi
    · have e : min hi (n + 1) - lo = (min hi n - lo) + 1 := by omega
      rw [e, List.range_succ, List.map_append]
      congr 1
      show (match (if lo ≤ n ∧ n < hi then some (g n) else none) with
        | none => []
        | some b => [b]) = [g (lo + (min hi n - lo))]
      rw [if_pos h]
      have : lo + (min hi n - lo) = n := by omega
      rw [this]
    · have e : min hi (n + 1) - lo = min hi n - lo := by omega
      rw [e]
      show _ ++ (match (if lo ≤ n ∧ n < hi then some (g n) else none) with
        | none => []
        | some b => [b]) = _
      rw [if_neg h, List.append_nil]
theorem plain_ends {a b m t : Int} {n : Nat} : ∀ d, d ∈ endsL a b m t → Plain (n + 1) d := by
  intro d hd
  obtain ⟨j, _, rfl⟩ := List.mem_map.mp hd
  intro x hx
  simp only [List.mem_cons, List.not_mem_nil, or_false] at hx
  rcases hx with rfl | rfl <;> (cases n <;> trivial)
theorem like_ends {M : Mm} {n : Nat} {a b m t : Int} : ∀ x, x ∈ endsL a b m t → Like M (n + 2) x x := by
  intro x hx
  obtain ⟨j, _, rfl⟩ := List.mem_map.mp hx
  refine like_t (by show 2 ≤ 16777216; decide) fun y hy => ?_
  simp only [List.mem_cons, List.not_mem_nil, or_false] at hy
  rcases hy with rfl | rfl <;> exact like_i
theorem len_ends {a b m t : Int} : (endsL a b m t).length = m.toNat := by
  unfold endsL
  rw [List.length_map, List.length_range]
def b_after_5 : Sms := .cons (.ret (.tup (.cons (.ix (.var 5) (.int 0)) (.cons (.ix (.var 6) (.int 1)) (.cons (.bin .sub (.var 4) (.var 3)) (.cons (.bin .xor (.ix (.var 5) (.int 3)) (.ix (.var 6) (.int 3))) (.nil))))))) .nil
def b_after_4 : Sms := .cons (.par 5 6 (.call 4 (.cons (.call 7 (.cons (.var 2) (.cons (.var 3) (.cons (.bin .sub (.var 4) (.var 3)) (.nil))))) (.nil))) (.call 7 (.cons (.var 1) (.cons (.var 3) (.cons (.bin .sub (.var 4) (.var 3)) (.nil)))))) b_after_5
def b_after_3 : Sms := .cons (.ret (.non)) .nil
def b_after_2 : Sms := .cons (.if_ (.cmp .ge (.var 3) (.var 4)) (b_after_3) (.nil)) b_after_4
def b_after_1 : Sms := .cons (.par 3 4 (.bi (.max2) (.cons (.ix (.var 2) (.int 0)) (.cons (.ix (.var 1) (.int 0)) (.nil)))) (.bi (.min2) (.cons (.bin .add (.ix (.var 2) (.int 0)) (.ix (.var 2) (.int 2))) (.cons (.bin .add (.ix (.var 1) (.int 0)) (.ix (.var 1) (.int 2))) (.nil))))) b_after_2
def b_after_0 : Sms := .cons (.asg (.name 2) (.call 4 (.cons (.var 0) (.nil)))) b_after_1
abbrev b_after : Sms := b_after_0
abbrev n_after : List Str := ["first", "second", "way", "low", "high", "head", "tail"]
def b__law_after_far_8 : Sms := .cons (.ret (.call 53 (.cons (.call 72 (.cons (.var 2) (.cons (.var 3) (.nil)))) (.cons (.tup (.cons (.var 10) (.cons (.var 11) (.cons (.bin .sub (.var 9) (.var 8)) (.cons (.bin .mod (.bin .add (.var 7) (.ix (.var 3) (.int 3))) (.int 2)) (.nil)))))) (.nil))))) .nil
def b__law_after_far_7 : Sms := .cons (.asg (.name 11) (.ite (.cmp .eq (.ix (.var 3) (.int 3)) (.int 1)) (.bin .sub (.bin .add (.ix (.var 3) (.int 1)) (.ix (.var 3) (.int 2))) (.bin .sub (.var 9) (.ix (.var 3) (.int 0)))) (.bin .sub (.bin .add (.ix (.var 3) (.int 1)) (.var 8)) (.ix (.var 3) (.int 0))))) b__law_after_far_8
def b__law_after_far_6 : Sms := .cons (.asg (.name 10) (.ite (.cmp .eq (.var 7) (.int 1)) (.bin .sub (.bin .add (.var 4) (.var 6)) (.bin .sub (.var 9) (.var 5))) (.bin .sub (.bin .add (.var 4) (.var 8)) (.var 5)))) b__law_after_far_7
def b__law_after_far_5 : Sms := .cons (.ret (.cmp .is_ (.call 72 (.cons (.var 2) (.cons (.var 3) (.nil)))) (.non))) .nil
def b__law_after_far_4 : Sms := .cons (.if_ (.cmp .ge (.var 8) (.var 9)) (b__law_after_far_5) (.nil)) b__law_after_far_6
def b__law_after_far_3 : Sms := .cons (.par 8 9 (.bi (.max2) (.cons (.var 5) (.cons (.ix (.var 3) (.int 0)) (.nil)))) (.bi (.min2) (.cons (.bin .add (.var 5) (.var 6)) (.cons (.bin .add (.ix (.var 3) (.int 0)) (.ix (.var 3) (.int 2))) (.nil))))) b__law_after_far_4
def b__law_after_far_2 : Sms := .cons (.asg (.tup (.cons (.name 4) (.cons (.name 5) (.cons (.name 6) (.cons (.name 7) (.nil)))))) (.var 2)) b__law_after_far_3
def b__law_after_far_1 : Sms := .cons (.asg (.tup (.cons (.name 2) (.cons (.name 3) (.nil)))) (.lc false [("_law_k", 12)] (.name 12) (.rng1 (.int 2)) (.nil) (.ix (.call 69 (.cons (.lst false (.cons (.call 65 (.cons (.var 0) (.cons (.int 20) (.nil)))) (.nil))) (.cons (.var 1) (.nil)))) (.int 0)))) b__law_after_far_2
def b__law_after_far_0 : Sms := .cons (.asg (.name 1) (.bin .add (.int 1) (.call 51 (.cons (.var 0) (.cons (.bin .pow (.int 10) (.int 15)) (.nil)))))) b__law_after_far_1
abbrev b__law_after_far : Sms := b__law_after_far_0
abbrev n__law_after_far : List Str := ["_law_draw", "_law_times", "_law_first", "_law_second", "_law_one", "_law_other", "_law_many", "_law_flips", "_law_low", "_law_high", "_law_begin", "_law_end", "_law_k"]

theorem lcRun_nil {step : Dt → Mm → (Option Dt → Mm → Prop) → Prop} {acc : List Dt} {M : Mm} {q : QL} : lcRun step [] acc M q = q acc M := rfl
/-- pairs of places stand in order -/
theorem en_pair {x y : Int} : enD (.tup [.int x, .int y]) = .tuple [.int x, .int y] := rfl
theorem le_pair {x y x' y' : Int} (h : x < x') : PySem.W.dataLe false enD (.tup [.int x, .int y]) (.tup [.int x', .int y']) = true := by
  show (!PyProof.Rows.lexLt itemOrd (PySem.W.keyToks (enD (.tup [.int x', .int y']))) (PySem.W.keyToks (enD (.tup [.int x, .int y])))) = true
  rw [en_pair, en_pair]
  show (!PyProof.Rows.lexLt itemOrd (.inl 1 :: .inl x' :: [.inl 1, .inl y', .inl 0]) (.inl 1 :: .inl x :: [.inl 1, .inl y, .inl 0])) = true
  rw [PyProof.Rows.lex_self (O := itemOrd), PyProof.Rows.lex_diff (O := itemOrd) (by intro e; have := Sum.inl.inj e; omega)]
  show (!decide (x' < x)) = true
  rw [decide_eq_false (by omega)]; rfl
theorem sort_ends {a b m t : Int} : (endsL a b m t).mergeSort (PySem.W.dataLe false enD) = endsL a b m t := by
  refine List.mergeSort_of_pairwise ?_
  unfold endsL
  rw [List.pairwise_map]
  refine List.Pairwise.imp ?_ (List.pairwise_lt_range)
  intro i j hij
  exact le_pair (by omega)
theorem sortable_ends {a b m t : Int} : (∀ d, d ∈ endsL a b m t → (pyD d).isSome = true ∧ (enD d).depth ≤ 60) ∧ PySem.W.AllAlike ((endsL a b m t).map enD) ∧ PySem.W.Sortable ((endsL a b m t).map enD) := by
  have h0 : ∀ d, d ∈ (endsL a b m t).map enD → ∃ x y : Int, d = .tuple [.int x, .int y] := by
    intro d hd
    obtain ⟨e, he, rfl⟩ := List.mem_map.mp hd
    obtain ⟨j, _, rfl⟩ := List.mem_map.mp he
    exact ⟨_, _, en_pair⟩
  refine ⟨fun d hd => ?_, fun d hd d' hd' => ?_, .inl fun d hd => ?_⟩
  · obtain ⟨j, _, rfl⟩ := List.mem_map.mp hd
    refine ⟨rfl, ?_⟩
    unfold endP
    rw [en_pair]
    show max 0 (max 0 0) + 1 ≤ 60
    decide
  · obtain ⟨x, y, rfl⟩ := h0 d hd
    obtain ⟨x', y', rfl⟩ := h0 d' hd'
    rfl
  · obtain ⟨x, y, rfl⟩ := h0 d hd
    exact ⟨_, _, rfl⟩
theorem xor01 {s t : Int} (hs : s = 0 ∨ s = 1) (ht : t = 0 ∨ t = 1) : Builtin.bitXor s t = (s + t) % 2 := by
  rcases hs with rfl | rfl <;> rcases ht with rfl | rfl <;> decide +kernel
def aftLo (b1 a2 : Int) : Int := max b1 a2
def aftHi (b1 m1 a2 m2 : Int) : Int := min (b1 + m1) (a2 + m2)
def afterD (a1 b1 m1 t1 a2 b2 m2 t2 : Int) : Dt := if aftHi b1 m1 a2 m2 ≤ aftLo b1 a2 then .non else
  mtg (partB b1 a1 m1 t1 (aftLo b1 a2) (aftHi b1 m1 a2 m2 - aftLo b1 a2)) (partB a2 b2 m2 t2 (aftLo b1 a2) (aftHi b1 m1 a2 m2 - aftLo b1 a2)) (aftHi b1 m1 a2 m2 - aftLo b1 a2) ((t1 + t2) % 2)
def AfterOk (W : Wf) : Prop := ∀ (a1 b1 m1 t1 a2 b2 m2 t2 : Int) M q x, (t1 = 0 ∨ t1 = 1) → (t2 = 0 ∨ t2 = 1) → q (afterD a1 b1 m1 t1 a2 b2 m2 t2) M → W.run [mtg a1 b1 m1 t1, mtg a2 b2 m2 t2] M q x
theorem after_ok (G : Gt) (hb : BackOk (G.call 4)) (hp : PartOk (G.call 7)) : AfterOk (wfB G n_after 2 b_after) := by
  intro a1 b1 m1 t1 a2 b2 m2 t2 M q x h1 h2 h
  refine ⟨rfl, ?_⟩
  have e0 : startR n_after [mtg a1 b1 m1 t1, mtg a2 b2 m2 t2] = [some (mtg a1 b1 m1 t1), some (mtg a2 b2 m2 t2), none, none, none, none, none] := rfl
  rw [e0]
  generalize hk : bodyK q x = k
  have hrt : ∀ d, k.rt d = q d := by intro d; rw [← hk]; rfl
  unfold b_after b_after_0
  rw [wpSs_cons]
  simp only [Int.reduceNeg, Int.reduceAdd, Int.reduceSub, Int.reduceMul, cpow_10, cpow_2, Int.reduceLE, Int.reduceLT, Int.reduceToNat, Int.reducePow, mset_same, mset_mset, Tgs.len, List.getElem?_cons_zero, List.getElem?_cons_succ, List.set_cons_zero, List.set_cons_succ, List.getElem?_nil, Option.some.injEq, exists_eq_left', exists_eq_left, true_and, and_true, if_true, if_false, Bool.false_eq_true, reduceCtorEq, Dt.int.injEq, Dt.bl.injEq, Dt.str.injEq, Dt.lst.injEq, Dt.tup.injEq, Dt.ref.injEq, decide_eq_true_eq, List.length_cons, List.length_nil, Nat.zero_add, Nat.reduceAdd, Option.map_some, Bool.not_true, Bool.not_false, atI_0, atI_1, atI_2, atI_3, atI_4, ixN_0, ixN_1, ixN_2, ixN_3, ixN_4, w_var, w_int, w_str, w_bl, w_non, w_glob, w_bin, w_neg, w_cmp, w_cmp2, w_bop, w_b1, w_b2, w_not, w_ite, w_tup, w_lst, w_ix, w_sl, w_call, w_bi, w_mt, w_isi, w_lc, w_frz, w_es0, w_es1, w_o0, w_o1, w_tval, w_tcmp, w_tcmp2, w_tnot, w_tall, w_tany, w_all0, w_all1, w_all2, w_any0, w_any1, w_any2, it_t, it_l, w_seq, w_rng1, w_rng2, w_gn, w_gt, w_gi, w_gs0, w_gs1, s_asg, s_asgC, s_par, s_aug, s_expr, s_if, s_for, s_while, s_ret, s_retN, s_brk, s_cont, s_pass, s_nil, frz_l, frz_m, bin_add, bin_adds, bin_sub, bin_mul, bin_fdiv, bin_mod, bin_pow, bin_xor, cmp_lt, cmp_le, cmp_gt, cmp_ge, cmp_eqi, cmp_eqs, cmp_eqb, cmp_nei, cmp_nes, cmp_neb, cmp_is0, cmp_is1, cmp_is2, cmp_is3, cmp_is4, cmp_is5, cmp_is6, cmp_isn0, cmp_isn1, cmp_isn2, cmp_isn3, cmp_isn4, cmp_isn5, cmp_in, cmp_notin, bi_lens, bi_lent, bi_lenl, bi_min, bi_max, bi_abs, bi_listT, bi_listL, bi_tupT, bi_tupL, bi_maxL, bi_minL, bi_sumL, bi_anyL, bi_allL, bi_sorted, seqL_l, items_l, items_t, items_m, w_gl, new_f, new_t, ix_t, ix_l, tru_b, tru_n, tru_i, tru_l, tru_t, isi_b, isi_bi, isi_ii, isi_ib, isi_is, isi_it, isi_il, isi_sb, isi_si, isi_ss, isi_tb, isi_ti, isi_ts, isi_tt, isi_tl, isi_lb, isi_li, isi_ls, isi_lt, isi_ll, isi_nb, isi_ni, isi_ns, isi_nt, isi_nl, ix_m, tru_m, bi_lenm, seqL_m, mt_appm, mt_popm, mtOk_appm, mtOk_popm, it_m, ixSt_m]
  refine hb a1 b1 m1 t1 _ _ _ ?_
  unfold b_after_1
  rw [wpSs_cons]
  simp only [Int.reduceNeg, Int.reduceAdd, Int.reduceSub, Int.reduceMul, cpow_10, cpow_2, Int.reduceLE, Int.reduceLT, Int.reduceToNat, Int.reducePow, mset_same, mset_mset, Tgs.len, List.getElem?_cons_zero, List.getElem?_cons_succ, List.set_cons_zero, List.set_cons_succ, List.getElem?_nil, Option.some.injEq, exists_eq_left', exists_eq_left, true_and, and_true, if_true, if_false, Bool.false_eq_true, reduceCtorEq, Dt.int.injEq, Dt.bl.injEq, Dt.str.injEq, Dt.lst.injEq, Dt.tup.injEq, Dt.ref.injEq, decide_eq_true_eq, List.length_cons, List.length_nil, Nat.zero_add, Nat.reduceAdd, Option.map_some, Bool.not_true, Bool.not_false, atI_0, atI_1, atI_2, atI_3, atI_4, ixN_0, ixN_1, ixN_2, ixN_3, ixN_4, w_var, w_int, w_str, w_bl, w_non, w_glob, w_bin, w_neg, w_cmp, w_cmp2, w_bop, w_b1, w_b2, w_not, w_ite, w_tup, w_lst, w_ix, w_sl, w_call, w_bi, w_mt, w_isi, w_lc, w_frz, w_es0, w_es1, w_o0, w_o1, w_tval, w_tcmp, w_tcmp2, w_tnot, w_tall, w_tany, w_all0, w_all1, w_all2, w_any0, w_any1, w_any2, it_t, it_l, w_seq, w_rng1, w_rng2, w_gn, w_gt, w_gi, w_gs0, w_gs1, s_asg, s_asgC, s_par, s_aug, s_expr, s_if, s_for, s_while, s_ret, s_retN, s_brk, s_cont, s_pass, s_nil, frz_l, frz_m, bin_add, bin_adds, bin_sub, bin_mul, bin_fdiv, bin_mod, bin_pow, bin_xor, cmp_lt, cmp_le, cmp_gt, cmp_ge, cmp_eqi, cmp_eqs, cmp_eqb, cmp_nei, cmp_nes, cmp_neb, cmp_is0, cmp_is1, cmp_is2, cmp_is3, cmp_is4, cmp_is5, cmp_is6, cmp_isn0, cmp_isn1, cmp_isn2, cmp_isn3, cmp_isn4, cmp_isn5, cmp_in, cmp_notin, bi_lens, bi_lent, bi_lenl, bi_min, bi_max, bi_abs, bi_listT, bi_listL, bi_tupT, bi_tupL, bi_maxL, bi_minL, bi_sumL, bi_anyL, bi_allL, bi_sorted, seqL_l, items_l, items_t, items_m, w_gl, new_f, new_t, ix_t, ix_l, tru_b, tru_n, tru_i, tru_l, tru_t, isi_b, isi_bi, isi_ii, isi_ib, isi_is, isi_it, isi_il, isi_sb, isi_si, isi_ss, isi_tb, isi_ti, isi_ts, isi_tt, isi_tl, isi_lb, isi_li, isi_ls, isi_lt, isi_ll, isi_nb, isi_ni, isi_ns, isi_nt, isi_nl, ix_m, tru_m, bi_lenm, seqL_m, mt_appm, mt_popm, mtOk_appm, mtOk_popm, it_m, ixSt_m]
  unfold b_after_2
  rw [wpSs_cons]
  simp only [Int.reduceNeg, Int.reduceAdd, Int.reduceSub, Int.reduceMul, cpow_10, cpow_2, Int.reduceLE, Int.reduceLT, Int.reduceToNat, Int.reducePow, mset_same, mset_mset, Tgs.len, List.getElem?_cons_zero, List.getElem?_cons_succ, List.set_cons_zero, List.set_cons_succ, List.getElem?_nil, Option.some.injEq, exists_eq_left', exists_eq_left, true_and, and_true, if_true, if_false, Bool.false_eq_true, reduceCtorEq, Dt.int.injEq, Dt.bl.injEq, Dt.str.injEq, Dt.lst.injEq, Dt.tup.injEq, Dt.ref.injEq, decide_eq_true_eq, List.length_cons, List.length_nil, Nat.zero_add, Nat.reduceAdd, Option.map_some, Bool.not_true, Bool.not_false, atI_0, atI_1, atI_2, atI_3, atI_4, ixN_0, ixN_1, ixN_2, ixN_3, ixN_4, w_var, w_int, w_str, w_bl, w_non, w_glob, w_bin, w_neg, w_cmp, w_cmp2, w_bop, w_b1, w_b2, w_not, w_ite, w_tup, w_lst, w_ix, w_sl, w_call, w_bi, w_mt, w_isi, w_lc, w_frz, w_es0, w_es1, w_o0, w_o1, w_tval, w_tcmp, w_tcmp2, w_tnot, w_tall, w_tany, w_all0, w_all1, w_all2, w_any0, w_any1, w_any2, it_t, it_l, w_seq, w_rng1, w_rng2, w_gn, w_gt, w_gi, w_gs0, w_gs1, s_asg, s_asgC, s_par, s_aug, s_expr, s_if, s_for, s_while, s_ret, s_retN, s_brk, s_cont, s_pass, s_nil, frz_l, frz_m, bin_add, bin_adds, bin_sub, bin_mul, bin_fdiv, bin_mod, bin_pow, bin_xor, cmp_lt, cmp_le, cmp_gt, cmp_ge, cmp_eqi, cmp_eqs, cmp_eqb, cmp_nei, cmp_nes, cmp_neb, cmp_is0, cmp_is1, cmp_is2, cmp_is3, cmp_is4, cmp_is5, cmp_is6, cmp_isn0, cmp_isn1, cmp_isn2, cmp_isn3, cmp_isn4, cmp_isn5, cmp_in, cmp_notin, bi_lens, bi_lent, bi_lenl, bi_min, bi_max, bi_abs, bi_listT, bi_listL, bi_tupT, bi_tupL, bi_maxL, bi_minL, bi_sumL, bi_anyL, bi_allL, bi_sorted, seqL_l, items_l, items_t, items_m, w_gl, new_f, new_t, ix_t, ix_l, tru_b, tru_n, tru_i, tru_l, tru_t, isi_b, isi_bi, isi_ii, isi_ib, isi_is, isi_it, isi_il, isi_sb, isi_si, isi_ss, isi_tb, isi_ti, isi_ts, isi_tt, isi_tl, isi_lb, isi_li, isi_ls, isi_lt, isi_ll, isi_nb, isi_ni, isi_ns, isi_nt, isi_nl, ix_m, tru_m, bi_lenm, seqL_m, mt_appm, mt_popm, mtOk_appm, mtOk_popm, it_m, ixSt_m]
  unfold afterD at h
  have hlo : b1 ≤ aftLo b1 a2 ∧ a2 ≤ aftLo b1 a2 := by unfold aftLo; omega
  have hhi : aftHi b1 m1 a2 m2 ≤ b1 + m1 ∧ aftHi b1 m1 a2 m2 ≤ a2 + m2 := by unfold aftHi; omega
  have e1 : max b1 a2 = aftLo b1 a2 := rfl
  have e2 : min (b1 + m1) (a2 + m2) = aftHi b1 m1 a2 m2 := rfl
  rw [e1, e2]
  generalize aftLo b1 a2 = lo at h hlo ⊢
  generalize aftHi b1 m1 a2 m2 = hi at h hhi ⊢
  by_cases hc : hi ≤ lo
  · rw [if_pos hc] at h ⊢
    unfold b_after_3
    rw [wpSs_cons]
    simp only [Int.reduceNeg, Int.reduceAdd, Int.reduceSub, Int.reduceMul, cpow_10, cpow_2, Int.reduceLE, Int.reduceLT, Int.reduceToNat, Int.reducePow, mset_same, mset_mset, Tgs.len, List.getElem?_cons_zero, List.getElem?_cons_succ, List.set_cons_zero, List.set_cons_succ, List.getElem?_nil, Option.some.injEq, exists_eq_left', exists_eq_left, true_and, and_true, if_true, if_false, Bool.false_eq_true, reduceCtorEq, Dt.int.injEq, Dt.bl.injEq, Dt.str.injEq, Dt.lst.injEq, Dt.tup.injEq, Dt.ref.injEq, decide_eq_true_eq, List.length_cons, List.length_nil, Nat.zero_add, Nat.reduceAdd, Option.map_some, Bool.not_true, Bool.not_false, atI_0, atI_1, atI_2, atI_3, atI_4, ixN_0, ixN_1, ixN_2, ixN_3, ixN_4, w_var, w_int, w_str, w_bl, w_non, w_glob, w_bin, w_neg, w_cmp, w_cmp2, w_bop, w_b1, w_b2, w_not, w_ite, w_tup, w_lst, w_ix, w_sl, w_call, w_bi, w_mt, w_isi, w_lc, w_frz, w_es0, w_es1, w_o0, w_o1, w_tval, w_tcmp, w_tcmp2, w_tnot, w_tall, w_tany, w_all0, w_all1, w_all2, w_any0, w_any1, w_any2, it_t, it_l, w_seq, w_rng1, w_rng2, w_gn, w_gt, w_gi, w_gs0, w_gs1, s_asg, s_asgC, s_par, s_aug, s_expr, s_if, s_for, s_while, s_ret, s_retN, s_brk, s_cont, s_pass, s_nil, frz_l, frz_m, bin_add, bin_adds, bin_sub, bin_mul, bin_fdiv, bin_mod, bin_pow, bin_xor, cmp_lt, cmp_le, cmp_gt, cmp_ge, cmp_eqi, cmp_eqs, cmp_eqb, cmp_nei, cmp_nes, cmp_neb, cmp_is0, cmp_is1, cmp_is2, cmp_is3, cmp_is4, cmp_is5, cmp_is6, cmp_isn0, cmp_isn1, cmp_isn2, cmp_isn3, cmp_isn4, cmp_isn5, cmp_in, cmp_notin, bi_lens, bi_lent, bi_lenl, bi_min, bi_max, bi_abs, bi_listT, bi_listL, bi_tupT, bi_tupL, bi_maxL, bi_minL, bi_sumL, bi_anyL, bi_allL, bi_sorted, seqL_l, items_l, items_t, items_m, w_gl, new_f, new_t, ix_t, ix_l, tru_b, tru_n, tru_i, tru_l, tru_t, isi_b, isi_bi, isi_ii, isi_ib, isi_is, isi_it, isi_il, isi_sb, isi_si, isi_ss, isi_tb, isi_ti, isi_ts, isi_tt, isi_tl, isi_lb, isi_li, isi_ls, isi_lt, isi_ll, isi_nb, isi_ni, isi_ns, isi_nt, isi_nl, ix_m, tru_m, bi_lenm, seqL_m, mt_appm, mt_popm, mtOk_appm, mtOk_popm, it_m, ixSt_m, hrt]
    exact h
  · rw [if_neg hc] at h ⊢
    unfold b_after_4
    rw [wpSs_cons]
    simp only [Int.reduceNeg, Int.reduceAdd, Int.reduceSub, Int.reduceMul, cpow_10, cpow_2, Int.reduceLE, Int.reduceLT, Int.reduceToNat, Int.reducePow, mset_same, mset_mset, Tgs.len, List.getElem?_cons_zero, List.getElem?_cons_succ, List.set_cons_zero, List.set_cons_succ, List.getElem?_nil, Option.some.injEq, exists_eq_left', exists_eq_left, true_and, and_true, if_true, if_false, Bool.false_eq_true, reduceCtorEq, Dt.int.injEq, Dt.bl.injEq, Dt.str.injEq, Dt.lst.injEq, Dt.tup.injEq, Dt.ref.injEq, decide_eq_true_eq, List.length_cons, List.length_nil, Nat.zero_add, Nat.reduceAdd, Option.map_some, Bool.not_true, Bool.not_false, atI_0, atI_1, atI_2, atI_3, atI_4, ixN_0, ixN_1, ixN_2, ixN_3, ixN_4, w_var, w_int, w_str, w_bl, w_non, w_glob, w_bin, w_neg, w_cmp, w_cmp2, w_bop, w_b1, w_b2, w_not, w_ite, w_tup, w_lst, w_ix, w_sl, w_call, w_bi, w_mt, w_isi, w_lc, w_frz, w_es0, w_es1, w_o0, w_o1, w_tval, w_tcmp, w_tcmp2, w_tnot, w_tall, w_tany, w_all0, w_all1, w_all2, w_any0, w_any1, w_any2, it_t, it_l, w_seq, w_rng1, w_rng2, w_gn, w_gt, w_gi, w_gs0, w_gs1, s_asg, s_asgC, s_par, s_aug, s_expr, s_if, s_for, s_while, s_ret, s_retN, s_brk, s_cont, s_pass, s_nil, frz_l, frz_m, bin_add, bin_adds, bin_sub, bin_mul, bin_fdiv, bin_mod, bin_pow, bin_xor, cmp_lt, cmp_le, cmp_gt, cmp_ge, cmp_eqi, cmp_eqs, cmp_eqb, cmp_nei, cmp_nes, cmp_neb, cmp_is0, cmp_is1, cmp_is2, cmp_is3, cmp_is4, cmp_is5, cmp_is6, cmp_isn0, cmp_isn1, cmp_isn2, cmp_isn3, cmp_isn4, cmp_isn5, cmp_in, cmp_notin, bi_lens, bi_lent, bi_lenl, bi_min, bi_max, bi_abs, bi_listT, bi_listL, bi_tupT, bi_tupL, bi_maxL, bi_minL, bi_sumL, bi_anyL, bi_allL, bi_sorted, seqL_l, items_l, items_t, items_m, w_gl, new_f, new_t, ix_t, ix_l, tru_b, tru_n, tru_i, tru_l, tru_t, isi_b, isi_bi, isi_ii, isi_ib, isi_is, isi_it, isi_il, isi_sb, isi_si, isi_ss, isi_tb, isi_ti, isi_ts, isi_tt, isi_tl, isi_lb, isi_li, isi_ls, isi_lt, isi_ll, isi_nb, isi_ni, isi_ns, isi_nt, isi_nl, ix_m, tru_m, bi_lenm, seqL_m, mt_appm, mt_popm, mtOk_appm, mtOk_popm, it_m, ixSt_m]
    refine hp _ _ _ _ _ _ _ _ _ (by omega) (by omega) (by omega) ?_
    refine hb _ _ _ _ _ _ _ ?_
    refine hp _ _ _ _ _ _ _ _ _ (by omega) (by omega) (by omega) ?_
    unfold b_after_5
    rw [wpSs_cons]
    simp only [Int.reduceNeg, Int.reduceAdd, Int.reduceSub, Int.reduceMul, cpow_10, cpow_2, Int.reduceLE, Int.reduceLT, Int.reduceToNat, Int.reducePow, mset_same, mset_mset, Tgs.len, List.getElem?_cons_zero, List.getElem?_cons_succ, List.set_cons_zero, List.set_cons_succ, List.getElem?_nil, Option.some.injEq, exists_eq_left', exists_eq_left, true_and, and_true, if_true, if_false, Bool.false_eq_true, reduceCtorEq, Dt.int.injEq, Dt.bl.injEq, Dt.str.injEq, Dt.lst.injEq, Dt.tup.injEq, Dt.ref.injEq, decide_eq_true_eq, List.length_cons, List.length_nil, Nat.zero_add, Nat.reduceAdd, Option.map_some, Bool.not_true, Bool.not_false, atI_0, atI_1, atI_2, atI_3, atI_4, ixN_0, ixN_1, ixN_2, ixN_3, ixN_4, w_var, w_int, w_str, w_bl, w_non, w_glob, w_bin, w_neg, w_cmp, w_cmp2, w_bop, w_b1, w_b2, w_not, w_ite, w_tup, w_lst, w_ix, w_sl, w_call, w_bi, w_mt, w_isi, w_lc, w_frz, w_es0, w_es1, w_o0, w_o1, w_tval, w_tcmp, w_tcmp2, w_tnot, w_tall, w_tany, w_all0, w_all1, w_all2, w_any0, w_any1, w_any2, it_t, it_l, w_seq, w_rng1, w_rng2, w_gn, w_gt, w_gi, w_gs0, w_gs1, s_asg, s_asgC, s_par, s_aug, s_expr, s_if, s_for, s_while, s_ret, s_retN, s_brk, s_cont, s_pass, s_nil, frz_l, frz_m, bin_add, bin_adds, bin_sub, bin_mul, bin_fdiv, bin_mod, bin_pow, bin_xor, cmp_lt, cmp_le, cmp_gt, cmp_ge, cmp_eqi, cmp_eqs, cmp_eqb, cmp_nei, cmp_nes, cmp_neb, cmp_is0, cmp_is1, cmp_is2, cmp_is3, cmp_is4, cmp_is5, cmp_is6, cmp_isn0, cmp_isn1, cmp_isn2, cmp_isn3, cmp_isn4, cmp_isn5, cmp_in, cmp_notin, bi_lens, bi_lent, bi_lenl, bi_min, bi_max, bi_abs, bi_listT, bi_listL, bi_tupT, bi_tupL, bi_maxL, bi_minL, bi_sumL, bi_anyL, bi_allL, bi_sorted, seqL_l, items_l, items_t, items_m, w_gl, new_f, new_t, ix_t, ix_l, tru_b, tru_n, tru_i, tru_l, tru_t, isi_b, isi_bi, isi_ii, isi_ib, isi_is, isi_it, isi_il, isi_sb, isi_si, isi_ss, isi_tb, isi_ti, isi_ts, isi_tt, isi_tl, isi_lb, isi_li, isi_ls, isi_lt, isi_ll, isi_nb, isi_ni, isi_ns, isi_nt, isi_nl, ix_m, tru_m, bi_lenm, seqL_m, mt_appm, mt_popm, mtOk_appm, mtOk_popm, it_m, ixSt_m, hrt, xor01 h1 h2]
    exact ⟨sz (by decide), h⟩
def AftFarOk (W : Wf) : Prop := ∀ (p : Addr) (d : Drw) M q x, M p = some d.o → d.Ok → (∀ d' : Drw, d'.Ok → q (.bl true) (mset M p (some d'.o))) → W.run [.ref p] M q x
theorem like_after {M : Mm} {n : Nat} {a1 b1 m1 t1 a2 b2 m2 t2 : Int} : Like M (n + 2) (afterD a1 b1 m1 t1 a2 b2 m2 t2) (afterD a1 b1 m1 t1 a2 b2 m2 t2) := by
  unfold afterD
  split
  · exact like_n
  · exact like_m
theorem aftfar_ok (G : Gt) (hpu : PullOk (G.call 51)) (hma : MatingOk (G.call 65)) (hsc : ScaledOk (G.call 69)) (haf : AfterOk (G.call 72)) (hli : LikeOk 2 (G.call 53)) : AftFarOk (wfB G n__law_after_far 1 b__law_after_far) := by
  intro p d M q x hM hd h
  refine ⟨rfl, ?_⟩
  have e0 : startR n__law_after_far [.ref p] = [some (.ref p), none, none, none, none, none, none, none, none, none, none, none, none] := rfl
  rw [e0]
  generalize hk : bodyK q x = k
  have hrt : ∀ d, k.rt d = q d := by intro d; rw [← hk]; rfl
  unfold b__law_after_far b__law_after_far_0
  rw [wpSs_cons]
  simp only [Int.reduceNeg, Int.reduceAdd, Int.reduceSub, Int.reduceMul, cpow_10, cpow_2, Int.reduceLE, Int.reduceLT, Int.reduceToNat, Int.reducePow, mset_same, mset_mset, Tgs.len, List.getElem?_cons_zero, List.getElem?_cons_succ, List.set_cons_zero, List.set_cons_succ, List.getElem?_nil, Option.some.injEq, exists_eq_left', exists_eq_left, true_and, and_true, if_true, if_false, Bool.false_eq_true, reduceCtorEq, Dt.int.injEq, Dt.bl.injEq, Dt.str.injEq, Dt.lst.injEq, Dt.tup.injEq, Dt.ref.injEq, decide_eq_true_eq, List.length_cons, List.length_nil, Nat.zero_add, Nat.reduceAdd, Option.map_some, Bool.not_true, Bool.not_false, atI_0, atI_1, atI_2, atI_3, atI_4, ixN_0, ixN_1, ixN_2, ixN_3, ixN_4, w_var, w_int, w_str, w_bl, w_non, w_glob, w_bin, w_neg, w_cmp, w_cmp2, w_bop, w_b1, w_b2, w_not, w_ite, w_tup, w_lst, w_ix, w_sl, w_call, w_bi, w_mt, w_isi, w_lc, w_frz, w_es0, w_es1, w_o0, w_o1, w_tval, w_tcmp, w_tcmp2, w_tnot, w_tall, w_tany, w_all0, w_all1, w_all2, w_any0, w_any1, w_any2, it_t, it_l, w_seq, w_rng1, w_rng2, w_gn, w_gt, w_gi, w_gs0, w_gs1, s_asg, s_asgC, s_par, s_aug, s_expr, s_if, s_for, s_while, s_ret, s_retN, s_brk, s_cont, s_pass, s_nil, frz_l, frz_m, bin_add, bin_adds, bin_sub, bin_mul, bin_fdiv, bin_mod, bin_pow, bin_xor, cmp_lt, cmp_le, cmp_gt, cmp_ge, cmp_eqi, cmp_eqs, cmp_eqb, cmp_nei, cmp_nes, cmp_neb, cmp_is0, cmp_is1, cmp_is2, cmp_is3, cmp_is4, cmp_is5, cmp_is6, cmp_isn0, cmp_isn1, cmp_isn2, cmp_isn3, cmp_isn4, cmp_isn5, cmp_in, cmp_notin, bi_lens, bi_lent, bi_lenl, bi_min, bi_max, bi_abs, bi_listT, bi_listL, bi_tupT, bi_tupL, bi_maxL, bi_minL, bi_sumL, bi_anyL, bi_allL, bi_sorted, seqL_l, items_l, items_t, items_m, w_gl, new_f, new_t, ix_t, ix_l, tru_b, tru_n, tru_i, tru_l, tru_t, isi_b, isi_bi, isi_ii, isi_ib, isi_is, isi_it, isi_il, isi_sb, isi_si, isi_ss, isi_tb, isi_ti, isi_ts, isi_tt, isi_tl, isi_lb, isi_li, isi_ls, isi_lt, isi_ll, isi_nb, isi_ni, isi_ns, isi_nt, isi_nl, ix_m, tru_m, bi_lenm, seqL_m, mt_appm, mt_popm, mtOk_appm, mtOk_popm, it_m, ixSt_m]
  refine hpu p _ d _ _ _ hM hd (by decide) (by decide) fun y d hd y0 y1 => ?_
  simp only [Int.reduceNeg, Int.reduceAdd, Int.reduceSub, Int.reduceMul, cpow_10, cpow_2, Int.reduceLE, Int.reduceLT, Int.reduceToNat, Int.reducePow, mset_same, mset_mset, Tgs.len, List.getElem?_cons_zero, List.getElem?_cons_succ, List.set_cons_zero, List.set_cons_succ, List.getElem?_nil, Option.some.injEq, exists_eq_left', exists_eq_left, true_and, and_true, if_true, if_false, Bool.false_eq_true, reduceCtorEq, Dt.int.injEq, Dt.bl.injEq, Dt.str.injEq, Dt.lst.injEq, Dt.tup.injEq, Dt.ref.injEq, decide_eq_true_eq, List.length_cons, List.length_nil, Nat.zero_add, Nat.reduceAdd, Option.map_some, Bool.not_true, Bool.not_false, atI_0, atI_1, atI_2, atI_3, atI_4, ixN_0, ixN_1, ixN_2, ixN_3, ixN_4, w_var, w_int, w_str, w_bl, w_non, w_glob, w_bin, w_neg, w_cmp, w_cmp2, w_bop, w_b1, w_b2, w_not, w_ite, w_tup, w_lst, w_ix, w_sl, w_call, w_bi, w_mt, w_isi, w_lc, w_frz, w_es0, w_es1, w_o0, w_o1, w_tval, w_tcmp, w_tcmp2, w_tnot, w_tall, w_tany, w_all0, w_all1, w_all2, w_any0, w_any1, w_any2, it_t, it_l, w_seq, w_rng1, w_rng2, w_gn, w_gt, w_gi, w_gs0, w_gs1, s_asg, s_asgC, s_par, s_aug, s_expr, s_if, s_for, s_while, s_ret, s_retN, s_brk, s_cont, s_pass, s_nil, frz_l, frz_m, bin_add, bin_adds, bin_sub, bin_mul, bin_fdiv, bin_mod, bin_pow, bin_xor, cmp_lt, cmp_le, cmp_gt, cmp_ge, cmp_eqi, cmp_eqs, cmp_eqb, cmp_nei, cmp_nes, cmp_neb, cmp_is0, cmp_is1, cmp_is2, cmp_is3, cmp_is4, cmp_is5, cmp_is6, cmp_isn0, cmp_isn1, cmp_isn2, cmp_isn3, cmp_isn4, cmp_isn5, cmp_in, cmp_notin, bi_lens, bi_lent, bi_lenl, bi_min, bi_max, bi_abs, bi_listT, bi_listL, bi_tupT, bi_tupL, bi_maxL, bi_minL, bi_sumL, bi_anyL, bi_allL, bi_sorted, seqL_l, items_l, items_t, items_m, w_gl, new_f, new_t, ix_t, ix_l, tru_b, tru_n, tru_i, tru_l, tru_t, isi_b, isi_bi, isi_ii, isi_ib, isi_is, isi_it, isi_il, isi_sb, isi_si, isi_ss, isi_tb, isi_ti, isi_ts, isi_tt, isi_tl, isi_lb, isi_li, isi_ls, isi_lt, isi_ll, isi_nb, isi_ni, isi_ns, isi_nt, isi_nl, ix_m, tru_m, bi_lenm, seqL_m, mt_appm, mt_popm, mtOk_appm, mtOk_popm, it_m, ixSt_m]
  unfold b__law_after_far_1
  rw [wpSs_cons]
  simp only [Int.reduceNeg, Int.reduceAdd, Int.reduceSub, Int.reduceMul, cpow_10, cpow_2, Int.reduceLE, Int.reduceLT, Int.reduceToNat, Int.reducePow, mset_same, mset_mset, Tgs.len, List.getElem?_cons_zero, List.getElem?_cons_succ, List.set_cons_zero, List.set_cons_succ, List.getElem?_nil, Option.some.injEq, exists_eq_left', exists_eq_left, true_and, and_true, if_true, if_false, Bool.false_eq_true, reduceCtorEq, Dt.int.injEq, Dt.bl.injEq, Dt.str.injEq, Dt.lst.injEq, Dt.tup.injEq, Dt.ref.injEq, decide_eq_true_eq, List.length_cons, List.length_nil, Nat.zero_add, Nat.reduceAdd, Option.map_some, Bool.not_true, Bool.not_false, atI_0, atI_1, atI_2, atI_3, atI_4, ixN_0, ixN_1, ixN_2, ixN_3, ixN_4, w_var, w_int, w_str, w_bl, w_non, w_glob, w_bin, w_neg, w_cmp, w_cmp2, w_bop, w_b1, w_b2, w_not, w_ite, w_tup, w_lst, w_ix, w_sl, w_call, w_bi, w_mt, w_isi, w_lc, w_frz, w_es0, w_es1, w_o0, w_o1, w_tval, w_tcmp, w_tcmp2, w_tnot, w_tall, w_tany, w_all0, w_all1, w_all2, w_any0, w_any1, w_any2, it_t, it_l, w_seq, w_rng1, w_rng2, w_gn, w_gt, w_gi, w_gs0, w_gs1, s_asg, s_asgC, s_par, s_aug, s_expr, s_if, s_for, s_while, s_ret, s_retN, s_brk, s_cont, s_pass, s_nil, frz_l, frz_m, bin_add, bin_adds, bin_sub, bin_mul, bin_fdiv, bin_mod, bin_pow, bin_xor, cmp_lt, cmp_le, cmp_gt, cmp_ge, cmp_eqi, cmp_eqs, cmp_eqb, cmp_nei, cmp_nes, cmp_neb, cmp_is0, cmp_is1, cmp_is2, cmp_is3, cmp_is4, cmp_is5, cmp_is6, cmp_isn0, cmp_isn1, cmp_isn2, cmp_isn3, cmp_isn4, cmp_isn5, cmp_in, cmp_notin, bi_lens, bi_lent, bi_lenl, bi_min, bi_max, bi_abs, bi_listT, bi_listL, bi_tupT, bi_tupL, bi_maxL, bi_minL, bi_sumL, bi_anyL, bi_allL, bi_sorted, seqL_l, items_l, items_t, items_m, w_gl, new_f, new_t, ix_t, ix_l, tru_b, tru_n, tru_i, tru_l, tru_t, isi_b, isi_bi, isi_ii, isi_ib, isi_is, isi_it, isi_il, isi_sb, isi_si, isi_ss, isi_tb, isi_ti, isi_ts, isi_tt, isi_tl, isi_lb, isi_li, isi_ls, isi_lt, isi_ll, isi_nb, isi_ni, isi_ns, isi_nt, isi_nl, ix_m, tru_m, bi_lenm, seqL_m, mt_appm, mt_popm, mtOk_appm, mtOk_popm, it_m, ixSt_m]
  generalize hT : 1 + y = T
  have hr : (List.range (2 : Int).toNat).map (fun (k : Nat) => Dt.int (k : Int)) = [.int 0, .int 1] := rfl
  have w : ∀ (a b : Option Dt), wipeR [a, b, none, none, none, none, none, none, none, none, none, none, none] ([(("_law_k" : Str), 12)].map (·.2)) = [a, b, none, none, none, none, none, none, none, none, none, none, none] := fun _ _ => rfl
  rw [w]
  have hr2 : List.map (fun (k : Nat) => Dt.int (k : Int)) (List.range 2) = [.int 0, .int 1] := rfl
  rw [hr2]
  refine ⟨_, rfl, hma p 20 d _ _ _ mset_same hd (by decide) (by decide) fun a1 b1 m1 t1 d hd a10 b10 m11 a11 b11 ht1 => ⟨sz (by decide), _, rfl, hsc.one (by omega) (by omega) ⟨_, rfl, ⟨sz (by decide), ?_⟩⟩⟩⟩
  rw [mset_mset]
  refine ⟨_, rfl, hma p 20 d _ _ _ mset_same hd (by decide) (by decide) fun a2 b2 m2 t2 d hd a20 b20 m21 a21 b21 ht2 => ⟨sz (by decide), _, rfl, hsc.one (by omega) (by omega) ⟨_, rfl, ⟨(show 1 < 16777216 by decide), ?_⟩⟩⟩⟩
  rw [mset_mset]
  refine ⟨rfl, ?_⟩
  show wpGs G (.cons (.name 2) (.cons (.name 3) .nil)) [mtg (a1 * T) (b1 * T) (m1 * T) t1, mtg (a2 * T) (b2 * T) (m2 * T) t2] _ _ _ _
  simp only [Int.reduceNeg, Int.reduceAdd, Int.reduceSub, Int.reduceMul, cpow_10, cpow_2, Int.reduceLE, Int.reduceLT, Int.reduceToNat, Int.reducePow, mset_same, mset_mset, Tgs.len, List.getElem?_cons_zero, List.getElem?_cons_succ, List.set_cons_zero, List.set_cons_succ, List.getElem?_nil, Option.some.injEq, exists_eq_left', exists_eq_left, true_and, and_true, if_true, if_false, Bool.false_eq_true, reduceCtorEq, Dt.int.injEq, Dt.bl.injEq, Dt.str.injEq, Dt.lst.injEq, Dt.tup.injEq, Dt.ref.injEq, decide_eq_true_eq, List.length_cons, List.length_nil, Nat.zero_add, Nat.reduceAdd, Option.map_some, Bool.not_true, Bool.not_false, atI_0, atI_1, atI_2, atI_3, atI_4, ixN_0, ixN_1, ixN_2, ixN_3, ixN_4, w_var, w_int, w_str, w_bl, w_non, w_glob, w_bin, w_neg, w_cmp, w_cmp2, w_bop, w_b1, w_b2, w_not, w_ite, w_tup, w_lst, w_ix, w_sl, w_call, w_bi, w_mt, w_isi, w_lc, w_frz, w_es0, w_es1, w_o0, w_o1, w_tval, w_tcmp, w_tcmp2, w_tnot, w_tall, w_tany, w_all0, w_all1, w_all2, w_any0, w_any1, w_any2, it_t, it_l, w_seq, w_rng1, w_rng2, w_gn, w_gt, w_gi, w_gs0, w_gs1, s_asg, s_asgC, s_par, s_aug, s_expr, s_if, s_for, s_while, s_ret, s_retN, s_brk, s_cont, s_pass, s_nil, frz_l, frz_m, bin_add, bin_adds, bin_sub, bin_mul, bin_fdiv, bin_mod, bin_pow, bin_xor, cmp_lt, cmp_le, cmp_gt, cmp_ge, cmp_eqi, cmp_eqs, cmp_eqb, cmp_nei, cmp_nes, cmp_neb, cmp_is0, cmp_is1, cmp_is2, cmp_is3, cmp_is4, cmp_is5, cmp_is6, cmp_isn0, cmp_isn1, cmp_isn2, cmp_isn3, cmp_isn4, cmp_isn5, cmp_in, cmp_notin, bi_lens, bi_lent, bi_lenl, bi_min, bi_max, bi_abs, bi_listT, bi_listL, bi_tupT, bi_tupL, bi_maxL, bi_minL, bi_sumL, bi_anyL, bi_allL, bi_sorted, seqL_l, items_l, items_t, items_m, w_gl, new_f, new_t, ix_t, ix_l, tru_b, tru_n, tru_i, tru_l, tru_t, isi_b, isi_bi, isi_ii, isi_ib, isi_is, isi_it, isi_il, isi_sb, isi_si, isi_ss, isi_tb, isi_ti, isi_ts, isi_tt, isi_tl, isi_lb, isi_li, isi_ls, isi_lt, isi_ll, isi_nb, isi_ni, isi_ns, isi_nt, isi_nl, ix_m, tru_m, bi_lenm, seqL_m, mt_appm, mt_popm, mtOk_appm, mtOk_popm, it_m, ixSt_m]
  generalize a1 * T = A1
  generalize b1 * T = B1
  generalize m1 * T = M1
  generalize a2 * T = A2
  generalize b2 * T = B2
  generalize m2 * T = M2
  have hq : ∀ d' : Drw, d'.Ok → k.rt (.bl true) (mset M p (some d'.o)) := fun d' h' => by rw [hrt]; exact h d' h'
  unfold b__law_after_far_2
  rw [wpSs_cons]
  simp only [Int.reduceNeg, Int.reduceAdd, Int.reduceSub, Int.reduceMul, cpow_10, cpow_2, Int.reduceLE, Int.reduceLT, Int.reduceToNat, Int.reducePow, mset_same, mset_mset, Tgs.len, List.getElem?_cons_zero, List.getElem?_cons_succ, List.set_cons_zero, List.set_cons_succ, List.getElem?_nil, Option.some.injEq, exists_eq_left', exists_eq_left, true_and, and_true, if_true, if_false, Bool.false_eq_true, reduceCtorEq, Dt.int.injEq, Dt.bl.injEq, Dt.str.injEq, Dt.lst.injEq, Dt.tup.injEq, Dt.ref.injEq, decide_eq_true_eq, List.length_cons, List.length_nil, Nat.zero_add, Nat.reduceAdd, Option.map_some, Bool.not_true, Bool.not_false, atI_0, atI_1, atI_2, atI_3, atI_4, ixN_0, ixN_1, ixN_2, ixN_3, ixN_4, w_var, w_int, w_str, w_bl, w_non, w_glob, w_bin, w_neg, w_cmp, w_cmp2, w_bop, w_b1, w_b2, w_not, w_ite, w_tup, w_lst, w_ix, w_sl, w_call, w_bi, w_mt, w_isi, w_lc, w_frz, w_es0, w_es1, w_o0, w_o1, w_tval, w_tcmp, w_tcmp2, w_tnot, w_tall, w_tany, w_all0, w_all1, w_all2, w_any0, w_any1, w_any2, it_t, it_l, w_seq, w_rng1, w_rng2, w_gn, w_gt, w_gi, w_gs0, w_gs1, s_asg, s_asgC, s_par, s_aug, s_expr, s_if, s_for, s_while, s_ret, s_retN, s_brk, s_cont, s_pass, s_nil, frz_l, frz_m, bin_add, bin_adds, bin_sub, bin_mul, bin_fdiv, bin_mod, bin_pow, bin_xor, cmp_lt, cmp_le, cmp_gt, cmp_ge, cmp_eqi, cmp_eqs, cmp_eqb, cmp_nei, cmp_nes, cmp_neb, cmp_is0, cmp_is1, cmp_is2, cmp_is3, cmp_is4, cmp_is5, cmp_is6, cmp_isn0, cmp_isn1, cmp_isn2, cmp_isn3, cmp_isn4, cmp_isn5, cmp_in, cmp_notin, bi_lens, bi_lent, bi_lenl, bi_min, bi_max, bi_abs, bi_listT, bi_listL, bi_tupT, bi_tupL, bi_maxL, bi_minL, bi_sumL, bi_anyL, bi_allL, bi_sorted, seqL_l, items_l, items_t, items_m, w_gl, new_f, new_t, ix_t, ix_l, tru_b, tru_n, tru_i, tru_l, tru_t, isi_b, isi_bi, isi_ii, isi_ib, isi_is, isi_it, isi_il, isi_sb, isi_si, isi_ss, isi_tb, isi_ti, isi_ts, isi_tt, isi_tl, isi_lb, isi_li, isi_ls, isi_lt, isi_ll, isi_nb, isi_ni, isi_ns, isi_nt, isi_nl, ix_m, tru_m, bi_lenm, seqL_m, mt_appm, mt_popm, mtOk_appm, mtOk_popm, it_m, ixSt_m]
  unfold b__law_after_far_3
  rw [wpSs_cons]
  simp only [Int.reduceNeg, Int.reduceAdd, Int.reduceSub, Int.reduceMul, cpow_10, cpow_2, Int.reduceLE, Int.reduceLT, Int.reduceToNat, Int.reducePow, mset_same, mset_mset, Tgs.len, List.getElem?_cons_zero, List.getElem?_cons_succ, List.set_cons_zero, List.set_cons_succ, List.getElem?_nil, Option.some.injEq, exists_eq_left', exists_eq_left, true_and, and_true, if_true, if_false, Bool.false_eq_true, reduceCtorEq, Dt.int.injEq, Dt.bl.injEq, Dt.str.injEq, Dt.lst.injEq, Dt.tup.injEq, Dt.ref.injEq, decide_eq_true_eq, List.length_cons, List.length_nil, Nat.zero_add, Nat.reduceAdd, Option.map_some, Bool.not_true, Bool.not_false, atI_0, atI_1, atI_2, atI_3, atI_4, ixN_0, ixN_1, ixN_2, ixN_3, ixN_4, w_var, w_int, w_str, w_bl, w_non, w_glob, w_bin, w_neg, w_cmp, w_cmp2, w_bop, w_b1, w_b2, w_not, w_ite, w_tup, w_lst, w_ix, w_sl, w_call, w_bi, w_mt, w_isi, w_lc, w_frz, w_es0, w_es1, w_o0, w_o1, w_tval, w_tcmp, w_tcmp2, w_tnot, w_tall, w_tany, w_all0, w_all1, w_all2, w_any0, w_any1, w_any2, it_t, it_l, w_seq, w_rng1, w_rng2, w_gn, w_gt, w_gi, w_gs0, w_gs1, s_asg, s_asgC, s_par, s_aug, s_expr, s_if, s_for, s_while, s_ret, s_retN, s_brk, s_cont, s_pass, s_nil, frz_l, frz_m, bin_add, bin_adds, bin_sub, bin_mul, bin_fdiv, bin_mod, bin_pow, bin_xor, cmp_lt, cmp_le, cmp_gt, cmp_ge, cmp_eqi, cmp_eqs, cmp_eqb, cmp_nei, cmp_nes, cmp_neb, cmp_is0, cmp_is1, cmp_is2, cmp_is3, cmp_is4, cmp_is5, cmp_is6, cmp_isn0, cmp_isn1, cmp_isn2, cmp_isn3, cmp_isn4, cmp_isn5, cmp_in, cmp_notin, bi_lens, bi_lent, bi_lenl, bi_min, bi_max, bi_abs, bi_listT, bi_listL, bi_tupT, bi_tupL, bi_maxL, bi_minL, bi_sumL, bi_anyL, bi_allL, bi_sorted, seqL_l, items_l, items_t, items_m, w_gl, new_f, new_t, ix_t, ix_l, tru_b, tru_n, tru_i, tru_l, tru_t, isi_b, isi_bi, isi_ii, isi_ib, isi_is, isi_it, isi_il, isi_sb, isi_si, isi_ss, isi_tb, isi_ti, isi_ts, isi_tt, isi_tl, isi_lb, isi_li, isi_ls, isi_lt, isi_ll, isi_nb, isi_ni, isi_ns, isi_nt, isi_nl, ix_m, tru_m, bi_lenm, seqL_m, mt_appm, mt_popm, mtOk_appm, mtOk_popm, it_m, ixSt_m]
  unfold b__law_after_far_4
  rw [wpSs_cons]
  simp only [Int.reduceNeg, Int.reduceAdd, Int.reduceSub, Int.reduceMul, cpow_10, cpow_2, Int.reduceLE, Int.reduceLT, Int.reduceToNat, Int.reducePow, mset_same, mset_mset, Tgs.len, List.getElem?_cons_zero, List.getElem?_cons_succ, List.set_cons_zero, List.set_cons_succ, List.getElem?_nil, Option.some.injEq, exists_eq_left', exists_eq_left, true_and, and_true, if_true, if_false, Bool.false_eq_true, reduceCtorEq, Dt.int.injEq, Dt.bl.injEq, Dt.str.injEq, Dt.lst.injEq, Dt.tup.injEq, Dt.ref.injEq, decide_eq_true_eq, List.length_cons, List.length_nil, Nat.zero_add, Nat.reduceAdd, Option.map_some, Bool.not_true, Bool.not_false, atI_0, atI_1, atI_2, atI_3, atI_4, ixN_0, ixN_1, ixN_2, ixN_3, ixN_4, w_var, w_int, w_str, w_bl, w_non, w_glob, w_bin, w_neg, w_cmp, w_cmp2, w_bop, w_b1, w_b2, w_not, w_ite, w_tup, w_lst, w_ix, w_sl, w_call, w_bi, w_mt, w_isi, w_lc, w_frz, w_es0, w_es1, w_o0, w_o1, w_tval, w_tcmp, w_tcmp2, w_tnot, w_tall, w_tany, w_all0, w_all1, w_all2, w_any0, w_any1, w_any2, it_t, it_l, w_seq, w_rng1, w_rng2, w_gn, w_gt, w_gi, w_gs0, w_gs1, s_asg, s_asgC, s_par, s_aug, s_expr, s_if, s_for, s_while, s_ret, s_retN, s_brk, s_cont, s_pass, s_nil, frz_l, frz_m, bin_add, bin_adds, bin_sub, bin_mul, bin_fdiv, bin_mod, bin_pow, bin_xor, cmp_lt, cmp_le, cmp_gt, cmp_ge, cmp_eqi, cmp_eqs, cmp_eqb, cmp_nei, cmp_nes, cmp_neb, cmp_is0, cmp_is1, cmp_is2, cmp_is3, cmp_is4, cmp_is5, cmp_is6, cmp_isn0, cmp_isn1, cmp_isn2, cmp_isn3, cmp_isn4, cmp_isn5, cmp_in, cmp_notin, bi_lens, bi_lent, bi_lenl, bi_min, bi_max, bi_abs, bi_listT, bi_listL, bi_tupT, bi_tupL, bi_maxL, bi_minL, bi_sumL, bi_anyL, bi_allL, bi_sorted, seqL_l, items_l, items_t, items_m, w_gl, new_f, new_t, ix_t, ix_l, tru_b, tru_n, tru_i, tru_l, tru_t, isi_b, isi_bi, isi_ii, isi_ib, isi_is, isi_it, isi_il, isi_sb, isi_si, isi_ss, isi_tb, isi_ti, isi_ts, isi_tt, isi_tl, isi_lb, isi_li, isi_ls, isi_lt, isi_ll, isi_nb, isi_ni, isi_ns, isi_nt, isi_nl, ix_m, tru_m, bi_lenm, seqL_m, mt_appm, mt_popm, mtOk_appm, mtOk_popm, it_m, ixSt_m]
  have e1 : max B1 A2 = aftLo B1 A2 := rfl
  have e2 : min (B1 + M1) (A2 + M2) = aftHi B1 M1 A2 M2 := rfl
  rw [e1, e2]
  by_cases hc : aftHi B1 M1 A2 M2 ≤ aftLo B1 A2
  · rw [if_pos hc]
    unfold b__law_after_far_5
    rw [wpSs_cons]
    simp only [Int.reduceNeg, Int.reduceAdd, Int.reduceSub, Int.reduceMul, cpow_10, cpow_2, Int.reduceLE, Int.reduceLT, Int.reduceToNat, Int.reducePow, mset_same, mset_mset, Tgs.len, List.getElem?_cons_zero, List.getElem?_cons_succ, List.set_cons_zero, List.set_cons_succ, List.getElem?_nil, Option.some.injEq, exists_eq_left', exists_eq_left, true_and, and_true, if_true, if_false, Bool.false_eq_true, reduceCtorEq, Dt.int.injEq, Dt.bl.injEq, Dt.str.injEq, Dt.lst.injEq, Dt.tup.injEq, Dt.ref.injEq, decide_eq_true_eq, List.length_cons, List.length_nil, Nat.zero_add, Nat.reduceAdd, Option.map_some, Bool.not_true, Bool.not_false, atI_0, atI_1, atI_2, atI_3, atI_4, ixN_0, ixN_1, ixN_2, ixN_3, ixN_4, w_var, w_int, w_str, w_bl, w_non, w_glob, w_bin, w_neg, w_cmp, w_cmp2, w_bop, w_b1, w_b2, w_not, w_ite, w_tup, w_lst, w_ix, w_sl, w_call, w_bi, w_mt, w_isi, w_lc, w_frz, w_es0, w_es1, w_o0, w_o1, w_tval, w_tcmp, w_tcmp2, w_tnot, w_tall, w_tany, w_all0, w_all1, w_all2, w_any0, w_any1, w_any2, it_t, it_l, w_seq, w_rng1, w_rng2, w_gn, w_gt, w_gi, w_gs0, w_gs1, s_asg, s_asgC, s_par, s_aug, s_expr, s_if, s_for, s_while, s_ret, s_retN, s_brk, s_cont, s_pass, s_nil, frz_l, frz_m, bin_add, bin_adds, bin_sub, bin_mul, bin_fdiv, bin_mod, bin_pow, bin_xor, cmp_lt, cmp_le, cmp_gt, cmp_ge, cmp_eqi, cmp_eqs, cmp_eqb, cmp_nei, cmp_nes, cmp_neb, cmp_is0, cmp_is1, cmp_is2, cmp_is3, cmp_is4, cmp_is5, cmp_is6, cmp_isn0, cmp_isn1, cmp_isn2, cmp_isn3, cmp_isn4, cmp_isn5, cmp_in, cmp_notin, bi_lens, bi_lent, bi_lenl, bi_min, bi_max, bi_abs, bi_listT, bi_listL, bi_tupT, bi_tupL, bi_maxL, bi_minL, bi_sumL, bi_anyL, bi_allL, bi_sorted, seqL_l, items_l, items_t, items_m, w_gl, new_f, new_t, ix_t, ix_l, tru_b, tru_n, tru_i, tru_l, tru_t, isi_b, isi_bi, isi_ii, isi_ib, isi_is, isi_it, isi_il, isi_sb, isi_si, isi_ss, isi_tb, isi_ti, isi_ts, isi_tt, isi_tl, isi_lb, isi_li, isi_ls, isi_lt, isi_ll, isi_nb, isi_ni, isi_ns, isi_nt, isi_nl, ix_m, tru_m, bi_lenm, seqL_m, mt_appm, mt_popm, mtOk_appm, mtOk_popm, it_m, ixSt_m]
    refine haf A1 B1 M1 t1 A2 B2 M2 t2 _ _ _ ht1 ht2 ?_
    unfold afterD
    rw [if_pos hc]
    simp only [Int.reduceNeg, Int.reduceAdd, Int.reduceSub, Int.reduceMul, cpow_10, cpow_2, Int.reduceLE, Int.reduceLT, Int.reduceToNat, Int.reducePow, mset_same, mset_mset, Tgs.len, List.getElem?_cons_zero, List.getElem?_cons_succ, List.set_cons_zero, List.set_cons_succ, List.getElem?_nil, Option.some.injEq, exists_eq_left', exists_eq_left, true_and, and_true, if_true, if_false, Bool.false_eq_true, reduceCtorEq, Dt.int.injEq, Dt.bl.injEq, Dt.str.injEq, Dt.lst.injEq, Dt.tup.injEq, Dt.ref.injEq, decide_eq_true_eq, List.length_cons, List.length_nil, Nat.zero_add, Nat.reduceAdd, Option.map_some, Bool.not_true, Bool.not_false, atI_0, atI_1, atI_2, atI_3, atI_4, ixN_0, ixN_1, ixN_2, ixN_3, ixN_4, w_var, w_int, w_str, w_bl, w_non, w_glob, w_bin, w_neg, w_cmp, w_cmp2, w_bop, w_b1, w_b2, w_not, w_ite, w_tup, w_lst, w_ix, w_sl, w_call, w_bi, w_mt, w_isi, w_lc, w_frz, w_es0, w_es1, w_o0, w_o1, w_tval, w_tcmp, w_tcmp2, w_tnot, w_tall, w_tany, w_all0, w_all1, w_all2, w_any0, w_any1, w_any2, it_t, it_l, w_seq, w_rng1, w_rng2, w_gn, w_gt, w_gi, w_gs0, w_gs1, s_asg, s_asgC, s_par, s_aug, s_expr, s_if, s_for, s_while, s_ret, s_retN, s_brk, s_cont, s_pass, s_nil, frz_l, frz_m, bin_add, bin_adds, bin_sub, bin_mul, bin_fdiv, bin_mod, bin_pow, bin_xor, cmp_lt, cmp_le, cmp_gt, cmp_ge, cmp_eqi, cmp_eqs, cmp_eqb, cmp_nei, cmp_nes, cmp_neb, cmp_is0, cmp_is1, cmp_is2, cmp_is3, cmp_is4, cmp_is5, cmp_is6, cmp_isn0, cmp_isn1, cmp_isn2, cmp_isn3, cmp_isn4, cmp_isn5, cmp_in, cmp_notin, bi_lens, bi_lent, bi_lenl, bi_min, bi_max, bi_abs, bi_listT, bi_listL, bi_tupT, bi_tupL, bi_maxL, bi_minL, bi_sumL, bi_anyL, bi_allL, bi_sorted, seqL_l, items_l, items_t, items_m, w_gl, new_f, new_t, ix_t, ix_l, tru_b, tru_n, tru_i, tru_l, tru_t, isi_b, isi_bi, isi_ii, isi_ib, isi_is, isi_it, isi_il, isi_sb, isi_si, isi_ss, isi_tb, isi_ti, isi_ts, isi_tt, isi_tl, isi_lb, isi_li, isi_ls, isi_lt, isi_ll, isi_nb, isi_ni, isi_ns, isi_nt, isi_nl, ix_m, tru_m, bi_lenm, seqL_m, mt_appm, mt_popm, mtOk_appm, mtOk_popm, it_m, ixSt_m]
    exact hq d hd
  · rw [if_neg hc]
    unfold b__law_after_far_6
    rw [wpSs_cons]
    have P1 : (if t1 = 1 then A1 + M1 - (aftHi B1 M1 A2 M2 - B1) else A1 + aftLo B1 A2 - B1) = partB B1 A1 M1 t1 (aftLo B1 A2) (aftHi B1 M1 A2 M2 - aftLo B1 A2) := by
      unfold partB
      split <;> omega
    have P2 : (if t2 = 1 then B2 + M2 - (aftHi B1 M1 A2 M2 - A2) else B2 + aftLo B1 A2 - A2) = partB A2 B2 M2 t2 (aftLo B1 A2) (aftHi B1 M1 A2 M2 - aftLo B1 A2) := by
      unfold partB
      split <;> omega
    have ed : afterD A1 B1 M1 t1 A2 B2 M2 t2 = mtg (partB B1 A1 M1 t1 (aftLo B1 A2) (aftHi B1 M1 A2 M2 - aftLo B1 A2)) (partB A2 B2 M2 t2 (aftLo B1 A2) (aftHi B1 M1 A2 M2 - aftLo B1 A2)) (aftHi B1 M1 A2 M2 - aftLo B1 A2) ((t1 + t2) % 2) := by
      unfold afterD
      rw [if_neg hc]
    generalize partB B1 A1 M1 t1 (aftLo B1 A2) (aftHi B1 M1 A2 M2 - aftLo B1 A2) = X1 at P1 ed
    generalize partB A2 B2 M2 t2 (aftLo B1 A2) (aftHi B1 M1 A2 M2 - aftLo B1 A2) = X2 at P2 ed
    have hgo : wpSs G b__law_after_far_7 k [some (.ref p), some (.int T), some (mtg A1 B1 M1 t1), some (mtg A2 B2 M2 t2), some (.int A1), some (.int B1), some (.int M1), some (.int t1), some (.int (aftLo B1 A2)), some (.int (aftHi B1 M1 A2 M2)), some (.int X1), none, none] (mset M p (some d.o)) := by
      have hgo2 : wpSs G b__law_after_far_8 k [some (.ref p), some (.int T), some (mtg A1 B1 M1 t1), some (mtg A2 B2 M2 t2), some (.int A1), some (.int B1), some (.int M1), some (.int t1), some (.int (aftLo B1 A2)), some (.int (aftHi B1 M1 A2 M2)), some (.int X1), some (.int X2), none] (mset M p (some d.o)) := by
        unfold b__law_after_far_8
        rw [wpSs_cons]
        simp only [Int.reduceNeg, Int.reduceAdd, Int.reduceSub, Int.reduceMul, cpow_10, cpow_2, Int.reduceLE, Int.reduceLT, Int.reduceToNat, Int.reducePow, mset_same, mset_mset, Tgs.len, List.getElem?_cons_zero, List.getElem?_cons_succ, List.set_cons_zero, List.set_cons_succ, List.getElem?_nil, Option.some.injEq, exists_eq_left', exists_eq_left, true_and, and_true, if_true, if_false, Bool.false_eq_true, reduceCtorEq, Dt.int.injEq, Dt.bl.injEq, Dt.str.injEq, Dt.lst.injEq, Dt.tup.injEq, Dt.ref.injEq, decide_eq_true_eq, List.length_cons, List.length_nil, Nat.zero_add, Nat.reduceAdd, Option.map_some, Bool.not_true, Bool.not_false, atI_0, atI_1, atI_2, atI_3, atI_4, ixN_0, ixN_1, ixN_2, ixN_3, ixN_4, w_var, w_int, w_str, w_bl, w_non, w_glob, w_bin, w_neg, w_cmp, w_cmp2, w_bop, w_b1, w_b2, w_not, w_ite, w_tup, w_lst, w_ix, w_sl, w_call, w_bi, w_mt, w_isi, w_lc, w_frz, w_es0, w_es1, w_o0, w_o1, w_tval, w_tcmp, w_tcmp2, w_tnot, w_tall, w_tany, w_all0, w_all1, w_all2, w_any0, w_any1, w_any2, it_t, it_l, w_seq, w_rng1, w_rng2, w_gn, w_gt, w_gi, w_gs0, w_gs1, s_asg, s_asgC, s_par, s_aug, s_expr, s_if, s_for, s_while, s_ret, s_retN, s_brk, s_cont, s_pass, s_nil, frz_l, frz_m, bin_add, bin_adds, bin_sub, bin_mul, bin_fdiv, bin_mod, bin_pow, bin_xor, cmp_lt, cmp_le, cmp_gt, cmp_ge, cmp_eqi, cmp_eqs, cmp_eqb, cmp_nei, cmp_nes, cmp_neb, cmp_is0, cmp_is1, cmp_is2, cmp_is3, cmp_is4, cmp_is5, cmp_is6, cmp_isn0, cmp_isn1, cmp_isn2, cmp_isn3, cmp_isn4, cmp_isn5, cmp_in, cmp_notin, bi_lens, bi_lent, bi_lenl, bi_min, bi_max, bi_abs, bi_listT, bi_listL, bi_tupT, bi_tupL, bi_maxL, bi_minL, bi_sumL, bi_anyL, bi_allL, bi_sorted, seqL_l, items_l, items_t, items_m, w_gl, new_f, new_t, ix_t, ix_l, tru_b, tru_n, tru_i, tru_l, tru_t, isi_b, isi_bi, isi_ii, isi_ib, isi_is, isi_it, isi_il, isi_sb, isi_si, isi_ss, isi_tb, isi_ti, isi_ts, isi_tt, isi_tl, isi_lb, isi_li, isi_ls, isi_lt, isi_ll, isi_nb, isi_ni, isi_ns, isi_nt, isi_nl, ix_m, tru_m, bi_lenm, seqL_m, mt_appm, mt_popm, mtOk_appm, mtOk_popm, it_m, ixSt_m]
        refine haf A1 B1 M1 t1 A2 B2 M2 t2 _ _ _ ht1 ht2 ?_
        refine ⟨sz (by decide), ?_⟩
        rw [ed]
        exact hli _ _ _ _ _ like_m (hq d hd)
      unfold b__law_after_far_7
      rw [wpSs_cons]
      simp only [Int.reduceNeg, Int.reduceAdd, Int.reduceSub, Int.reduceMul, cpow_10, cpow_2, Int.reduceLE, Int.reduceLT, Int.reduceToNat, Int.reducePow, mset_same, mset_mset, Tgs.len, List.getElem?_cons_zero, List.getElem?_cons_succ, List.set_cons_zero, List.set_cons_succ, List.getElem?_nil, Option.some.injEq, exists_eq_left', exists_eq_left, true_and, and_true, if_true, if_false, Bool.false_eq_true, reduceCtorEq, Dt.int.injEq, Dt.bl.injEq, Dt.str.injEq, Dt.lst.injEq, Dt.tup.injEq, Dt.ref.injEq, decide_eq_true_eq, List.length_cons, List.length_nil, Nat.zero_add, Nat.reduceAdd, Option.map_some, Bool.not_true, Bool.not_false, atI_0, atI_1, atI_2, atI_3, atI_4, ixN_0, ixN_1, ixN_2, ixN_3, ixN_4, w_var, w_int, w_str, w_bl, w_non, w_glob, w_bin, w_neg, w_cmp, w_cmp2, w_bop, w_b1, w_b2, w_not, w_ite, w_tup, w_lst, w_ix, w_sl, w_call, w_bi, w_mt, w_isi, w_lc, w_frz, w_es0, w_es1, w_o0, w_o1, w_tval, w_tcmp, w_tcmp2, w_tnot, w_tall, w_tany, w_all0, w_all1, w_all2, w_any0, w_any1, w_any2, it_t, it_l, w_seq, w_rng1, w_rng2, w_gn, w_gt, w_gi, w_gs0, w_gs1, s_asg, s_asgC, s_par, s_aug, s_expr, s_if, s_for, s_while, s_ret, s_retN, s_brk, s_cont, s_pass, s_nil, frz_l, frz_m, bin_add, bin_adds, bin_sub, bin_mul, bin_fdiv, bin_mod, bin_pow, bin_xor, cmp_lt, cmp_le, cmp_gt, cmp_ge, cmp_eqi, cmp_eqs, cmp_eqb, cmp_nei, cmp_nes, cmp_neb, cmp_is0, cmp_is1, cmp_is2, cmp_is3, cmp_is4, cmp_is5, cmp_is6, cmp_isn0, cmp_isn1, cmp_isn2, cmp_isn3, cmp_isn4, cmp_isn5, cmp_in, cmp_notin, bi_lens, bi_lent, bi_lenl, bi_min, bi_max, bi_abs, bi_listT, bi_listL, bi_tupT, bi_tupL, bi_maxL, bi_minL, bi_sumL, bi_anyL, bi_allL, bi_sorted, seqL_l, items_l, items_t, items_m, w_gl, new_f, new_t, ix_t, ix_l, tru_b, tru_n, tru_i, tru_l, tru_t, isi_b, isi_bi, isi_ii, isi_ib, isi_is, isi_it, isi_il, isi_sb, isi_si, isi_ss, isi_tb, isi_ti, isi_ts, isi_tt, isi_tl, isi_lb, isi_li, isi_ls, isi_lt, isi_ll, isi_nb, isi_ni, isi_ns, isi_nt, isi_nl, ix_m, tru_m, bi_lenm, seqL_m, mt_appm, mt_popm, mtOk_appm, mtOk_popm, it_m, ixSt_m]
      by_cases ht : t2 = 1
      · rw [if_pos ht] at P2 ⊢
        rw [P2]
        exact hgo2
      · rw [if_neg ht] at P2 ⊢
        rw [P2]
        exact hgo2
    simp only [Int.reduceNeg, Int.reduceAdd, Int.reduceSub, Int.reduceMul, cpow_10, cpow_2, Int.reduceLE, Int.reduceLT, Int.reduceToNat, Int.reducePow, mset_same, mset_mset, Tgs.len, List.getElem?_cons_zero, List.getElem?_cons_succ, List.set_cons_zero, List.set_cons_succ, List.getElem?_nil, Option.some.injEq, exists_eq_left', exists_eq_left, true_and, and_true, if_true, if_false, Bool.false_eq_true, reduceCtorEq, Dt.int.injEq, Dt.bl.injEq, Dt.str.injEq, Dt.lst.injEq, Dt.tup.injEq, Dt.ref.injEq, decide_eq_true_eq, List.length_cons, List.length_nil, Nat.zero_add, Nat.reduceAdd, Option.map_some, Bool.not_true, Bool.not_false, atI_0, atI_1, atI_2, atI_3, atI_4, ixN_0, ixN_1, ixN_2, ixN_3, ixN_4, w_var, w_int, w_str, w_bl, w_non, w_glob, w_bin, w_neg, w_cmp, w_cmp2, w_bop, w_b1, w_b2, w_not, w_ite, w_tup, w_lst, w_ix, w_sl, w_call, w_bi, w_mt, w_isi, w_lc, w_frz, w_es0, w_es1, w_o0, w_o1, w_tval, w_tcmp, w_tcmp2, w_tnot, w_tall, w_tany, w_all0, w_all1, w_all2, w_any0, w_any1, w_any2, it_t, it_l, w_seq, w_rng1, w_rng2, w_gn, w_gt, w_gi, w_gs0, w_gs1, s_asg, s_asgC, s_par, s_aug, s_expr, s_if, s_for, s_while, s_ret, s_retN, s_brk, s_cont, s_pass, s_nil, frz_l, frz_m, bin_add, bin_adds, bin_sub, bin_mul, bin_fdiv, bin_mod, bin_pow, bin_xor, cmp_lt, cmp_le, cmp_gt, cmp_ge, cmp_eqi, cmp_eqs, cmp_eqb, cmp_nei, cmp_nes, cmp_neb, cmp_is0, cmp_is1, cmp_is2, cmp_is3, cmp_is4, cmp_is5, cmp_is6, cmp_isn0, cmp_isn1, cmp_isn2, cmp_isn3, cmp_isn4, cmp_isn5, cmp_in, cmp_notin, bi_lens, bi_lent, bi_lenl, bi_min, bi_max, bi_abs, bi_listT, bi_listL, bi_tupT, bi_tupL, bi_maxL, bi_minL, bi_sumL, bi_anyL, bi_allL, bi_sorted, seqL_l, items_l, items_t, items_m, w_gl, new_f, new_t, ix_t, ix_l, tru_b, tru_n, tru_i, tru_l, tru_t, isi_b, isi_bi, isi_ii, isi_ib, isi_is, isi_it, isi_il, isi_sb, isi_si, isi_ss, isi_tb, isi_ti, isi_ts, isi_tt, isi_tl, isi_lb, isi_li, isi_ls, isi_lt, isi_ll, isi_nb, isi_ni, isi_ns, isi_nt, isi_nl, ix_m, tru_m, bi_lenm, seqL_m, mt_appm, mt_popm, mtOk_appm, mtOk_popm, it_m, ixSt_m]
    by_cases ht : t1 = 1
    · rw [if_pos ht] at P1 ⊢
      rw [P1]
      exact hgo
    · rw [if_neg ht] at P1 ⊢
      rw [P1]
      exact hgo
end Fm

namespace K06
open Fm PySem L2 PySem.Spec PyProof.Rows
def top (i : Nat) : Stmt := PySem.Challenge.pw_farmates_k06_one_mating_after_another.main.body.getD i (.Pass ⟨0, 0, 0, 0⟩)
def d_back : DD := ⟨"back", top 4, n_back, 1, b_back⟩
def d_led : DD := ⟨"led", top 5, n_led, 2, b_led⟩
def d_part : DD := ⟨"part", top 6, n_part, 3, b_part⟩
def d_after : DD := ⟨"after", top 7, n_after, 2, b_after⟩
def d__law_open : DD := ⟨"_law_open", top 9, n__law_open, 1, b__law_open⟩
def d__law_pull : DD := ⟨"_law_pull", top 10, n__law_pull, 2, b__law_pull⟩
def d__law_like : DD := ⟨"_law_like", top 11, n__law_like, 2, b__law_like⟩
def d__law_mating : DD := ⟨"_law_mating", top 12, n__law_mating, 2, b__law_mating⟩
def d__law_ends : DD := ⟨"_law_ends", top 13, n__law_ends, 1, b__law_ends⟩
def d__law_scaled : DD := ⟨"_law_scaled", top 14, n__law_scaled, 2, b__law_scaled⟩
def d__law_after_far : DD := ⟨"_law_after_far", top 15, n__law_after_far, 1, b__law_after_far⟩
def b_law_16 : Sms := .cons (.ret (.bl true)) .nil
def b_law_15 : Sms := .cons (.ret (.bl false)) .nil
def b_law_14 : Sms := .cons (.if_ (.not_ (.val (.call 53 (.cons (.ix (.var 8) (.int 3)) (.cons (.bin .mod (.bin .add (.ix (.var 4) (.int 3)) (.ix (.var 5) (.int 3))) (.int 2)) (.nil)))))) (b_law_15) (.nil)) .nil
def b_law_13 : Sms := .cons (.ret (.bl false)) .nil
def b_law_12 : Sms := .cons (.if_ (.any (.cons (.not_ (.val (.isi (.var 8) [.ty "tuple"] false))) (.cons (.not_ (.val (.call 53 (.cons (.bi (.sorted false) (.cons (.call 66 (.cons (.var 8) (.nil))) (.nil))) (.cons (.var 7) (.nil)))))) (.nil)))) (b_law_13) (b_law_14)) .nil
def b_law_11 : Sms := .cons (.ret (.bl false)) .nil
def b_law_10 : Sms := .cons (.if_ (.cmp .isnot (.var 8) (.non)) (b_law_11) (.nil)) .nil
def b_law_9 : Sms := .cons (.if_ (.cmp .eq (.var 7) (.lst false (.nil))) (b_law_10) (b_law_12)) .nil
def b_law_8 : Sms := .cons (.asg (.name 8) (.call 72 (.cons (.var 4) (.cons (.var 5) (.nil))))) b_law_9
def b_law_7 : Sms := .cons (.asgC 7 (.lc false [("_law_one", 9), ("_law_other", 10)] (.tup (.cons (.name 9) (.cons (.name 10) (.nil)))) (.seq (.call 66 (.cons (.var 4) (.nil)))) (.cons (.cmp .in_ (.var 10) (.var 6)) (.nil)) (.tup (.cons (.var 9) (.cons (.ix (.var 6) (.var 10)) (.nil)))))) b_law_8
def b_law_6 : Sms := .cons (.asg (.name 6) (.bi (.dictOf) (.cons (.call 66 (.cons (.var 5) (.nil))) (.nil)))) b_law_7
def b_law_5 : Sms := .cons (.par 4 5 (.call 65 (.cons (.var 1) (.cons (.var 3) (.nil)))) (.call 65 (.cons (.var 1) (.cons (.var 3) (.nil))))) b_law_6
def b_law_4 : Sms := .cons (.asg (.name 3) (.bin .add (.int 1) (.call 51 (.cons (.var 1) (.cons (.int 20) (.nil)))))) b_law_5
def b_law_3 : Sms := .cons (.ret (.bl false)) .nil
def b_law_2 : Sms := .cons (.if_ (.not_ (.val (.call 73 (.cons (.var 1) (.nil))))) (b_law_3) (.nil)) b_law_4
def b_law_1 : Sms := .cons (.for_ (.name 2) (.rng1 (.int 6)) (b_law_2)) b_law_16
def b_law_0 : Sms := .cons (.asg (.name 1) (.call 50 (.cons (.var 0) (.nil)))) b_law_1
abbrev b_law : Sms := b_law_0
abbrev n_law : List Str := ["_law_script", "_law_draw", "_law_turn", "_law_length", "_law_first", "_law_second", "_law_further", "_law_due", "_law_told", "_law_one", "_law_other"]
def d_law : DD := ⟨"law", top 16, n_law, 1, b_law⟩
def txt : Txt := ⟨[(4, d_back), (6, d_led), (7, d_part), (72, d_after), (50, d__law_open), (51, d__law_pull), (53, d__law_like), (65, d__law_mating), (66, d__law_ends), (69, d__law_scaled), (73, d__law_after_far), (74, d_law)], [], ["isinstance", "bool", "min", "max", "list", "len", "int", "str", "tuple", "all", "range", "dict", "sorted"]⟩
theorem txt_ok : txt.ok = true := by decide +kernel
theorem txt_bind : AllBind txt.defs := ⟨fun _ _ _ _ _ _ us hl => match us, hl with | [_], _ => rfl, fun _ _ _ _ _ _ us hl => match us, hl with | [_, _], _ => rfl, fun _ _ _ _ _ _ us hl => match us, hl with | [_, _, _], _ => rfl, fun _ _ _ _ _ _ us hl => match us, hl with | [_, _], _ => rfl, fun _ _ _ _ _ _ us hl => match us, hl with | [_], _ => rfl, fun _ _ _ _ _ _ us hl => match us, hl with | [_, _], _ => rfl, fun _ _ _ _ _ _ us hl => match us, hl with | [_, _], _ => rfl, fun _ _ _ _ _ _ us hl => match us, hl with | [_, _], _ => rfl, fun _ _ _ _ _ _ us hl => match us, hl with | [_], _ => rfl, fun _ _ _ _ _ _ us hl => match us, hl with | [_, _], _ => rfl, fun _ _ _ _ _ _ us hl => match us, hl with | [_], _ => rfl, fun _ _ _ _ _ _ us hl => match us, hl with | [_], _ => rfl, trivial⟩

def ledZ (a b m t p : Int) : Int := if t = 1 then b + m - 1 - (p - a) else b + p - a
theorem kept_val {a b m t p : Int} (hm : 0 ≤ m) : valD (mergeD [] ((List.range m.toNat).map fun j : Nat => ((.inl (a + j) : Key), Dt.int (if t = 1 then b + m - 1 - j else b + j)))) (.inl p) = if a ≤ p ∧ p < a + m then some (.int (ledZ a b m t p)) else none := by
  unfold ledZ
  by_cases h : a ≤ p ∧ p < a + m
  · rw [if_pos h, valD_merge (v := .int (if t = 1 then b + m - 1 - (p - a) else b + p - a))]
    · intro kv hk e
      obtain ⟨j, hj, rfl⟩ := List.mem_map.mp hk
      have e' : a + (j : Int) = p := Sum.inl.inj e
      have : (j : Int) = p - a := by omega
      show Dt.int _ = Dt.int _
      rw [this]
      split <;> congr 1 <;> omega
    · refine .inl ⟨_, List.mem_map.mpr ⟨(p - a).toNat, List.mem_range.mpr (by omega), rfl⟩, ?_⟩
      show (Sum.inl (a + ((p - a).toNat : Int)) : Key) = .inl p
      congr 1
      omega
  · rw [if_neg h, valD_merge_no]
    · rfl
    · intro kv hk e
      obtain ⟨j, hj, rfl⟩ := List.mem_map.mp hk
      rw [List.mem_range] at hj
      have e' : a + (j : Int) = p := Sum.inl.inj e
      omega
def aftF (a2 b2 m2 t2 : Int) (d : Dt) : Option Dt := match d with
  | .tup [.int x, .int y] => if a2 ≤ y ∧ y < a2 + m2 then some (.tup [.int x, .int (ledZ a2 b2 m2 t2 y)]) else none
  | _ => none
def aftL (a1 b1 m1 t1 a2 b2 m2 t2 : Int) : List Dt := if aftHi b1 m1 a2 m2 ≤ aftLo b1 a2 then [] else
  endsL (partB b1 a1 m1 t1 (aftLo b1 a2) (aftHi b1 m1 a2 m2 - aftLo b1 a2)) (partB a2 b2 m2 t2 (aftLo b1 a2) (aftHi b1 m1 a2 m2 - aftLo b1 a2)) (aftHi b1 m1 a2 m2 - aftLo b1 a2) ((t1 + t2) % 2)
theorem aft_is {a1 b1 m1 t1 a2 b2 m2 t2 : Int} (hm : 0 ≤ m1) (h1 : t1 = 0 ∨ t1 = 1) (h2 : t2 = 0 ∨ t2 = 1) : (endsL a1 b1 m1 t1).filterMap (aftF a2 b2 m2 t2) = aftL a1 b1 m1 t1 a2 b2 m2 t2 := by
  have hlo : b1 ≤ aftLo b1 a2 ∧ a2 ≤ aftLo b1 a2 ∧ (aftLo b1 a2 = b1 ∨ aftLo b1 a2 = a2) := by unfold aftLo; omega
  have hhi : aftHi b1 m1 a2 m2 ≤ b1 + m1 ∧ aftHi b1 m1 a2 m2 ≤ a2 + m2 ∧ (aftHi b1 m1 a2 m2 = b1 + m1 ∨ aftHi b1 m1 a2 m2 = a2 + m2) := by unfold aftHi; omega
  unfold aftL
  generalize aftLo b1 a2 = lo at hlo ⊢
  generalize aftHi b1 m1 a2 m2 = hi at hhi ⊢
  generalize hl' : (if t1 = 1 then b1 + m1 - hi else lo - b1) = l'
  generalize hh' : (if t1 = 1 then b1 + m1 - lo else hi - b1) = h'
  have e1 : (endsL a1 b1 m1 t1).filterMap (aftF a2 b2 m2 t2) = (List.range m1.toNat).filterMap (fun j => if l'.toNat ≤ j ∧ j < h'.toNat then some (Dt.tup [.int (a1 + (j : Nat)), .int (ledZ a2 b2 m2 t2 (if t1 = 1 then b1 + m1 - 1 - (j : Nat) else b1 + (j : Nat)))]) else none) := by
    unfold endsL
    rw [List.filterMap_map]
    refine fm_congr fun j hj => ?_
    rw [List.mem_range] at hj
    show (if a2 ≤ (if t1 = 1 then b1 + m1 - 1 - (j : Int) else b1 + j) ∧ (if t1 = 1 then b1 + m1 - 1 - (j : Int) else b1 + j) < a2 + m2 then some (Dt.tup [.int (a1 + j), .int (ledZ a2 b2 m2 t2 (if t1 = 1 then b1 + m1 - 1 - (j : Int) else b1 + j))]) else none) = _
    have : (a2 ≤ (if t1 = 1 then b1 + m1 - 1 - (j : Int) else b1 + j) ∧ (if t1 = 1 then b1 + m1 - 1 - (j : Int) else b1 + j) < a2 + m2) ↔ (l'.toNat ≤ j ∧ j < h'.toNat) := by
      rcases h1 with rfl | rfl
      · rw [if_neg (by decide)] at hl' hh' ⊢
        omega
      · rw [if_pos rfl] at hl' hh' ⊢
        omega
    by_cases h : a2 ≤ (if t1 = 1 then b1 + m1 - 1 - (j : Int) else b1 + j) ∧ (if t1 = 1 then b1 + m1 - 1 - (j : Int) else b1 + j) < a2 + m2
    · rw [if_pos h, if_pos (this.mp h)]
    · rw [if_neg h, if_neg fun z => h (this.mpr z)]
  rw [e1, filter_range]
  have hl2 : t1 = 0 ∧ l' = lo - b1 ∧ h' = hi - b1 ∨ t1 = 1 ∧ l' = b1 + m1 - hi ∧ h' = b1 + m1 - lo := by
    rcases h1 with rfl | rfl
    · rw [if_neg (by decide)] at hl' hh'
      exact .inl ⟨rfl, hl'.symm, hh'.symm⟩
    · rw [if_pos rfl] at hl' hh'
      exact .inr ⟨rfl, hl'.symm, hh'.symm⟩
  by_cases hc : hi ≤ lo
  · rw [if_pos hc]
    have : min h'.toNat m1.toNat - l'.toNat = 0 := by omega
    rw [this]; rfl
  · rw [if_neg hc]
    have : min h'.toNat m1.toNat - l'.toNat = (hi - lo).toNat := by omega
    rw [this]
    unfold endsL
    refine List.map_congr_left fun i hi' => ?_
    rw [List.mem_range] at hi'
    unfold endP ledZ partB
    rcases hl2 with ⟨rfl, rfl, rfl⟩ | ⟨rfl, rfl, rfl⟩ <;> rcases h2 with rfl | rfl <;> simp only [Int.reduceAdd, Int.reduceMod, if_true, if_false, Int.reduceEq] <;> congr 2 <;> first | (congr 1; omega) | (congr 2; omega)
theorem law_is : LawIs txt 41 74 := by
  intro ns hns
  have hop : OpenOk ((Gn txt 40).call 50) := open_ok (Gn txt 39)
  have hpu : PullOk ((Gn txt 40).call 51) := pull_ok (Gn txt 39)
  have hma : MatingOk ((Gn txt 40).call 65) := mating_ok (Gn txt 39) (pull_ok (Gn txt 38))
  have hen : EndsOk ((Gn txt 40).call 66) := ends_ok (Gn txt 39)
  have haf : AfterOk ((Gn txt 40).call 72) := after_ok (Gn txt 39) (back_ok (Gn txt 38)) (part_ok (Gn txt 38) (led_ok (Gn txt 37)))
  have hfa : AftFarOk ((Gn txt 40).call 73) := aftfar_ok (Gn txt 39) (pull_ok (Gn txt 38)) (mating_ok (Gn txt 38) (pull_ok (Gn txt 37))) (scaled_ok (Gn txt 38)) (after_ok (Gn txt 38) (back_ok (Gn txt 37)) (part_ok (Gn txt 37) (led_ok (Gn txt 36)))) (like_all rfl rfl rfl rfl 2 39 (by decide))
  have hli : ∀ n, n ≤ 4 → LikeOk n ((Gn txt 40).call 53) := fun n h => like_all rfl rfl rfl rfl n 40 (by omega)
  rw [Gn_call (T := txt) (d := d_law) rfl 40]
  generalize Gn txt 40 = G at hop hpu hma hen haf hfa hli
  refine ⟨rfl, ?_⟩
  have e0 : startR d_law.N [.lst (ns.map .int)] = [some (.lst (ns.map .int)), none, none, none, none, none, none, none, none, none, none] := rfl
  rw [e0]
  show wpSs G b_law_0 _ _ _
  generalize hk : bodyK (fun d _ => d = .bl true) (fun _ _ => False) = k
  have hrt : ∀ M, k.rt (.bl true) M := by intro M; rw [← hk]; rfl
  unfold b_law_0
  rw [wpSs_cons]
  simp only [Int.reduceNeg, Int.reduceAdd, Int.reduceSub, Int.reduceMul, cpow_10, cpow_2, Int.reduceLE, Int.reduceLT, Int.reduceToNat, Int.reducePow, mset_same, mset_mset, Tgs.len, List.getElem?_cons_zero, List.getElem?_cons_succ, List.set_cons_zero, List.set_cons_succ, List.getElem?_nil, Option.some.injEq, exists_eq_left', exists_eq_left, true_and, and_true, if_true, if_false, Bool.false_eq_true, reduceCtorEq, Dt.int.injEq, Dt.bl.injEq, Dt.str.injEq, Dt.lst.injEq, Dt.tup.injEq, Dt.ref.injEq, decide_eq_true_eq, List.length_cons, List.length_nil, Nat.zero_add, Nat.reduceAdd, Option.map_some, Bool.not_true, Bool.not_false, atI_0, atI_1, atI_2, atI_3, atI_4, ixN_0, ixN_1, ixN_2, ixN_3, ixN_4, w_var, w_int, w_str, w_bl, w_non, w_glob, w_bin, w_neg, w_cmp, w_cmp2, w_bop, w_b1, w_b2, w_not, w_ite, w_tup, w_lst, w_ix, w_sl, w_call, w_bi, w_mt, w_isi, w_lc, w_frz, w_es0, w_es1, w_o0, w_o1, w_tval, w_tcmp, w_tcmp2, w_tnot, w_tall, w_tany, w_all0, w_all1, w_all2, w_any0, w_any1, w_any2, it_t, it_l, w_seq, w_rng1, w_rng2, w_gn, w_gt, w_gi, w_gs0, w_gs1, s_asg, s_asgC, s_par, s_aug, s_expr, s_if, s_for, s_while, s_ret, s_retN, s_brk, s_cont, s_pass, s_nil, frz_l, frz_m, bin_add, bin_adds, bin_sub, bin_mul, bin_fdiv, bin_mod, bin_pow, bin_xor, cmp_lt, cmp_le, cmp_gt, cmp_ge, cmp_eqi, cmp_eqs, cmp_eqb, cmp_nei, cmp_nes, cmp_neb, cmp_is0, cmp_is1, cmp_is2, cmp_is3, cmp_is4, cmp_is5, cmp_is6, cmp_isn0, cmp_isn1, cmp_isn2, cmp_isn3, cmp_isn4, cmp_isn5, cmp_in, cmp_notin, bi_lens, bi_lent, bi_lenl, bi_min, bi_max, bi_abs, bi_listT, bi_listL, bi_tupT, bi_tupL, bi_maxL, bi_minL, bi_sumL, bi_anyL, bi_allL, bi_sorted, seqL_l, items_l, items_t, items_m, w_gl, new_f, new_t, ix_t, ix_l, tru_b, tru_n, tru_i, tru_l, tru_t, isi_b, isi_bi, isi_ii, isi_ib, isi_is, isi_it, isi_il, isi_sb, isi_si, isi_ss, isi_tb, isi_ti, isi_ts, isi_tt, isi_tl, isi_lb, isi_li, isi_ls, isi_lt, isi_ll, isi_nb, isi_ni, isi_ns, isi_nt, isi_nl, ix_m, tru_m, bi_lenm, seqL_m, mt_appm, mt_popm, mtOk_appm, mtOk_popm, it_m, ixSt_m]
  refine hop ns _ _ _ hns fun p d hp hd => ?_
  unfold b_law_1
  rw [wpSs_cons]
  simp only [Int.reduceNeg, Int.reduceAdd, Int.reduceSub, Int.reduceMul, cpow_10, cpow_2, Int.reduceLE, Int.reduceLT, Int.reduceToNat, Int.reducePow, mset_same, mset_mset, Tgs.len, List.getElem?_cons_zero, List.getElem?_cons_succ, List.set_cons_zero, List.set_cons_succ, List.getElem?_nil, Option.some.injEq, exists_eq_left', exists_eq_left, true_and, and_true, if_true, if_false, Bool.false_eq_true, reduceCtorEq, Dt.int.injEq, Dt.bl.injEq, Dt.str.injEq, Dt.lst.injEq, Dt.tup.injEq, Dt.ref.injEq, decide_eq_true_eq, List.length_cons, List.length_nil, Nat.zero_add, Nat.reduceAdd, Option.map_some, Bool.not_true, Bool.not_false, atI_0, atI_1, atI_2, atI_3, atI_4, ixN_0, ixN_1, ixN_2, ixN_3, ixN_4, w_var, w_int, w_str, w_bl, w_non, w_glob, w_bin, w_neg, w_cmp, w_cmp2, w_bop, w_b1, w_b2, w_not, w_ite, w_tup, w_lst, w_ix, w_sl, w_call, w_bi, w_mt, w_isi, w_lc, w_frz, w_es0, w_es1, w_o0, w_o1, w_tval, w_tcmp, w_tcmp2, w_tnot, w_tall, w_tany, w_all0, w_all1, w_all2, w_any0, w_any1, w_any2, it_t, it_l, w_seq, w_rng1, w_rng2, w_gn, w_gt, w_gi, w_gs0, w_gs1, s_asg, s_asgC, s_par, s_aug, s_expr, s_if, s_for, s_while, s_ret, s_retN, s_brk, s_cont, s_pass, s_nil, frz_l, frz_m, bin_add, bin_adds, bin_sub, bin_mul, bin_fdiv, bin_mod, bin_pow, bin_xor, cmp_lt, cmp_le, cmp_gt, cmp_ge, cmp_eqi, cmp_eqs, cmp_eqb, cmp_nei, cmp_nes, cmp_neb, cmp_is0, cmp_is1, cmp_is2, cmp_is3, cmp_is4, cmp_is5, cmp_is6, cmp_isn0, cmp_isn1, cmp_isn2, cmp_isn3, cmp_isn4, cmp_isn5, cmp_in, cmp_notin, bi_lens, bi_lent, bi_lenl, bi_min, bi_max, bi_abs, bi_listT, bi_listL, bi_tupT, bi_tupL, bi_maxL, bi_minL, bi_sumL, bi_anyL, bi_allL, bi_sorted, seqL_l, items_l, items_t, items_m, w_gl, new_f, new_t, ix_t, ix_l, tru_b, tru_n, tru_i, tru_l, tru_t, isi_b, isi_bi, isi_ii, isi_ib, isi_is, isi_it, isi_il, isi_sb, isi_si, isi_ss, isi_tb, isi_ti, isi_ts, isi_tt, isi_tl, isi_lb, isi_li, isi_ls, isi_lt, isi_ll, isi_nb, isi_ni, isi_ns, isi_nt, isi_nl, ix_m, tru_m, bi_lenm, seqL_m, mt_appm, mt_popm, mtOk_appm, mtOk_popm, it_m, ixSt_m]
  refine forRun_inv (fun _ ρ' M' => ∃ (d : Drw) (o2 o3 o4 o5 o6 o7 o8 : Option Dt), d.Ok ∧ ρ' = [some (.lst (ns.map .int)), some (.ref p), o2, o3, o4, o5, o6, o7, o8, none, none] ∧ M' p = some d.o) ⟨d, _, _, _, _, _, _, _, hd, rfl, mset_same⟩ (fun _ _ _ _ => trivial) ?_ ?_
  · rintro i v ρ' M n - ⟨d, o2, o3, o4, o5, o6, o7, o8, hd, rfl, hM⟩ hn
    simp only [Int.reduceNeg, Int.reduceAdd, Int.reduceSub, Int.reduceMul, cpow_10, cpow_2, Int.reduceLE, Int.reduceLT, Int.reduceToNat, Int.reducePow, mset_same, mset_mset, Tgs.len, List.getElem?_cons_zero, List.getElem?_cons_succ, List.set_cons_zero, List.set_cons_succ, List.getElem?_nil, Option.some.injEq, exists_eq_left', exists_eq_left, true_and, and_true, if_true, if_false, Bool.false_eq_true, reduceCtorEq, Dt.int.injEq, Dt.bl.injEq, Dt.str.injEq, Dt.lst.injEq, Dt.tup.injEq, Dt.ref.injEq, decide_eq_true_eq, List.length_cons, List.length_nil, Nat.zero_add, Nat.reduceAdd, Option.map_some, Bool.not_true, Bool.not_false, atI_0, atI_1, atI_2, atI_3, atI_4, ixN_0, ixN_1, ixN_2, ixN_3, ixN_4, w_var, w_int, w_str, w_bl, w_non, w_glob, w_bin, w_neg, w_cmp, w_cmp2, w_bop, w_b1, w_b2, w_not, w_ite, w_tup, w_lst, w_ix, w_sl, w_call, w_bi, w_mt, w_isi, w_lc, w_frz, w_es0, w_es1, w_o0, w_o1, w_tval, w_tcmp, w_tcmp2, w_tnot, w_tall, w_tany, w_all0, w_all1, w_all2, w_any0, w_any1, w_any2, it_t, it_l, w_seq, w_rng1, w_rng2, w_gn, w_gt, w_gi, w_gs0, w_gs1, s_asg, s_asgC, s_par, s_aug, s_expr, s_if, s_for, s_while, s_ret, s_retN, s_brk, s_cont, s_pass, s_nil, frz_l, frz_m, bin_add, bin_adds, bin_sub, bin_mul, bin_fdiv, bin_mod, bin_pow, bin_xor, cmp_lt, cmp_le, cmp_gt, cmp_ge, cmp_eqi, cmp_eqs, cmp_eqb, cmp_nei, cmp_nes, cmp_neb, cmp_is0, cmp_is1, cmp_is2, cmp_is3, cmp_is4, cmp_is5, cmp_is6, cmp_isn0, cmp_isn1, cmp_isn2, cmp_isn3, cmp_isn4, cmp_isn5, cmp_in, cmp_notin, bi_lens, bi_lent, bi_lenl, bi_min, bi_max, bi_abs, bi_listT, bi_listL, bi_tupT, bi_tupL, bi_maxL, bi_minL, bi_sumL, bi_anyL, bi_allL, bi_sorted, seqL_l, items_l, items_t, items_m, w_gl, new_f, new_t, ix_t, ix_l, tru_b, tru_n, tru_i, tru_l, tru_t, isi_b, isi_bi, isi_ii, isi_ib, isi_is, isi_it, isi_il, isi_sb, isi_si, isi_ss, isi_tb, isi_ti, isi_ts, isi_tt, isi_tl, isi_lb, isi_li, isi_ls, isi_lt, isi_ll, isi_nb, isi_ni, isi_ns, isi_nt, isi_nl, ix_m, tru_m, bi_lenm, seqL_m, mt_appm, mt_popm, mtOk_appm, mtOk_popm, it_m, ixSt_m]
    unfold b_law_2
    rw [wpSs_cons]
    simp only [Int.reduceNeg, Int.reduceAdd, Int.reduceSub, Int.reduceMul, cpow_10, cpow_2, Int.reduceLE, Int.reduceLT, Int.reduceToNat, Int.reducePow, mset_same, mset_mset, Tgs.len, List.getElem?_cons_zero, List.getElem?_cons_succ, List.set_cons_zero, List.set_cons_succ, List.getElem?_nil, Option.some.injEq, exists_eq_left', exists_eq_left, true_and, and_true, if_true, if_false, Bool.false_eq_true, reduceCtorEq, Dt.int.injEq, Dt.bl.injEq, Dt.str.injEq, Dt.lst.injEq, Dt.tup.injEq, Dt.ref.injEq, decide_eq_true_eq, List.length_cons, List.length_nil, Nat.zero_add, Nat.reduceAdd, Option.map_some, Bool.not_true, Bool.not_false, atI_0, atI_1, atI_2, atI_3, atI_4, ixN_0, ixN_1, ixN_2, ixN_3, ixN_4, w_var, w_int, w_str, w_bl, w_non, w_glob, w_bin, w_neg, w_cmp, w_cmp2, w_bop, w_b1, w_b2, w_not, w_ite, w_tup, w_lst, w_ix, w_sl, w_call, w_bi, w_mt, w_isi, w_lc, w_frz, w_es0, w_es1, w_o0, w_o1, w_tval, w_tcmp, w_tcmp2, w_tnot, w_tall, w_tany, w_all0, w_all1, w_all2, w_any0, w_any1, w_any2, it_t, it_l, w_seq, w_rng1, w_rng2, w_gn, w_gt, w_gi, w_gs0, w_gs1, s_asg, s_asgC, s_par, s_aug, s_expr, s_if, s_for, s_while, s_ret, s_retN, s_brk, s_cont, s_pass, s_nil, frz_l, frz_m, bin_add, bin_adds, bin_sub, bin_mul, bin_fdiv, bin_mod, bin_pow, bin_xor, cmp_lt, cmp_le, cmp_gt, cmp_ge, cmp_eqi, cmp_eqs, cmp_eqb, cmp_nei, cmp_nes, cmp_neb, cmp_is0, cmp_is1, cmp_is2, cmp_is3, cmp_is4, cmp_is5, cmp_is6, cmp_isn0, cmp_isn1, cmp_isn2, cmp_isn3, cmp_isn4, cmp_isn5, cmp_in, cmp_notin, bi_lens, bi_lent, bi_lenl, bi_min, bi_max, bi_abs, bi_listT, bi_listL, bi_tupT, bi_tupL, bi_maxL, bi_minL, bi_sumL, bi_anyL, bi_allL, bi_sorted, seqL_l, items_l, items_t, items_m, w_gl, new_f, new_t, ix_t, ix_l, tru_b, tru_n, tru_i, tru_l, tru_t, isi_b, isi_bi, isi_ii, isi_ib, isi_is, isi_it, isi_il, isi_sb, isi_si, isi_ss, isi_tb, isi_ti, isi_ts, isi_tt, isi_tl, isi_lb, isi_li, isi_ls, isi_lt, isi_ll, isi_nb, isi_ni, isi_ns, isi_nt, isi_nl, ix_m, tru_m, bi_lenm, seqL_m, mt_appm, mt_popm, mtOk_appm, mtOk_popm, it_m, ixSt_m]
    refine hfa p d _ _ _ hM hd fun d hd => ?_
    simp only [Int.reduceNeg, Int.reduceAdd, Int.reduceSub, Int.reduceMul, cpow_10, cpow_2, Int.reduceLE, Int.reduceLT, Int.reduceToNat, Int.reducePow, mset_same, mset_mset, Tgs.len, List.getElem?_cons_zero, List.getElem?_cons_succ, List.set_cons_zero, List.set_cons_succ, List.getElem?_nil, Option.some.injEq, exists_eq_left', exists_eq_left, true_and, and_true, if_true, if_false, Bool.false_eq_true, reduceCtorEq, Dt.int.injEq, Dt.bl.injEq, Dt.str.injEq, Dt.lst.injEq, Dt.tup.injEq, Dt.ref.injEq, decide_eq_true_eq, List.length_cons, List.length_nil, Nat.zero_add, Nat.reduceAdd, Option.map_some, Bool.not_true, Bool.not_false, atI_0, atI_1, atI_2, atI_3, atI_4, ixN_0, ixN_1, ixN_2, ixN_3, ixN_4, w_var, w_int, w_str, w_bl, w_non, w_glob, w_bin, w_neg, w_cmp, w_cmp2, w_bop, w_b1, w_b2, w_not, w_ite, w_tup, w_lst, w_ix, w_sl, w_call, w_bi, w_mt, w_isi, w_lc, w_frz, w_es0, w_es1, w_o0, w_o1, w_tval, w_tcmp, w_tcmp2, w_tnot, w_tall, w_tany, w_all0, w_all1, w_all2, w_any0, w_any1, w_any2, it_t, it_l, w_seq, w_rng1, w_rng2, w_gn, w_gt, w_gi, w_gs0, w_gs1, s_asg, s_asgC, s_par, s_aug, s_expr, s_if, s_for, s_while, s_ret, s_retN, s_brk, s_cont, s_pass, s_nil, frz_l, frz_m, bin_add, bin_adds, bin_sub, bin_mul, bin_fdiv, bin_mod, bin_pow, bin_xor, cmp_lt, cmp_le, cmp_gt, cmp_ge, cmp_eqi, cmp_eqs, cmp_eqb, cmp_nei, cmp_nes, cmp_neb, cmp_is0, cmp_is1, cmp_is2, cmp_is3, cmp_is4, cmp_is5, cmp_is6, cmp_isn0, cmp_isn1, cmp_isn2, cmp_isn3, cmp_isn4, cmp_isn5, cmp_in, cmp_notin, bi_lens, bi_lent, bi_lenl, bi_min, bi_max, bi_abs, bi_listT, bi_listL, bi_tupT, bi_tupL, bi_maxL, bi_minL, bi_sumL, bi_anyL, bi_allL, bi_sorted, seqL_l, items_l, items_t, items_m, w_gl, new_f, new_t, ix_t, ix_l, tru_b, tru_n, tru_i, tru_l, tru_t, isi_b, isi_bi, isi_ii, isi_ib, isi_is, isi_it, isi_il, isi_sb, isi_si, isi_ss, isi_tb, isi_ti, isi_ts, isi_tt, isi_tl, isi_lb, isi_li, isi_ls, isi_lt, isi_ll, isi_nb, isi_ni, isi_ns, isi_nt, isi_nl, ix_m, tru_m, bi_lenm, seqL_m, mt_appm, mt_popm, mtOk_appm, mtOk_popm, it_m, ixSt_m]
    unfold b_law_4
    rw [wpSs_cons]
    simp only [Int.reduceNeg, Int.reduceAdd, Int.reduceSub, Int.reduceMul, cpow_10, cpow_2, Int.reduceLE, Int.reduceLT, Int.reduceToNat, Int.reducePow, mset_same, mset_mset, Tgs.len, List.getElem?_cons_zero, List.getElem?_cons_succ, List.set_cons_zero, List.set_cons_succ, List.getElem?_nil, Option.some.injEq, exists_eq_left', exists_eq_left, true_and, and_true, if_true, if_false, Bool.false_eq_true, reduceCtorEq, Dt.int.injEq, Dt.bl.injEq, Dt.str.injEq, Dt.lst.injEq, Dt.tup.injEq, Dt.ref.injEq, decide_eq_true_eq, List.length_cons, List.length_nil, Nat.zero_add, Nat.reduceAdd, Option.map_some, Bool.not_true, Bool.not_false, atI_0, atI_1, atI_2, atI_3, atI_4, ixN_0, ixN_1, ixN_2, ixN_3, ixN_4, w_var, w_int, w_str, w_bl, w_non, w_glob, w_bin, w_neg, w_cmp, w_cmp2, w_bop, w_b1, w_b2, w_not, w_ite, w_tup, w_lst, w_ix, w_sl, w_call, w_bi, w_mt, w_isi, w_lc, w_frz, w_es0, w_es1, w_o0, w_o1, w_tval, w_tcmp, w_tcmp2, w_tnot, w_tall, w_tany, w_all0, w_all1, w_all2, w_any0, w_any1, w_any2, it_t, it_l, w_seq, w_rng1, w_rng2, w_gn, w_gt, w_gi, w_gs0, w_gs1, s_asg, s_asgC, s_par, s_aug, s_expr, s_if, s_for, s_while, s_ret, s_retN, s_brk, s_cont, s_pass, s_nil, frz_l, frz_m, bin_add, bin_adds, bin_sub, bin_mul, bin_fdiv, bin_mod, bin_pow, bin_xor, cmp_lt, cmp_le, cmp_gt, cmp_ge, cmp_eqi, cmp_eqs, cmp_eqb, cmp_nei, cmp_nes, cmp_neb, cmp_is0, cmp_is1, cmp_is2, cmp_is3, cmp_is4, cmp_is5, cmp_is6, cmp_isn0, cmp_isn1, cmp_isn2, cmp_isn3, cmp_isn4, cmp_isn5, cmp_in, cmp_notin, bi_lens, bi_lent, bi_lenl, bi_min, bi_max, bi_abs, bi_listT, bi_listL, bi_tupT, bi_tupL, bi_maxL, bi_minL, bi_sumL, bi_anyL, bi_allL, bi_sorted, seqL_l, items_l, items_t, items_m, w_gl, new_f, new_t, ix_t, ix_l, tru_b, tru_n, tru_i, tru_l, tru_t, isi_b, isi_bi, isi_ii, isi_ib, isi_is, isi_it, isi_il, isi_sb, isi_si, isi_ss, isi_tb, isi_ti, isi_ts, isi_tt, isi_tl, isi_lb, isi_li, isi_ls, isi_lt, isi_ll, isi_nb, isi_ni, isi_ns, isi_nt, isi_nl, ix_m, tru_m, bi_lenm, seqL_m, mt_appm, mt_popm, mtOk_appm, mtOk_popm, it_m, ixSt_m]
    refine hpu.go hd (by decide) (by decide) fun r d hd r0 r1 => ?_
    simp only [Int.reduceNeg, Int.reduceAdd, Int.reduceSub, Int.reduceMul, cpow_10, cpow_2, Int.reduceLE, Int.reduceLT, Int.reduceToNat, Int.reducePow, mset_same, mset_mset, Tgs.len, List.getElem?_cons_zero, List.getElem?_cons_succ, List.set_cons_zero, List.set_cons_succ, List.getElem?_nil, Option.some.injEq, exists_eq_left', exists_eq_left, true_and, and_true, if_true, if_false, Bool.false_eq_true, reduceCtorEq, Dt.int.injEq, Dt.bl.injEq, Dt.str.injEq, Dt.lst.injEq, Dt.tup.injEq, Dt.ref.injEq, decide_eq_true_eq, List.length_cons, List.length_nil, Nat.zero_add, Nat.reduceAdd, Option.map_some, Bool.not_true, Bool.not_false, atI_0, atI_1, atI_2, atI_3, atI_4, ixN_0, ixN_1, ixN_2, ixN_3, ixN_4, w_var, w_int, w_str, w_bl, w_non, w_glob, w_bin, w_neg, w_cmp, w_cmp2, w_bop, w_b1, w_b2, w_not, w_ite, w_tup, w_lst, w_ix, w_sl, w_call, w_bi, w_mt, w_isi, w_lc, w_frz, w_es0, w_es1, w_o0, w_o1, w_tval, w_tcmp, w_tcmp2, w_tnot, w_tall, w_tany, w_all0, w_all1, w_all2, w_any0, w_any1, w_any2, it_t, it_l, w_seq, w_rng1, w_rng2, w_gn, w_gt, w_gi, w_gs0, w_gs1, s_asg, s_asgC, s_par, s_aug, s_expr, s_if, s_for, s_while, s_ret, s_retN, s_brk, s_cont, s_pass, s_nil, frz_l, frz_m, bin_add, bin_adds, bin_sub, bin_mul, bin_fdiv, bin_mod, bin_pow, bin_xor, cmp_lt, cmp_le, cmp_gt, cmp_ge, cmp_eqi, cmp_eqs, cmp_eqb, cmp_nei, cmp_nes, cmp_neb, cmp_is0, cmp_is1, cmp_is2, cmp_is3, cmp_is4, cmp_is5, cmp_is6, cmp_isn0, cmp_isn1, cmp_isn2, cmp_isn3, cmp_isn4, cmp_isn5, cmp_in, cmp_notin, bi_lens, bi_lent, bi_lenl, bi_min, bi_max, bi_abs, bi_listT, bi_listL, bi_tupT, bi_tupL, bi_maxL, bi_minL, bi_sumL, bi_anyL, bi_allL, bi_sorted, seqL_l, items_l, items_t, items_m, w_gl, new_f, new_t, ix_t, ix_l, tru_b, tru_n, tru_i, tru_l, tru_t, isi_b, isi_bi, isi_ii, isi_ib, isi_is, isi_it, isi_il, isi_sb, isi_si, isi_ss, isi_tb, isi_ti, isi_ts, isi_tt, isi_tl, isi_lb, isi_li, isi_ls, isi_lt, isi_ll, isi_nb, isi_ni, isi_ns, isi_nt, isi_nl, ix_m, tru_m, bi_lenm, seqL_m, mt_appm, mt_popm, mtOk_appm, mtOk_popm, it_m, ixSt_m]
    generalize hL : 1 + r = L
    unfold b_law_5
    rw [wpSs_cons]
    simp only [Int.reduceNeg, Int.reduceAdd, Int.reduceSub, Int.reduceMul, cpow_10, cpow_2, Int.reduceLE, Int.reduceLT, Int.reduceToNat, Int.reducePow, mset_same, mset_mset, Tgs.len, List.getElem?_cons_zero, List.getElem?_cons_succ, List.set_cons_zero, List.set_cons_succ, List.getElem?_nil, Option.some.injEq, exists_eq_left', exists_eq_left, true_and, and_true, if_true, if_false, Bool.false_eq_true, reduceCtorEq, Dt.int.injEq, Dt.bl.injEq, Dt.str.injEq, Dt.lst.injEq, Dt.tup.injEq, Dt.ref.injEq, decide_eq_true_eq, List.length_cons, List.length_nil, Nat.zero_add, Nat.reduceAdd, Option.map_some, Bool.not_true, Bool.not_false, atI_0, atI_1, atI_2, atI_3, atI_4, ixN_0, ixN_1, ixN_2, ixN_3, ixN_4, w_var, w_int, w_str, w_bl, w_non, w_glob, w_bin, w_neg, w_cmp, w_cmp2, w_bop, w_b1, w_b2, w_not, w_ite, w_tup, w_lst, w_ix, w_sl, w_call, w_bi, w_mt, w_isi, w_lc, w_frz, w_es0, w_es1, w_o0, w_o1, w_tval, w_tcmp, w_tcmp2, w_tnot, w_tall, w_tany, w_all0, w_all1, w_all2, w_any0, w_any1, w_any2, it_t, it_l, w_seq, w_rng1, w_rng2, w_gn, w_gt, w_gi, w_gs0, w_gs1, s_asg, s_asgC, s_par, s_aug, s_expr, s_if, s_for, s_while, s_ret, s_retN, s_brk, s_cont, s_pass, s_nil, frz_l, frz_m, bin_add, bin_adds, bin_sub, bin_mul, bin_fdiv, bin_mod, bin_pow, bin_xor, cmp_lt, cmp_le, cmp_gt, cmp_ge, cmp_eqi, cmp_eqs, cmp_eqb, cmp_nei, cmp_nes, cmp_neb, cmp_is0, cmp_is1, cmp_is2, cmp_is3, cmp_is4, cmp_is5, cmp_is6, cmp_isn0, cmp_isn1, cmp_isn2, cmp_isn3, cmp_isn4, cmp_isn5, cmp_in, cmp_notin, bi_lens, bi_lent, bi_lenl, bi_min, bi_max, bi_abs, bi_listT, bi_listL, bi_tupT, bi_tupL, bi_maxL, bi_minL, bi_sumL, bi_anyL, bi_allL, bi_sorted, seqL_l, items_l, items_t, items_m, w_gl, new_f, new_t, ix_t, ix_l, tru_b, tru_n, tru_i, tru_l, tru_t, isi_b, isi_bi, isi_ii, isi_ib, isi_is, isi_it, isi_il, isi_sb, isi_si, isi_ss, isi_tb, isi_ti, isi_ts, isi_tt, isi_tl, isi_lb, isi_li, isi_ls, isi_lt, isi_ll, isi_nb, isi_ni, isi_ns, isi_nt, isi_nl, ix_m, tru_m, bi_lenm, seqL_m, mt_appm, mt_popm, mtOk_appm, mtOk_popm, it_m, ixSt_m]
    refine hma p L d _ _ _ mset_same hd (by omega) (by omega) fun a1 b1 m1 t1 d hd a10 b10 m11 a11 b11 ht1 => ?_
    rw [mset_mset]
    refine hma p L d _ _ _ mset_same hd (by omega) (by omega) fun a2 b2 m2 t2 d hd a20 b20 m21 a21 b21 ht2 => ?_
    rw [mset_mset]
    have hMp : ∀ M' : Mm, M' = mset M p (some d.o) → M' p = some d.o := by
      intro M' e
      rw [e, mset_same]
    generalize mset M p (some d.o) = M1 at hMp ⊢
    have hMp := hMp M1 rfl
    clear hM
    unfold b_law_6
    rw [wpSs_cons]
    simp only [Int.reduceNeg, Int.reduceAdd, Int.reduceSub, Int.reduceMul, cpow_10, cpow_2, Int.reduceLE, Int.reduceLT, Int.reduceToNat, Int.reducePow, mset_same, mset_mset, Tgs.len, List.getElem?_cons_zero, List.getElem?_cons_succ, List.set_cons_zero, List.set_cons_succ, List.getElem?_nil, Option.some.injEq, exists_eq_left', exists_eq_left, true_and, and_true, if_true, if_false, Bool.false_eq_true, reduceCtorEq, Dt.int.injEq, Dt.bl.injEq, Dt.str.injEq, Dt.lst.injEq, Dt.tup.injEq, Dt.ref.injEq, decide_eq_true_eq, List.length_cons, List.length_nil, Nat.zero_add, Nat.reduceAdd, Option.map_some, Bool.not_true, Bool.not_false, atI_0, atI_1, atI_2, atI_3, atI_4, ixN_0, ixN_1, ixN_2, ixN_3, ixN_4, w_var, w_int, w_str, w_bl, w_non, w_glob, w_bin, w_neg, w_cmp, w_cmp2, w_bop, w_b1, w_b2, w_not, w_ite, w_tup, w_lst, w_ix, w_sl, w_call, w_bi, w_mt, w_isi, w_lc, w_frz, w_es0, w_es1, w_o0, w_o1, w_tval, w_tcmp, w_tcmp2, w_tnot, w_tall, w_tany, w_all0, w_all1, w_all2, w_any0, w_any1, w_any2, it_t, it_l, w_seq, w_rng1, w_rng2, w_gn, w_gt, w_gi, w_gs0, w_gs1, s_asg, s_asgC, s_par, s_aug, s_expr, s_if, s_for, s_while, s_ret, s_retN, s_brk, s_cont, s_pass, s_nil, frz_l, frz_m, bin_add, bin_adds, bin_sub, bin_mul, bin_fdiv, bin_mod, bin_pow, bin_xor, cmp_lt, cmp_le, cmp_gt, cmp_ge, cmp_eqi, cmp_eqs, cmp_eqb, cmp_nei, cmp_nes, cmp_neb, cmp_is0, cmp_is1, cmp_is2, cmp_is3, cmp_is4, cmp_is5, cmp_is6, cmp_isn0, cmp_isn1, cmp_isn2, cmp_isn3, cmp_isn4, cmp_isn5, cmp_in, cmp_notin, bi_lens, bi_lent, bi_lenl, bi_min, bi_max, bi_abs, bi_listT, bi_listL, bi_tupT, bi_tupL, bi_maxL, bi_minL, bi_sumL, bi_anyL, bi_allL, bi_sorted, seqL_l, items_l, items_t, items_m, w_gl, new_f, new_t, ix_t, ix_l, tru_b, tru_n, tru_i, tru_l, tru_t, isi_b, isi_bi, isi_ii, isi_ib, isi_is, isi_it, isi_il, isi_sb, isi_si, isi_ss, isi_tb, isi_ti, isi_ts, isi_tt, isi_tl, isi_lb, isi_li, isi_ls, isi_lt, isi_ll, isi_nb, isi_ni, isi_ns, isi_nt, isi_nl, ix_m, tru_m, bi_lenm, seqL_m, mt_appm, mt_popm, mtOk_appm, mtOk_popm, it_m, ixSt_m]
    refine hen a2 b2 m2 t2 _ _ _ (by omega) (by omega) ?_
    rw [bi_dict]
    refine ⟨(List.range m2.toNat).map fun j : Nat => ((.inl (a2 + j) : Key), Dt.int (if t2 = 1 then b2 + m2 - 1 - j else b2 + j)), ?_, fun p6 hp6 => ?_⟩
    · show some _ = some _
      rw [List.map_map]; rfl
    have hpp : p ≠ p6 := by
      intro e
      rw [← e, hMp] at hp6
      cases hp6
    generalize hM2 : mset M1 p6 _ = M2
    have r6 : M2 p6 = some (.dK (mergeD [] ((List.range m2.toNat).map fun j : Nat => ((.inl (a2 + j) : Key), Dt.int (if t2 = 1 then b2 + m2 - 1 - j else b2 + j))))) := by rw [← hM2, mset_same]
    have r1' : M2 p = some d.o := by rw [← hM2, mset_ne hpp, hMp]
    clear hM2
    unfold b_law_7
    rw [wpSs_cons]
    simp only [Int.reduceNeg, Int.reduceAdd, Int.reduceSub, Int.reduceMul, cpow_10, cpow_2, Int.reduceLE, Int.reduceLT, Int.reduceToNat, Int.reducePow, mset_same, mset_mset, Tgs.len, List.getElem?_cons_zero, List.getElem?_cons_succ, List.set_cons_zero, List.set_cons_succ, List.getElem?_nil, Option.some.injEq, exists_eq_left', exists_eq_left, true_and, and_true, if_true, if_false, Bool.false_eq_true, reduceCtorEq, Dt.int.injEq, Dt.bl.injEq, Dt.str.injEq, Dt.lst.injEq, Dt.tup.injEq, Dt.ref.injEq, decide_eq_true_eq, List.length_cons, List.length_nil, Nat.zero_add, Nat.reduceAdd, Option.map_some, Bool.not_true, Bool.not_false, atI_0, atI_1, atI_2, atI_3, atI_4, ixN_0, ixN_1, ixN_2, ixN_3, ixN_4, w_var, w_int, w_str, w_bl, w_non, w_glob, w_bin, w_neg, w_cmp, w_cmp2, w_bop, w_b1, w_b2, w_not, w_ite, w_tup, w_lst, w_ix, w_sl, w_call, w_bi, w_mt, w_isi, w_lc, w_frz, w_es0, w_es1, w_o0, w_o1, w_tval, w_tcmp, w_tcmp2, w_tnot, w_tall, w_tany, w_all0, w_all1, w_all2, w_any0, w_any1, w_any2, it_t, it_l, w_seq, w_rng1, w_rng2, w_gn, w_gt, w_gi, w_gs0, w_gs1, s_asg, s_asgC, s_par, s_aug, s_expr, s_if, s_for, s_while, s_ret, s_retN, s_brk, s_cont, s_pass, s_nil, frz_l, frz_m, bin_add, bin_adds, bin_sub, bin_mul, bin_fdiv, bin_mod, bin_pow, bin_xor, cmp_lt, cmp_le, cmp_gt, cmp_ge, cmp_eqi, cmp_eqs, cmp_eqb, cmp_nei, cmp_nes, cmp_neb, cmp_is0, cmp_is1, cmp_is2, cmp_is3, cmp_is4, cmp_is5, cmp_is6, cmp_isn0, cmp_isn1, cmp_isn2, cmp_isn3, cmp_isn4, cmp_isn5, cmp_in, cmp_notin, bi_lens, bi_lent, bi_lenl, bi_min, bi_max, bi_abs, bi_listT, bi_listL, bi_tupT, bi_tupL, bi_maxL, bi_minL, bi_sumL, bi_anyL, bi_allL, bi_sorted, seqL_l, items_l, items_t, items_m, w_gl, new_f, new_t, ix_t, ix_l, tru_b, tru_n, tru_i, tru_l, tru_t, isi_b, isi_bi, isi_ii, isi_ib, isi_is, isi_it, isi_il, isi_sb, isi_si, isi_ss, isi_tb, isi_ti, isi_ts, isi_tt, isi_tl, isi_lb, isi_li, isi_ls, isi_lt, isi_ll, isi_nb, isi_ni, isi_ns, isi_nt, isi_nl, ix_m, tru_m, bi_lenm, seqL_m, mt_appm, mt_popm, mtOk_appm, mtOk_popm, it_m, ixSt_m]
    refine hen a1 b1 m1 t1 _ _ _ (by omega) (by omega) ?_
    simp only [Int.reduceNeg, Int.reduceAdd, Int.reduceSub, Int.reduceMul, cpow_10, cpow_2, Int.reduceLE, Int.reduceLT, Int.reduceToNat, Int.reducePow, mset_same, mset_mset, Tgs.len, List.getElem?_cons_zero, List.getElem?_cons_succ, List.set_cons_zero, List.set_cons_succ, List.getElem?_nil, Option.some.injEq, exists_eq_left', exists_eq_left, true_and, and_true, if_true, if_false, Bool.false_eq_true, reduceCtorEq, Dt.int.injEq, Dt.bl.injEq, Dt.str.injEq, Dt.lst.injEq, Dt.tup.injEq, Dt.ref.injEq, decide_eq_true_eq, List.length_cons, List.length_nil, Nat.zero_add, Nat.reduceAdd, Option.map_some, Bool.not_true, Bool.not_false, atI_0, atI_1, atI_2, atI_3, atI_4, ixN_0, ixN_1, ixN_2, ixN_3, ixN_4, w_var, w_int, w_str, w_bl, w_non, w_glob, w_bin, w_neg, w_cmp, w_cmp2, w_bop, w_b1, w_b2, w_not, w_ite, w_tup, w_lst, w_ix, w_sl, w_call, w_bi, w_mt, w_isi, w_lc, w_frz, w_es0, w_es1, w_o0, w_o1, w_tval, w_tcmp, w_tcmp2, w_tnot, w_tall, w_tany, w_all0, w_all1, w_all2, w_any0, w_any1, w_any2, it_t, it_l, w_seq, w_rng1, w_rng2, w_gn, w_gt, w_gi, w_gs0, w_gs1, s_asg, s_asgC, s_par, s_aug, s_expr, s_if, s_for, s_while, s_ret, s_retN, s_brk, s_cont, s_pass, s_nil, frz_l, frz_m, bin_add, bin_adds, bin_sub, bin_mul, bin_fdiv, bin_mod, bin_pow, bin_xor, cmp_lt, cmp_le, cmp_gt, cmp_ge, cmp_eqi, cmp_eqs, cmp_eqb, cmp_nei, cmp_nes, cmp_neb, cmp_is0, cmp_is1, cmp_is2, cmp_is3, cmp_is4, cmp_is5, cmp_is6, cmp_isn0, cmp_isn1, cmp_isn2, cmp_isn3, cmp_isn4, cmp_isn5, cmp_in, cmp_notin, bi_lens, bi_lent, bi_lenl, bi_min, bi_max, bi_abs, bi_listT, bi_listL, bi_tupT, bi_tupL, bi_maxL, bi_minL, bi_sumL, bi_anyL, bi_allL, bi_sorted, seqL_l, items_l, items_t, items_m, w_gl, new_f, new_t, ix_t, ix_l, tru_b, tru_n, tru_i, tru_l, tru_t, isi_b, isi_bi, isi_ii, isi_ib, isi_is, isi_it, isi_il, isi_sb, isi_si, isi_ss, isi_tb, isi_ti, isi_ts, isi_tt, isi_tl, isi_lb, isi_li, isi_ls, isi_lt, isi_ll, isi_nb, isi_ni, isi_ns, isi_nt, isi_nl, ix_m, tru_m, bi_lenm, seqL_m, mt_appm, mt_popm, mtOk_appm, mtOk_popm, it_m, ixSt_m]
    have hin : ∀ y : Int, inD M2 (.int y) (.ref p6) = some (decide (a2 ≤ y ∧ y < a2 + m2)) := by
      intro y
      show (match M2 p6 with
        | some (.lst ds) => (flatD (.int y)).bind fun v => (flatDs ds).map fun vs => inV v vs
        | some (.dK kvs) => (keyOf (.int y)).map fun k => (valD kvs k).isSome
        | _ => none) = _
      rw [r6]
      show some (valD _ (Sum.inl y : Key)).isSome = _
      rw [kept_val (by omega)]
      split <;> rename_i hq <;> simp [hq]
    have hix : ∀ y : Int, a2 ≤ y ∧ y < a2 + m2 → ixD M2 (.ref p6) (.int y) = some (.int (ledZ a2 b2 m2 t2 y)) := by
      intro y hy
      show ixMo (M2 p6) (.int y) = _
      rw [r6]
      show valD _ (Sum.inl y : Key) = _
      rw [kept_val (by omega), if_pos hy]
    refine lcRun_map (aftF a2 b2 m2 t2) _ _ ?_ (by rw [len_ends]; show 0 + _ ≤ 16777216; omega) ?_
    · intro d1 hd1 k1 hk1
      obtain ⟨j, hj, rfl⟩ := List.mem_map.mp hd1
      have w : ∀ (a b c d e f g h i : Option Dt), wipeR [a, b, c, d, e, f, g, h, i, none, none] ([(("_law_one" : Str), 9), ("_law_other", 10)].map (·.2)) = [a, b, c, d, e, f, g, h, i, none, none] := fun _ _ _ _ _ _ _ _ _ => rfl
      rw [w]
      generalize hu : (a1 + (j : Int)) = u
      generalize hv : (if t1 = 1 then b1 + m1 - 1 - (j : Int) else b1 + j) = v2
      have ep : endP a1 b1 m1 t1 j = .tup [.int u, .int v2] := by
        unfold endP
        rw [hu, hv]
      rw [ep] at hk1 ⊢
      have hk1' : k1 (if a2 ≤ v2 ∧ v2 < a2 + m2 then some (.tup [.int u, .int (ledZ a2 b2 m2 t2 v2)]) else none) M2 := hk1
      simp only [Int.reduceNeg, Int.reduceAdd, Int.reduceSub, Int.reduceMul, cpow_10, cpow_2, Int.reduceLE, Int.reduceLT, Int.reduceToNat, Int.reducePow, mset_same, mset_mset, Tgs.len, List.getElem?_cons_zero, List.getElem?_cons_succ, List.set_cons_zero, List.set_cons_succ, List.getElem?_nil, Option.some.injEq, exists_eq_left', exists_eq_left, true_and, and_true, if_true, if_false, Bool.false_eq_true, reduceCtorEq, Dt.int.injEq, Dt.bl.injEq, Dt.str.injEq, Dt.lst.injEq, Dt.tup.injEq, Dt.ref.injEq, decide_eq_true_eq, List.length_cons, List.length_nil, Nat.zero_add, Nat.reduceAdd, Option.map_some, Bool.not_true, Bool.not_false, atI_0, atI_1, atI_2, atI_3, atI_4, ixN_0, ixN_1, ixN_2, ixN_3, ixN_4, w_var, w_int, w_str, w_bl, w_non, w_glob, w_bin, w_neg, w_cmp, w_cmp2, w_bop, w_b1, w_b2, w_not, w_ite, w_tup, w_lst, w_ix, w_sl, w_call, w_bi, w_mt, w_isi, w_lc, w_frz, w_es0, w_es1, w_o0, w_o1, w_tval, w_tcmp, w_tcmp2, w_tnot, w_tall, w_tany, w_all0, w_all1, w_all2, w_any0, w_any1, w_any2, it_t, it_l, w_seq, w_rng1, w_rng2, w_gn, w_gt, w_gi, w_gs0, w_gs1, s_asg, s_asgC, s_par, s_aug, s_expr, s_if, s_for, s_while, s_ret, s_retN, s_brk, s_cont, s_pass, s_nil, frz_l, frz_m, bin_add, bin_adds, bin_sub, bin_mul, bin_fdiv, bin_mod, bin_pow, bin_xor, cmp_lt, cmp_le, cmp_gt, cmp_ge, cmp_eqi, cmp_eqs, cmp_eqb, cmp_nei, cmp_nes, cmp_neb, cmp_is0, cmp_is1, cmp_is2, cmp_is3, cmp_is4, cmp_is5, cmp_is6, cmp_isn0, cmp_isn1, cmp_isn2, cmp_isn3, cmp_isn4, cmp_isn5, cmp_in, cmp_notin, bi_lens, bi_lent, bi_lenl, bi_min, bi_max, bi_abs, bi_listT, bi_listL, bi_tupT, bi_tupL, bi_maxL, bi_minL, bi_sumL, bi_anyL, bi_allL, bi_sorted, seqL_l, items_l, items_t, items_m, w_gl, new_f, new_t, ix_t, ix_l, tru_b, tru_n, tru_i, tru_l, tru_t, isi_b, isi_bi, isi_ii, isi_ib, isi_is, isi_it, isi_il, isi_sb, isi_si, isi_ss, isi_tb, isi_ti, isi_ts, isi_tt, isi_tl, isi_lb, isi_li, isi_ls, isi_lt, isi_ll, isi_nb, isi_ni, isi_ns, isi_nt, isi_nl, ix_m, tru_m, bi_lenm, seqL_m, mt_appm, mt_popm, mtOk_appm, mtOk_popm, it_m, ixSt_m, hin]
      by_cases hS : a2 ≤ v2 ∧ v2 < a2 + m2
      · rw [if_pos hS] at hk1' ⊢
        simp only [Int.reduceNeg, Int.reduceAdd, Int.reduceSub, Int.reduceMul, cpow_10, cpow_2, Int.reduceLE, Int.reduceLT, Int.reduceToNat, Int.reducePow, mset_same, mset_mset, Tgs.len, List.getElem?_cons_zero, List.getElem?_cons_succ, List.set_cons_zero, List.set_cons_succ, List.getElem?_nil, Option.some.injEq, exists_eq_left', exists_eq_left, true_and, and_true, if_true, if_false, Bool.false_eq_true, reduceCtorEq, Dt.int.injEq, Dt.bl.injEq, Dt.str.injEq, Dt.lst.injEq, Dt.tup.injEq, Dt.ref.injEq, decide_eq_true_eq, List.length_cons, List.length_nil, Nat.zero_add, Nat.reduceAdd, Option.map_some, Bool.not_true, Bool.not_false, atI_0, atI_1, atI_2, atI_3, atI_4, ixN_0, ixN_1, ixN_2, ixN_3, ixN_4, w_var, w_int, w_str, w_bl, w_non, w_glob, w_bin, w_neg, w_cmp, w_cmp2, w_bop, w_b1, w_b2, w_not, w_ite, w_tup, w_lst, w_ix, w_sl, w_call, w_bi, w_mt, w_isi, w_lc, w_frz, w_es0, w_es1, w_o0, w_o1, w_tval, w_tcmp, w_tcmp2, w_tnot, w_tall, w_tany, w_all0, w_all1, w_all2, w_any0, w_any1, w_any2, it_t, it_l, w_seq, w_rng1, w_rng2, w_gn, w_gt, w_gi, w_gs0, w_gs1, s_asg, s_asgC, s_par, s_aug, s_expr, s_if, s_for, s_while, s_ret, s_retN, s_brk, s_cont, s_pass, s_nil, frz_l, frz_m, bin_add, bin_adds, bin_sub, bin_mul, bin_fdiv, bin_mod, bin_pow, bin_xor, cmp_lt, cmp_le, cmp_gt, cmp_ge, cmp_eqi, cmp_eqs, cmp_eqb, cmp_nei, cmp_nes, cmp_neb, cmp_is0, cmp_is1, cmp_is2, cmp_is3, cmp_is4, cmp_is5, cmp_is6, cmp_isn0, cmp_isn1, cmp_isn2, cmp_isn3, cmp_isn4, cmp_isn5, cmp_in, cmp_notin, bi_lens, bi_lent, bi_lenl, bi_min, bi_max, bi_abs, bi_listT, bi_listL, bi_tupT, bi_tupL, bi_maxL, bi_minL, bi_sumL, bi_anyL, bi_allL, bi_sorted, seqL_l, items_l, items_t, items_m, w_gl, new_f, new_t, ix_t, ix_l, tru_b, tru_n, tru_i, tru_l, tru_t, isi_b, isi_bi, isi_ii, isi_ib, isi_is, isi_it, isi_il, isi_sb, isi_si, isi_ss, isi_tb, isi_ti, isi_ts, isi_tt, isi_tl, isi_lb, isi_li, isi_ls, isi_lt, isi_ll, isi_nb, isi_ni, isi_ns, isi_nt, isi_nl, ix_m, tru_m, bi_lenm, seqL_m, mt_appm, mt_popm, mtOk_appm, mtOk_popm, it_m, ixSt_m, hix v2 hS]
        exact ⟨sz (by decide), hk1'⟩
      · rw [if_neg hS] at hk1' ⊢
        exact hk1'
    rw [List.nil_append, aft_is (by omega) ht1 ht2]
    unfold b_law_8
    rw [wpSs_cons]
    simp only [Int.reduceNeg, Int.reduceAdd, Int.reduceSub, Int.reduceMul, cpow_10, cpow_2, Int.reduceLE, Int.reduceLT, Int.reduceToNat, Int.reducePow, mset_same, mset_mset, Tgs.len, List.getElem?_cons_zero, List.getElem?_cons_succ, List.set_cons_zero, List.set_cons_succ, List.getElem?_nil, Option.some.injEq, exists_eq_left', exists_eq_left, true_and, and_true, if_true, if_false, Bool.false_eq_true, reduceCtorEq, Dt.int.injEq, Dt.bl.injEq, Dt.str.injEq, Dt.lst.injEq, Dt.tup.injEq, Dt.ref.injEq, decide_eq_true_eq, List.length_cons, List.length_nil, Nat.zero_add, Nat.reduceAdd, Option.map_some, Bool.not_true, Bool.not_false, atI_0, atI_1, atI_2, atI_3, atI_4, ixN_0, ixN_1, ixN_2, ixN_3, ixN_4, w_var, w_int, w_str, w_bl, w_non, w_glob, w_bin, w_neg, w_cmp, w_cmp2, w_bop, w_b1, w_b2, w_not, w_ite, w_tup, w_lst, w_ix, w_sl, w_call, w_bi, w_mt, w_isi, w_lc, w_frz, w_es0, w_es1, w_o0, w_o1, w_tval, w_tcmp, w_tcmp2, w_tnot, w_tall, w_tany, w_all0, w_all1, w_all2, w_any0, w_any1, w_any2, it_t, it_l, w_seq, w_rng1, w_rng2, w_gn, w_gt, w_gi, w_gs0, w_gs1, s_asg, s_asgC, s_par, s_aug, s_expr, s_if, s_for, s_while, s_ret, s_retN, s_brk, s_cont, s_pass, s_nil, frz_l, frz_m, bin_add, bin_adds, bin_sub, bin_mul, bin_fdiv, bin_mod, bin_pow, bin_xor, cmp_lt, cmp_le, cmp_gt, cmp_ge, cmp_eqi, cmp_eqs, cmp_eqb, cmp_nei, cmp_nes, cmp_neb, cmp_is0, cmp_is1, cmp_is2, cmp_is3, cmp_is4, cmp_is5, cmp_is6, cmp_isn0, cmp_isn1, cmp_isn2, cmp_isn3, cmp_isn4, cmp_isn5, cmp_in, cmp_notin, bi_lens, bi_lent, bi_lenl, bi_min, bi_max, bi_abs, bi_listT, bi_listL, bi_tupT, bi_tupL, bi_maxL, bi_minL, bi_sumL, bi_anyL, bi_allL, bi_sorted, seqL_l, items_l, items_t, items_m, w_gl, new_f, new_t, ix_t, ix_l, tru_b, tru_n, tru_i, tru_l, tru_t, isi_b, isi_bi, isi_ii, isi_ib, isi_is, isi_it, isi_il, isi_sb, isi_si, isi_ss, isi_tb, isi_ti, isi_ts, isi_tt, isi_tl, isi_lb, isi_li, isi_ls, isi_lt, isi_ll, isi_nb, isi_ni, isi_ns, isi_nt, isi_nl, ix_m, tru_m, bi_lenm, seqL_m, mt_appm, mt_popm, mtOk_appm, mtOk_popm, it_m, ixSt_m]
    refine haf a1 b1 m1 t1 a2 b2 m2 t2 _ _ _ ht1 ht2 ?_
    unfold b_law_9
    rw [wpSs_cons]
    have pl : ∀ d, d ∈ aftL a1 b1 m1 t1 a2 b2 m2 t2 → Plain 60 d := by
      intro d hd
      unfold aftL at hd
      split at hd
      · cases hd
      · exact plain_ends d hd
    simp only [Int.reduceNeg, Int.reduceAdd, Int.reduceSub, Int.reduceMul, cpow_10, cpow_2, Int.reduceLE, Int.reduceLT, Int.reduceToNat, Int.reducePow, mset_same, mset_mset, Tgs.len, List.getElem?_cons_zero, List.getElem?_cons_succ, List.set_cons_zero, List.set_cons_succ, List.getElem?_nil, Option.some.injEq, exists_eq_left', exists_eq_left, true_and, and_true, if_true, if_false, Bool.false_eq_true, reduceCtorEq, Dt.int.injEq, Dt.bl.injEq, Dt.str.injEq, Dt.lst.injEq, Dt.tup.injEq, Dt.ref.injEq, decide_eq_true_eq, List.length_cons, List.length_nil, Nat.zero_add, Nat.reduceAdd, Option.map_some, Bool.not_true, Bool.not_false, atI_0, atI_1, atI_2, atI_3, atI_4, ixN_0, ixN_1, ixN_2, ixN_3, ixN_4, w_var, w_int, w_str, w_bl, w_non, w_glob, w_bin, w_neg, w_cmp, w_cmp2, w_bop, w_b1, w_b2, w_not, w_ite, w_tup, w_lst, w_ix, w_sl, w_call, w_bi, w_mt, w_isi, w_lc, w_frz, w_es0, w_es1, w_o0, w_o1, w_tval, w_tcmp, w_tcmp2, w_tnot, w_tall, w_tany, w_all0, w_all1, w_all2, w_any0, w_any1, w_any2, it_t, it_l, w_seq, w_rng1, w_rng2, w_gn, w_gt, w_gi, w_gs0, w_gs1, s_asg, s_asgC, s_par, s_aug, s_expr, s_if, s_for, s_while, s_ret, s_retN, s_brk, s_cont, s_pass, s_nil, frz_l, frz_m, bin_add, bin_adds, bin_sub, bin_mul, bin_fdiv, bin_mod, bin_pow, bin_xor, cmp_lt, cmp_le, cmp_gt, cmp_ge, cmp_eqi, cmp_eqs, cmp_eqb, cmp_nei, cmp_nes, cmp_neb, cmp_is0, cmp_is1, cmp_is2, cmp_is3, cmp_is4, cmp_is5, cmp_is6, cmp_isn0, cmp_isn1, cmp_isn2, cmp_isn3, cmp_isn4, cmp_isn5, cmp_in, cmp_notin, bi_lens, bi_lent, bi_lenl, bi_min, bi_max, bi_abs, bi_listT, bi_listL, bi_tupT, bi_tupL, bi_maxL, bi_minL, bi_sumL, bi_anyL, bi_allL, bi_sorted, seqL_l, items_l, items_t, items_m, w_gl, new_f, new_t, ix_t, ix_l, tru_b, tru_n, tru_i, tru_l, tru_t, isi_b, isi_bi, isi_ii, isi_ib, isi_is, isi_it, isi_il, isi_sb, isi_si, isi_ss, isi_tb, isi_ti, isi_ts, isi_tt, isi_tl, isi_lb, isi_li, isi_ls, isi_lt, isi_ll, isi_nb, isi_ni, isi_ns, isi_nt, isi_nl, ix_m, tru_m, bi_lenm, seqL_m, mt_appm, mt_popm, mtOk_appm, mtOk_popm, it_m, ixSt_m, cmp_eq_nil pl]
    refine ⟨sz (by decide), ?_⟩
    have done : ∀ (u w2 : Dt), n [some (.lst (ns.map .int)), some (.ref p), some v, some (.int L), some (mtg a1 b1 m1 t1), some (mtg a2 b2 m2 t2), some (.ref p6), some u, some w2, none, none] M2 := fun u w2 => hn _ _ ⟨d, _, _, _, _, _, _, _, hd, rfl, r1'⟩
    by_cases hc : aftHi b1 m1 a2 m2 ≤ aftLo b1 a2
    · have e1 : aftL a1 b1 m1 t1 a2 b2 m2 t2 = [] := by unfold aftL; rw [if_pos hc]
      have e2 : afterD a1 b1 m1 t1 a2 b2 m2 t2 = .non := by unfold afterD; rw [if_pos hc]
      rw [e1, e2]
      simp only [List.isEmpty_nil, Int.reduceNeg, Int.reduceAdd, Int.reduceSub, Int.reduceMul, cpow_10, cpow_2, Int.reduceLE, Int.reduceLT, Int.reduceToNat, Int.reducePow, mset_same, mset_mset, Tgs.len, List.getElem?_cons_zero, List.getElem?_cons_succ, List.set_cons_zero, List.set_cons_succ, List.getElem?_nil, Option.some.injEq, exists_eq_left', exists_eq_left, true_and, and_true, if_true, if_false, Bool.false_eq_true, reduceCtorEq, Dt.int.injEq, Dt.bl.injEq, Dt.str.injEq, Dt.lst.injEq, Dt.tup.injEq, Dt.ref.injEq, decide_eq_true_eq, List.length_cons, List.length_nil, Nat.zero_add, Nat.reduceAdd, Option.map_some, Bool.not_true, Bool.not_false, atI_0, atI_1, atI_2, atI_3, atI_4, ixN_0, ixN_1, ixN_2, ixN_3, ixN_4, w_var, w_int, w_str, w_bl, w_non, w_glob, w_bin, w_neg, w_cmp, w_cmp2, w_bop, w_b1, w_b2, w_not, w_ite, w_tup, w_lst, w_ix, w_sl, w_call, w_bi, w_mt, w_isi, w_lc, w_frz, w_es0, w_es1, w_o0, w_o1, w_tval, w_tcmp, w_tcmp2, w_tnot, w_tall, w_tany, w_all0, w_all1, w_all2, w_any0, w_any1, w_any2, it_t, it_l, w_seq, w_rng1, w_rng2, w_gn, w_gt, w_gi, w_gs0, w_gs1, s_asg, s_asgC, s_par, s_aug, s_expr, s_if, s_for, s_while, s_ret, s_retN, s_brk, s_cont, s_pass, s_nil, frz_l, frz_m, bin_add, bin_adds, bin_sub, bin_mul, bin_fdiv, bin_mod, bin_pow, bin_xor, cmp_lt, cmp_le, cmp_gt, cmp_ge, cmp_eqi, cmp_eqs, cmp_eqb, cmp_nei, cmp_nes, cmp_neb, cmp_is0, cmp_is1, cmp_is2, cmp_is3, cmp_is4, cmp_is5, cmp_is6, cmp_isn0, cmp_isn1, cmp_isn2, cmp_isn3, cmp_isn4, cmp_isn5, cmp_in, cmp_notin, bi_lens, bi_lent, bi_lenl, bi_min, bi_max, bi_abs, bi_listT, bi_listL, bi_tupT, bi_tupL, bi_maxL, bi_minL, bi_sumL, bi_anyL, bi_allL, bi_sorted, seqL_l, items_l, items_t, items_m, w_gl, new_f, new_t, ix_t, ix_l, tru_b, tru_n, tru_i, tru_l, tru_t, isi_b, isi_bi, isi_ii, isi_ib, isi_is, isi_it, isi_il, isi_sb, isi_si, isi_ss, isi_tb, isi_ti, isi_ts, isi_tt, isi_tl, isi_lb, isi_li, isi_ls, isi_lt, isi_ll, isi_nb, isi_ni, isi_ns, isi_nt, isi_nl, ix_m, tru_m, bi_lenm, seqL_m, mt_appm, mt_popm, mtOk_appm, mtOk_popm, it_m, ixSt_m]
      unfold b_law_10
      rw [wpSs_cons]
      simp only [Int.reduceNeg, Int.reduceAdd, Int.reduceSub, Int.reduceMul, cpow_10, cpow_2, Int.reduceLE, Int.reduceLT, Int.reduceToNat, Int.reducePow, mset_same, mset_mset, Tgs.len, List.getElem?_cons_zero, List.getElem?_cons_succ, List.set_cons_zero, List.set_cons_succ, List.getElem?_nil, Option.some.injEq, exists_eq_left', exists_eq_left, true_and, and_true, if_true, if_false, Bool.false_eq_true, reduceCtorEq, Dt.int.injEq, Dt.bl.injEq, Dt.str.injEq, Dt.lst.injEq, Dt.tup.injEq, Dt.ref.injEq, decide_eq_true_eq, List.length_cons, List.length_nil, Nat.zero_add, Nat.reduceAdd, Option.map_some, Bool.not_true, Bool.not_false, atI_0, atI_1, atI_2, atI_3, atI_4, ixN_0, ixN_1, ixN_2, ixN_3, ixN_4, w_var, w_int, w_str, w_bl, w_non, w_glob, w_bin, w_neg, w_cmp, w_cmp2, w_bop, w_b1, w_b2, w_not, w_ite, w_tup, w_lst, w_ix, w_sl, w_call, w_bi, w_mt, w_isi, w_lc, w_frz, w_es0, w_es1, w_o0, w_o1, w_tval, w_tcmp, w_tcmp2, w_tnot, w_tall, w_tany, w_all0, w_all1, w_all2, w_any0, w_any1, w_any2, it_t, it_l, w_seq, w_rng1, w_rng2, w_gn, w_gt, w_gi, w_gs0, w_gs1, s_asg, s_asgC, s_par, s_aug, s_expr, s_if, s_for, s_while, s_ret, s_retN, s_brk, s_cont, s_pass, s_nil, frz_l, frz_m, bin_add, bin_adds, bin_sub, bin_mul, bin_fdiv, bin_mod, bin_pow, bin_xor, cmp_lt, cmp_le, cmp_gt, cmp_ge, cmp_eqi, cmp_eqs, cmp_eqb, cmp_nei, cmp_nes, cmp_neb, cmp_is0, cmp_is1, cmp_is2, cmp_is3, cmp_is4, cmp_is5, cmp_is6, cmp_isn0, cmp_isn1, cmp_isn2, cmp_isn3, cmp_isn4, cmp_isn5, cmp_in, cmp_notin, bi_lens, bi_lent, bi_lenl, bi_min, bi_max, bi_abs, bi_listT, bi_listL, bi_tupT, bi_tupL, bi_maxL, bi_minL, bi_sumL, bi_anyL, bi_allL, bi_sorted, seqL_l, items_l, items_t, items_m, w_gl, new_f, new_t, ix_t, ix_l, tru_b, tru_n, tru_i, tru_l, tru_t, isi_b, isi_bi, isi_ii, isi_ib, isi_is, isi_it, isi_il, isi_sb, isi_si, isi_ss, isi_tb, isi_ti, isi_ts, isi_tt, isi_tl, isi_lb, isi_li, isi_ls, isi_lt, isi_ll, isi_nb, isi_ni, isi_ns, isi_nt, isi_nl, ix_m, tru_m, bi_lenm, seqL_m, mt_appm, mt_popm, mtOk_appm, mtOk_popm, it_m, ixSt_m]
      exact done _ _
    · have hn1 : aftHi b1 m1 a2 m2 - aftLo b1 a2 ≤ 20 := by unfold aftHi aftLo; omega
      have e1 : aftL a1 b1 m1 t1 a2 b2 m2 t2 = endsL (partB b1 a1 m1 t1 (aftLo b1 a2) (aftHi b1 m1 a2 m2 - aftLo b1 a2)) (partB a2 b2 m2 t2 (aftLo b1 a2) (aftHi b1 m1 a2 m2 - aftLo b1 a2)) (aftHi b1 m1 a2 m2 - aftLo b1 a2) ((t1 + t2) % 2) := by unfold aftL; rw [if_neg hc]
      have e2 : afterD a1 b1 m1 t1 a2 b2 m2 t2 = mtg (partB b1 a1 m1 t1 (aftLo b1 a2) (aftHi b1 m1 a2 m2 - aftLo b1 a2)) (partB a2 b2 m2 t2 (aftLo b1 a2) (aftHi b1 m1 a2 m2 - aftLo b1 a2)) (aftHi b1 m1 a2 m2 - aftLo b1 a2) ((t1 + t2) % 2) := by unfold afterD; rw [if_neg hc]
      have e3 : (aftL a1 b1 m1 t1 a2 b2 m2 t2).isEmpty = false := by
        have : (aftL a1 b1 m1 t1 a2 b2 m2 t2).length ≠ 0 := by rw [e1, len_ends]; omega
        cases hq : aftL a1 b1 m1 t1 a2 b2 m2 t2 with
        | nil => rw [hq] at this; exact absurd rfl this
        | cons _ _ => rfl
      rw [e3, e1, e2]
      generalize partB b1 a1 m1 t1 (aftLo b1 a2) (aftHi b1 m1 a2 m2 - aftLo b1 a2) = X1
      generalize partB a2 b2 m2 t2 (aftLo b1 a2) (aftHi b1 m1 a2 m2 - aftLo b1 a2) = X2
      have hN0 : 0 < aftHi b1 m1 a2 m2 - aftLo b1 a2 := by omega
      generalize aftHi b1 m1 a2 m2 - aftLo b1 a2 = N1 at hn1 hN0 ⊢
      have hN : 0 < N1 := hN0
      simp only [Int.reduceNeg, Int.reduceAdd, Int.reduceSub, Int.reduceMul, cpow_10, cpow_2, Int.reduceLE, Int.reduceLT, Int.reduceToNat, Int.reducePow, mset_same, mset_mset, Tgs.len, List.getElem?_cons_zero, List.getElem?_cons_succ, List.set_cons_zero, List.set_cons_succ, List.getElem?_nil, Option.some.injEq, exists_eq_left', exists_eq_left, true_and, and_true, if_true, if_false, Bool.false_eq_true, reduceCtorEq, Dt.int.injEq, Dt.bl.injEq, Dt.str.injEq, Dt.lst.injEq, Dt.tup.injEq, Dt.ref.injEq, decide_eq_true_eq, List.length_cons, List.length_nil, Nat.zero_add, Nat.reduceAdd, Option.map_some, Bool.not_true, Bool.not_false, atI_0, atI_1, atI_2, atI_3, atI_4, ixN_0, ixN_1, ixN_2, ixN_3, ixN_4, w_var, w_int, w_str, w_bl, w_non, w_glob, w_bin, w_neg, w_cmp, w_cmp2, w_bop, w_b1, w_b2, w_not, w_ite, w_tup, w_lst, w_ix, w_sl, w_call, w_bi, w_mt, w_isi, w_lc, w_frz, w_es0, w_es1, w_o0, w_o1, w_tval, w_tcmp, w_tcmp2, w_tnot, w_tall, w_tany, w_all0, w_all1, w_all2, w_any0, w_any1, w_any2, it_t, it_l, w_seq, w_rng1, w_rng2, w_gn, w_gt, w_gi, w_gs0, w_gs1, s_asg, s_asgC, s_par, s_aug, s_expr, s_if, s_for, s_while, s_ret, s_retN, s_brk, s_cont, s_pass, s_nil, frz_l, frz_m, bin_add, bin_adds, bin_sub, bin_mul, bin_fdiv, bin_mod, bin_pow, bin_xor, cmp_lt, cmp_le, cmp_gt, cmp_ge, cmp_eqi, cmp_eqs, cmp_eqb, cmp_nei, cmp_nes, cmp_neb, cmp_is0, cmp_is1, cmp_is2, cmp_is3, cmp_is4, cmp_is5, cmp_is6, cmp_isn0, cmp_isn1, cmp_isn2, cmp_isn3, cmp_isn4, cmp_isn5, cmp_in, cmp_notin, bi_lens, bi_lent, bi_lenl, bi_min, bi_max, bi_abs, bi_listT, bi_listL, bi_tupT, bi_tupL, bi_maxL, bi_minL, bi_sumL, bi_anyL, bi_allL, bi_sorted, seqL_l, items_l, items_t, items_m, w_gl, new_f, new_t, ix_t, ix_l, tru_b, tru_n, tru_i, tru_l, tru_t, isi_b, isi_bi, isi_ii, isi_ib, isi_is, isi_it, isi_il, isi_sb, isi_si, isi_ss, isi_tb, isi_ti, isi_ts, isi_tt, isi_tl, isi_lb, isi_li, isi_ls, isi_lt, isi_ll, isi_nb, isi_ni, isi_ns, isi_nt, isi_nl, ix_m, tru_m, bi_lenm, seqL_m, mt_appm, mt_popm, mtOk_appm, mtOk_popm, it_m, ixSt_m]
      unfold b_law_12
      rw [wpSs_cons]
      simp only [Int.reduceNeg, Int.reduceAdd, Int.reduceSub, Int.reduceMul, cpow_10, cpow_2, Int.reduceLE, Int.reduceLT, Int.reduceToNat, Int.reducePow, mset_same, mset_mset, Tgs.len, List.getElem?_cons_zero, List.getElem?_cons_succ, List.set_cons_zero, List.set_cons_succ, List.getElem?_nil, Option.some.injEq, exists_eq_left', exists_eq_left, true_and, and_true, if_true, if_false, Bool.false_eq_true, reduceCtorEq, Dt.int.injEq, Dt.bl.injEq, Dt.str.injEq, Dt.lst.injEq, Dt.tup.injEq, Dt.ref.injEq, decide_eq_true_eq, List.length_cons, List.length_nil, Nat.zero_add, Nat.reduceAdd, Option.map_some, Bool.not_true, Bool.not_false, atI_0, atI_1, atI_2, atI_3, atI_4, ixN_0, ixN_1, ixN_2, ixN_3, ixN_4, w_var, w_int, w_str, w_bl, w_non, w_glob, w_bin, w_neg, w_cmp, w_cmp2, w_bop, w_b1, w_b2, w_not, w_ite, w_tup, w_lst, w_ix, w_sl, w_call, w_bi, w_mt, w_isi, w_lc, w_frz, w_es0, w_es1, w_o0, w_o1, w_tval, w_tcmp, w_tcmp2, w_tnot, w_tall, w_tany, w_all0, w_all1, w_all2, w_any0, w_any1, w_any2, it_t, it_l, w_seq, w_rng1, w_rng2, w_gn, w_gt, w_gi, w_gs0, w_gs1, s_asg, s_asgC, s_par, s_aug, s_expr, s_if, s_for, s_while, s_ret, s_retN, s_brk, s_cont, s_pass, s_nil, frz_l, frz_m, bin_add, bin_adds, bin_sub, bin_mul, bin_fdiv, bin_mod, bin_pow, bin_xor, cmp_lt, cmp_le, cmp_gt, cmp_ge, cmp_eqi, cmp_eqs, cmp_eqb, cmp_nei, cmp_nes, cmp_neb, cmp_is0, cmp_is1, cmp_is2, cmp_is3, cmp_is4, cmp_is5, cmp_is6, cmp_isn0, cmp_isn1, cmp_isn2, cmp_isn3, cmp_isn4, cmp_isn5, cmp_in, cmp_notin, bi_lens, bi_lent, bi_lenl, bi_min, bi_max, bi_abs, bi_listT, bi_listL, bi_tupT, bi_tupL, bi_maxL, bi_minL, bi_sumL, bi_anyL, bi_allL, bi_sorted, seqL_l, items_l, items_t, items_m, w_gl, new_f, new_t, ix_t, ix_l, tru_b, tru_n, tru_i, tru_l, tru_t, isi_b, isi_bi, isi_ii, isi_ib, isi_is, isi_it, isi_il, isi_sb, isi_si, isi_ss, isi_tb, isi_ti, isi_ts, isi_tt, isi_tl, isi_lb, isi_li, isi_ls, isi_lt, isi_ll, isi_nb, isi_ni, isi_ns, isi_nt, isi_nl, ix_m, tru_m, bi_lenm, seqL_m, mt_appm, mt_popm, mtOk_appm, mtOk_popm, it_m, ixSt_m]
      refine hen _ _ _ _ _ _ _ (by omega) (by omega) ?_
      refine ⟨_, rfl, sortable_ends.1, sortable_ends.2.1, sortable_ends.2.2, ?_⟩
      rw [sort_ends]
      refine hli 3 (by decide) _ _ _ _ _ (like_l (by rw [len_ends]; omega) like_ends) ?_
      simp only [Int.reduceNeg, Int.reduceAdd, Int.reduceSub, Int.reduceMul, cpow_10, cpow_2, Int.reduceLE, Int.reduceLT, Int.reduceToNat, Int.reducePow, mset_same, mset_mset, Tgs.len, List.getElem?_cons_zero, List.getElem?_cons_succ, List.set_cons_zero, List.set_cons_succ, List.getElem?_nil, Option.some.injEq, exists_eq_left', exists_eq_left, true_and, and_true, if_true, if_false, Bool.false_eq_true, reduceCtorEq, Dt.int.injEq, Dt.bl.injEq, Dt.str.injEq, Dt.lst.injEq, Dt.tup.injEq, Dt.ref.injEq, decide_eq_true_eq, List.length_cons, List.length_nil, Nat.zero_add, Nat.reduceAdd, Option.map_some, Bool.not_true, Bool.not_false, atI_0, atI_1, atI_2, atI_3, atI_4, ixN_0, ixN_1, ixN_2, ixN_3, ixN_4, w_var, w_int, w_str, w_bl, w_non, w_glob, w_bin, w_neg, w_cmp, w_cmp2, w_bop, w_b1, w_b2, w_not, w_ite, w_tup, w_lst, w_ix, w_sl, w_call, w_bi, w_mt, w_isi, w_lc, w_frz, w_es0, w_es1, w_o0, w_o1, w_tval, w_tcmp, w_tcmp2, w_tnot, w_tall, w_tany, w_all0, w_all1, w_all2, w_any0, w_any1, w_any2, it_t, it_l, w_seq, w_rng1, w_rng2, w_gn, w_gt, w_gi, w_gs0, w_gs1, s_asg, s_asgC, s_par, s_aug, s_expr, s_if, s_for, s_while, s_ret, s_retN, s_brk, s_cont, s_pass, s_nil, frz_l, frz_m, bin_add, bin_adds, bin_sub, bin_mul, bin_fdiv, bin_mod, bin_pow, bin_xor, cmp_lt, cmp_le, cmp_gt, cmp_ge, cmp_eqi, cmp_eqs, cmp_eqb, cmp_nei, cmp_nes, cmp_neb, cmp_is0, cmp_is1, cmp_is2, cmp_is3, cmp_is4, cmp_is5, cmp_is6, cmp_isn0, cmp_isn1, cmp_isn2, cmp_isn3, cmp_isn4, cmp_isn5, cmp_in, cmp_notin, bi_lens, bi_lent, bi_lenl, bi_min, bi_max, bi_abs, bi_listT, bi_listL, bi_tupT, bi_tupL, bi_maxL, bi_minL, bi_sumL, bi_anyL, bi_allL, bi_sorted, seqL_l, items_l, items_t, items_m, w_gl, new_f, new_t, ix_t, ix_l, tru_b, tru_n, tru_i, tru_l, tru_t, isi_b, isi_bi, isi_ii, isi_ib, isi_is, isi_it, isi_il, isi_sb, isi_si, isi_ss, isi_tb, isi_ti, isi_ts, isi_tt, isi_tl, isi_lb, isi_li, isi_ls, isi_lt, isi_ll, isi_nb, isi_ni, isi_ns, isi_nt, isi_nl, ix_m, tru_m, bi_lenm, seqL_m, mt_appm, mt_popm, mtOk_appm, mtOk_popm, it_m, ixSt_m]
      unfold b_law_14
      rw [wpSs_cons]
      simp only [Int.reduceNeg, Int.reduceAdd, Int.reduceSub, Int.reduceMul, cpow_10, cpow_2, Int.reduceLE, Int.reduceLT, Int.reduceToNat, Int.reducePow, mset_same, mset_mset, Tgs.len, List.getElem?_cons_zero, List.getElem?_cons_succ, List.set_cons_zero, List.set_cons_succ, List.getElem?_nil, Option.some.injEq, exists_eq_left', exists_eq_left, true_and, and_true, if_true, if_false, Bool.false_eq_true, reduceCtorEq, Dt.int.injEq, Dt.bl.injEq, Dt.str.injEq, Dt.lst.injEq, Dt.tup.injEq, Dt.ref.injEq, decide_eq_true_eq, List.length_cons, List.length_nil, Nat.zero_add, Nat.reduceAdd, Option.map_some, Bool.not_true, Bool.not_false, atI_0, atI_1, atI_2, atI_3, atI_4, ixN_0, ixN_1, ixN_2, ixN_3, ixN_4, w_var, w_int, w_str, w_bl, w_non, w_glob, w_bin, w_neg, w_cmp, w_cmp2, w_bop, w_b1, w_b2, w_not, w_ite, w_tup, w_lst, w_ix, w_sl, w_call, w_bi, w_mt, w_isi, w_lc, w_frz, w_es0, w_es1, w_o0, w_o1, w_tval, w_tcmp, w_tcmp2, w_tnot, w_tall, w_tany, w_all0, w_all1, w_all2, w_any0, w_any1, w_any2, it_t, it_l, w_seq, w_rng1, w_rng2, w_gn, w_gt, w_gi, w_gs0, w_gs1, s_asg, s_asgC, s_par, s_aug, s_expr, s_if, s_for, s_while, s_ret, s_retN, s_brk, s_cont, s_pass, s_nil, frz_l, frz_m, bin_add, bin_adds, bin_sub, bin_mul, bin_fdiv, bin_mod, bin_pow, bin_xor, cmp_lt, cmp_le, cmp_gt, cmp_ge, cmp_eqi, cmp_eqs, cmp_eqb, cmp_nei, cmp_nes, cmp_neb, cmp_is0, cmp_is1, cmp_is2, cmp_is3, cmp_is4, cmp_is5, cmp_is6, cmp_isn0, cmp_isn1, cmp_isn2, cmp_isn3, cmp_isn4, cmp_isn5, cmp_in, cmp_notin, bi_lens, bi_lent, bi_lenl, bi_min, bi_max, bi_abs, bi_listT, bi_listL, bi_tupT, bi_tupL, bi_maxL, bi_minL, bi_sumL, bi_anyL, bi_allL, bi_sorted, seqL_l, items_l, items_t, items_m, w_gl, new_f, new_t, ix_t, ix_l, tru_b, tru_n, tru_i, tru_l, tru_t, isi_b, isi_bi, isi_ii, isi_ib, isi_is, isi_it, isi_il, isi_sb, isi_si, isi_ss, isi_tb, isi_ti, isi_ts, isi_tt, isi_tl, isi_lb, isi_li, isi_ls, isi_lt, isi_ll, isi_nb, isi_ni, isi_ns, isi_nt, isi_nl, ix_m, tru_m, bi_lenm, seqL_m, mt_appm, mt_popm, mtOk_appm, mtOk_popm, it_m, ixSt_m]
      refine hli 1 (by decide) _ _ _ _ _ like_i ?_
      simp only [Int.reduceNeg, Int.reduceAdd, Int.reduceSub, Int.reduceMul, cpow_10, cpow_2, Int.reduceLE, Int.reduceLT, Int.reduceToNat, Int.reducePow, mset_same, mset_mset, Tgs.len, List.getElem?_cons_zero, List.getElem?_cons_succ, List.set_cons_zero, List.set_cons_succ, List.getElem?_nil, Option.some.injEq, exists_eq_left', exists_eq_left, true_and, and_true, if_true, if_false, Bool.false_eq_true, reduceCtorEq, Dt.int.injEq, Dt.bl.injEq, Dt.str.injEq, Dt.lst.injEq, Dt.tup.injEq, Dt.ref.injEq, decide_eq_true_eq, List.length_cons, List.length_nil, Nat.zero_add, Nat.reduceAdd, Option.map_some, Bool.not_true, Bool.not_false, atI_0, atI_1, atI_2, atI_3, atI_4, ixN_0, ixN_1, ixN_2, ixN_3, ixN_4, w_var, w_int, w_str, w_bl, w_non, w_glob, w_bin, w_neg, w_cmp, w_cmp2, w_bop, w_b1, w_b2, w_not, w_ite, w_tup, w_lst, w_ix, w_sl, w_call, w_bi, w_mt, w_isi, w_lc, w_frz, w_es0, w_es1, w_o0, w_o1, w_tval, w_tcmp, w_tcmp2, w_tnot, w_tall, w_tany, w_all0, w_all1, w_all2, w_any0, w_any1, w_any2, it_t, it_l, w_seq, w_rng1, w_rng2, w_gn, w_gt, w_gi, w_gs0, w_gs1, s_asg, s_asgC, s_par, s_aug, s_expr, s_if, s_for, s_while, s_ret, s_retN, s_brk, s_cont, s_pass, s_nil, frz_l, frz_m, bin_add, bin_adds, bin_sub, bin_mul, bin_fdiv, bin_mod, bin_pow, bin_xor, cmp_lt, cmp_le, cmp_gt, cmp_ge, cmp_eqi, cmp_eqs, cmp_eqb, cmp_nei, cmp_nes, cmp_neb, cmp_is0, cmp_is1, cmp_is2, cmp_is3, cmp_is4, cmp_is5, cmp_is6, cmp_isn0, cmp_isn1, cmp_isn2, cmp_isn3, cmp_isn4, cmp_isn5, cmp_in, cmp_notin, bi_lens, bi_lent, bi_lenl, bi_min, bi_max, bi_abs, bi_listT, bi_listL, bi_tupT, bi_tupL, bi_maxL, bi_minL, bi_sumL, bi_anyL, bi_allL, bi_sorted, seqL_l, items_l, items_t, items_m, w_gl, new_f, new_t, ix_t, ix_l, tru_b, tru_n, tru_i, tru_l, tru_t, isi_b, isi_bi, isi_ii, isi_ib, isi_is, isi_it, isi_il, isi_sb, isi_si, isi_ss, isi_tb, isi_ti, isi_ts, isi_tt, isi_tl, isi_lb, isi_li, isi_ls, isi_lt, isi_ll, isi_nb, isi_ni, isi_ns, isi_nt, isi_nl, ix_m, tru_m, bi_lenm, seqL_m, mt_appm, mt_popm, mtOk_appm, mtOk_popm, it_m, ixSt_m]
      exact done _ _
  · rintro ρ' M' ⟨d, o2, o3, o4, o5, o6, o7, o8, hd, rfl, hM⟩
    unfold b_law_16
    rw [wpSs_cons]
    simp only [Int.reduceNeg, Int.reduceAdd, Int.reduceSub, Int.reduceMul, cpow_10, cpow_2, Int.reduceLE, Int.reduceLT, Int.reduceToNat, Int.reducePow, mset_same, mset_mset, Tgs.len, List.getElem?_cons_zero, List.getElem?_cons_succ, List.set_cons_zero, List.set_cons_succ, List.getElem?_nil, Option.some.injEq, exists_eq_left', exists_eq_left, true_and, and_true, if_true, if_false, Bool.false_eq_true, reduceCtorEq, Dt.int.injEq, Dt.bl.injEq, Dt.str.injEq, Dt.lst.injEq, Dt.tup.injEq, Dt.ref.injEq, decide_eq_true_eq, List.length_cons, List.length_nil, Nat.zero_add, Nat.reduceAdd, Option.map_some, Bool.not_true, Bool.not_false, atI_0, atI_1, atI_2, atI_3, atI_4, ixN_0, ixN_1, ixN_2, ixN_3, ixN_4, w_var, w_int, w_str, w_bl, w_non, w_glob, w_bin, w_neg, w_cmp, w_cmp2, w_bop, w_b1, w_b2, w_not, w_ite, w_tup, w_lst, w_ix, w_sl, w_call, w_bi, w_mt, w_isi, w_lc, w_frz, w_es0, w_es1, w_o0, w_o1, w_tval, w_tcmp, w_tcmp2, w_tnot, w_tall, w_tany, w_all0, w_all1, w_all2, w_any0, w_any1, w_any2, it_t, it_l, w_seq, w_rng1, w_rng2, w_gn, w_gt, w_gi, w_gs0, w_gs1, s_asg, s_asgC, s_par, s_aug, s_expr, s_if, s_for, s_while, s_ret, s_retN, s_brk, s_cont, s_pass, s_nil, frz_l, frz_m, bin_add, bin_adds, bin_sub, bin_mul, bin_fdiv, bin_mod, bin_pow, bin_xor, cmp_lt, cmp_le, cmp_gt, cmp_ge, cmp_eqi, cmp_eqs, cmp_eqb, cmp_nei, cmp_nes, cmp_neb, cmp_is0, cmp_is1, cmp_is2, cmp_is3, cmp_is4, cmp_is5, cmp_is6, cmp_isn0, cmp_isn1, cmp_isn2, cmp_isn3, cmp_isn4, cmp_isn5, cmp_in, cmp_notin, bi_lens, bi_lent, bi_lenl, bi_min, bi_max, bi_abs, bi_listT, bi_listL, bi_tupT, bi_tupL, bi_maxL, bi_minL, bi_sumL, bi_anyL, bi_allL, bi_sorted, seqL_l, items_l, items_t, items_m, w_gl, new_f, new_t, ix_t, ix_l, tru_b, tru_n, tru_i, tru_l, tru_t, isi_b, isi_bi, isi_ii, isi_ib, isi_is, isi_it, isi_il, isi_sb, isi_si, isi_ss, isi_tb, isi_ti, isi_ts, isi_tt, isi_tl, isi_lb, isi_li, isi_ls, isi_lt, isi_ll, isi_nb, isi_ni, isi_ns, isi_nt, isi_nl, ix_m, tru_m, bi_lenm, seqL_m, mt_appm, mt_popm, mtOk_appm, mtOk_popm, it_m, ixSt_m]
    exact hrt _

end K06

namespace K06
open Fm PySem L2 PySem.Spec PyProof.Rows
abbrev R : PySem.W.OpenRow := PySem.W.OpenLaw.row PySem.Challenge.rw_farmates_k06_one_mating_after_another
abbrev hk : PySem.W.Hook := He.hookD 4 txt.fa txt.fn
def ob (s : PySem.W.SharedT) : He.AlD := He.obsDG 4 txt.fa txt.fn (HandSHeadRun.getT s)
theorem ob_eq (s : PySem.W.SharedT) : ob s = hk.obs s.abs := He.obsDG_eq (HandSHeadRun.getT_eq s)
def loose : List PySem.Str := ["FarError", "BadStretch", "back", "led", "part", "after", "_law_open", "_law_pull", "_law_like", "_law_mating", "_law_ends", "_law_scaled", "_law_after_far"]
theorem run (w : World) : HandSHeadRun.RunEq R (PySem.W.view R.prog [16]) hk ob 20000 loose w := by
  intro os
  kernel_rfl
end K06
open PySem PySem.W PySem.Calls PyProof.Rows
theorem PySem.Challenge.cw_farmates_k06_one_mating_after_another_holds : PySem.Challenge.rw_farmates_k06_one_mating_after_another.Holds := by
  w_on; o_law
  refine HandSHeadRun.head_any (r := OpenLaw.row PySem.Challenge.rw_farmates_k06_one_mating_after_another) (q := view (OpenLaw.row PySem.Challenge.rw_farmates_k06_one_mating_after_another).prog [16]) (H := K06.hk) (ob := K06.ob) (M := 20000) (loose := K06.loose) (d := HandSHeadRun.topDef (OpenLaw.row PySem.Challenge.rw_farmates_k06_one_mating_after_another).prog 16) (kwd := []) K06.ob_eq
    (by kernel_rfl) (fun s => by kernel_rfl) K06.run (by kernel_rfl) (by kernel_rfl) (by kernel_rfl) (by rfl) (by first | assumption | decide +kernel) (by decide +kernel) ⟨rfl, rfl, rfl, rfl, rfl, by decide +kernel⟩ ?hw ?hc
  case hw => w_witness2
  case hc =>
    exact Fm.law_end (l := PySem.Challenge.rw_farmates_k06_one_mating_after_another) (T := K06.txt) (n := 40) (g := 74) (lw := K06.d_law) (x := "_law_script") K06.txt_ok K06.txt_bind rfl rfl rfl (by kernel_rfl) (by kernel_rfl) ⟨rfl, by decide, by decide⟩ K06.law_is (fun w h Y => Y)
#print axioms PySem.Challenge.cw_farmates_k06_one_mating_after_another_holds
