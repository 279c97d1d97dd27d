import PyProof.Rows.All
import HandS.Small
import Wide.All
import OpenK.AllK
import Wide.FinOn
import HandS.ForMost
import HandS.ForExc
import HandS.IsInst
import HandS.Zip
import HandS.WideBits
import HandS.Wide
import HandS.Flow
import HandS.CallSlots
import HandS.Style
import HandS.TupAny
import HandS.Strs
import HandS.Conv
import HandS.More
import HandS.Deep
import HandS.Rev
import KE.GoesEnum
import HandS.SetFor
import HandS.SortInts
import KE.DatumOrd
import HandS.SortKw
import HandS.Ends
import PySem.Challenge.RW_leasttables_k33_few_again
set_option Elab.async false
set_option linter.all false
set_option maxRecDepth 100000
namespace Lt
open PySem PySem.Spec PyProof.Rows L2
/-! ### plain values, plain heaps -/
inductive PV where
  | non | bl (b : Bool) | int (i : Int) | str (x : Str) | ty (n : String)
  | tup (xs : List PV) | ref (n : Nat)
inductive HB where
  | lst (xs : List PV)
  | dic (kvs : List (Key × PV))
  | ins (C : Str) (fs : List (Str × PV))
abbrev HS := List HB
structure PX where
  cls : Str
  fs : Option (List (Str × PV))
inductive R (α : Type) where
  | ok (a : α) (h : HS) | ex (e : PX) (h : HS) | no
def R.bind {α β : Type} (r : R α) (f : α → HS → R β) : R β := match r with
  | .ok a h => f a h
  | .ex e h => .ex e h
  | .no => .no
section
variable {α β : Type}
@[simp] theorem R.bind_ok (a : α) (h : HS) (f : α → HS → R β) : (R.ok a h).bind f = f a h := rfl
@[simp] theorem R.bind_ex (a : PX) (h : HS) (f : α → HS → R β) : (R.ex a h).bind f = .ex a h := rfl
@[simp] theorem R.bind_no (f : α → HS → R β) : (R.no).bind f = .no := rfl
@[simp] theorem R.bind_ite {c : Prop} [Decidable c] (a b : R α) (f : α → HS → R β) : (if c then a else b).bind f = if c then a.bind f else b.bind f := by split <;> rfl
/-- only what comes through -/
def R.thenO (r : R α) (f : α → HS → Option β) : Option β := match r with
  | .ok a h => f a h
  | _ => none
@[simp] theorem R.thenO_ok (a : α) (h : HS) (f : α → HS → Option β) : (R.ok a h).thenO f = f a h := rfl
@[simp] theorem R.thenO_ex (a : PX) (h : HS) (f : α → HS → Option β) : (R.ex a h).thenO f = none := rfl
@[simp] theorem R.thenO_no (f : α → HS → Option β) : (R.no).thenO f = none := rfl
@[simp] theorem R.thenO_ite {c : Prop} [Decidable c] (a b : R α) (f : α → HS → Option β) : (if c then a else b).thenO f = if c then a.thenO f else b.thenO f := by split <;> rfl
theorem R.thenO_some {r : R α} {f : α → HS → Option β} {z : β} (e : r.thenO f = some z) : ∃ a h, r = .ok a h ∧ f a h = some z := by
  cases r with
  | ok a h => exact ⟨a, h, rfl, e⟩
  | ex a h => cases e
  | no => cases e
end
abbrev Pn := List (Option PV)
/-! ### how they lie in the layer's heaps -/
mutual
inductive RV (m : List Addr) (H : Hp) : PV → V → Prop
  | non : RV m H .non .non
  | bl (b : Bool) : RV m H (.bl b) (.bl b)
  | int (i : Int) : RV m H (.int i) (.int i)
  | str (x : Str) : RV m H (.str x) (.str x)
  | ty (n : String) : RV m H (.ty n) (.ty n)
  | ref {n : Nat} {a : Addr} (h : m[n]? = some a) : RV m H (.ref n) (.ref a)
  | tup {xs : List PV} {ys : List V} {a : Addr} (h : H a = some (.tup ys)) (r : RVs m H xs ys) : RV m H (.tup xs) (.ref a)
inductive RVs (m : List Addr) (H : Hp) : List PV → List V → Prop
  | nil : RVs m H [] []
  | cons {x : PV} {v : V} {xs : List PV} {vs : List V} (r : RV m H x v) (t : RVs m H xs vs) : RVs m H (x :: xs) (v :: vs)
end
structure Le (m : List Addr) (H : Hp) (m' : List Addr) (H' : Hp) : Prop where
  pre : m <+: m'
  tup : ∀ a xs, H a = some (.tup xs) → H' a = some (.tup xs)
  junk : ∀ a u, a ∉ m → H a = some u → H' a = some u
  new : ∀ a, a ∈ m' → a ∈ m ∨ H a = none
theorem Le.refl {m : List Addr} {H : Hp} : Le m H m H := ⟨List.prefix_refl m, fun _ _ h => h, fun _ _ _ h => h, fun _ h => .inl h⟩
theorem Le.trans {m m1 m2 : List Addr} {H H1 H2 : Hp} (a : Le m H m1 H1) (b : Le m1 H1 m2 H2) : Le m H m2 H2 :=
  ⟨a.pre.trans b.pre, fun c xs h => b.tup c xs (a.tup c xs h), fun c u n h => b.junk c u (fun z => (a.new c z).elim n fun z => by rw [h] at z; cases z) (a.junk c u n h), fun c h => (b.new c h).elim (a.new c) fun z => by
    by_cases hc : c ∈ m
    · exact .inl hc
    · refine .inr ?_
      cases q : H c with
      | none => rfl
      | some u => rw [a.junk c u hc q] at z; cases z⟩
theorem Le.get {m m' : List Addr} {H H' : Hp} (l : Le m H m' H') {n : Nat} {a : Addr} (h : m[n]? = some a) : m'[n]? = some a := by
  obtain ⟨t, e⟩ := l.pre
  subst e
  rw [List.getElem?_append_left (List.getElem?_eq_some_iff.mp h).1]
  exact h
structure Lo (m : List Addr) (H : Hp) (m' : List Addr) (H' : Hp) : Prop where
  get : ∀ {n : Nat} {a : Addr}, m[n]? = some a → m'[n]? = some a
  tup : ∀ a xs, H a = some (.tup xs) → H' a = some (.tup xs)
theorem Le.lo {m m' : List Addr} {H H' : Hp} (l : Le m H m' H') : Lo m H m' H' := ⟨fun e => l.get e, l.tup⟩
mutual
theorem RV.lo {m m' : List Addr} {H H' : Hp} (l : Lo m H m' H') : ∀ {x : PV} {v : V}, RV m H x v → RV m' H' x v
  | _, _, .non => .non
  | _, _, .bl b => .bl b
  | _, _, .int b => .int b
  | _, _, .str b => .str b
  | _, _, .ty b => .ty b
  | _, _, .ref h => .ref (l.get h)
  | _, _, .tup h r => .tup (l.tup _ _ h) (RVs.lo l r)
theorem RVs.lo {m m' : List Addr} {H H' : Hp} (l : Lo m H m' H') : ∀ {xs : List PV} {vs : List V}, RVs m H xs vs → RVs m' H' xs vs
  | _, _, .nil => .nil
  | _, _, .cons r t => .cons (RV.lo l r) (RVs.lo l t)
end
theorem RV.le {m m' : List Addr} {H H' : Hp} (l : Le m H m' H') {x : PV} {v : V} (r : RV m H x v) : RV m' H' x v := r.lo l.lo
theorem RVs.le {m m' : List Addr} {H H' : Hp} (l : Le m H m' H') {x : List PV} {v : List V} (r : RVs m H x v) : RVs m' H' x v := r.lo l.lo
theorem RVs.length {m : List Addr} {H : Hp} : ∀ {xs : List PV} {vs : List V}, RVs m H xs vs → xs.length = vs.length
  | _, _, .nil => rfl
  | _, _, .cons r t => by rw [List.length_cons, List.length_cons, RVs.length t]
theorem RVs.get {m : List Addr} {H : Hp} : ∀ {xs : List PV} {vs : List V} {i : Nat} {x : PV}, RVs m H xs vs → xs[i]? = some x → ∃ v, vs[i]? = some v ∧ RV m H x v
  | _, _, _, _, .nil, e => by simp at e
  | _, _, 0, _, .cons r t, e => by simp at e; subst e; exact ⟨_, rfl, r⟩
  | _, _, i + 1, x, .cons r t, e => by
    obtain ⟨v, h1, h2⟩ := RVs.get (i := i) (x := x) t (by simpa using e)
    exact ⟨v, by simpa using h1, h2⟩
theorem RVs.app {m : List Addr} {H : Hp} : ∀ {xs ys : List PV} {vs ws : List V}, RVs m H xs vs → RVs m H ys ws → RVs m H (xs ++ ys) (vs ++ ws)
  | _, _, _, _, .nil, s => s
  | _, _, _, _, .cons r t, s => .cons r (RVs.app t s)
theorem RVs.set {m : List Addr} {H : Hp} {x : PV} {v : V} (q : RV m H x v) : ∀ {xs : List PV} {vs : List V} (i : Nat), RVs m H xs vs → RVs m H (xs.set i x) (vs.set i v)
  | _, _, _, .nil => .nil
  | _, _, 0, .cons r t => .cons q t
  | _, _, i + 1, .cons r t => .cons r (RVs.set q i t)
theorem RVs.take {m : List Addr} {H : Hp} : ∀ {xs : List PV} {vs : List V} (n : Nat), RVs m H xs vs → RVs m H (xs.take n) (vs.take n)
  | _, _, 0, _ => .nil
  | _, _, _ + 1, .nil => .nil
  | _, _, n + 1, .cons r t => .cons r (RVs.take n t)
theorem RVs.drop {m : List Addr} {H : Hp} : ∀ {xs : List PV} {vs : List V} (n : Nat), RVs m H xs vs → RVs m H (xs.drop n) (vs.drop n)
  | _, _, 0, r => r
  | _, _, n + 1, .nil => .nil
  | _, _, n + 1, .cons r t => RVs.drop n t
theorem RVs.rev {m : List Addr} {H : Hp} : ∀ {xs : List PV} {vs : List V}, RVs m H xs vs → RVs m H xs.reverse vs.reverse
  | _, _, .nil => .nil
  | _, _, .cons r t => by
    rw [List.reverse_cons, List.reverse_cons]
    exact RVs.app (RVs.rev t) (.cons r .nil)
theorem RVs.ints {m : List Addr} {H : Hp} : ∀ ns : List Int, RVs m H (ns.map PV.int) (ns.map V.int)
  | [] => .nil
  | n :: r => .cons (.int n) (RVs.ints r)
/-- the pairs of a dict, the fields of an instance -/
inductive RKs {κ : Type} (m : List Addr) (H : Hp) : List (κ × PV) → List (κ × V) → Prop
  | nil : RKs m H [] []
  | cons {k : κ} {x : PV} {v : V} {xs : List (κ × PV)} {vs : List (κ × V)} (r : RV m H x v) (t : RKs m H xs vs) : RKs m H ((k, x) :: xs) ((k, v) :: vs)
theorem RKs.lo {κ : Type} {m m' : List Addr} {H H' : Hp} (l : Lo m H m' H') {xs : List (κ × PV)} {vs : List (κ × V)} (h : RKs m H xs vs) : RKs m' H' xs vs := by
  induction h with
  | nil => exact .nil
  | cons r t ih => exact .cons (r.lo l) ih
theorem RKs.le {κ : Type} {m m' : List Addr} {H H' : Hp} (l : Le m H m' H') {xs : List (κ × PV)} {vs : List (κ × V)} (h : RKs m H xs vs) : RKs m' H' xs vs := h.lo l.lo
theorem RKs.length {κ : Type} {m : List Addr} {H : Hp} {xs : List (κ × PV)} {vs : List (κ × V)} (h : RKs m H xs vs) : xs.length = vs.length := by
  induction h with
  | nil => rfl
  | cons r t ih => rw [List.length_cons, List.length_cons, ih]
def RO (K : PySem.W.Frag) (mg : Str → Option Value) (m : List Addr) (H : Hp) (a : Addr) : HB → Prop
  | .lst xs => ∃ ys, H a = some (.lst ys) ∧ RVs m H xs ys
  | .dic kvs => ∃ vs, H a = some (.dK vs) ∧ RKs m H kvs vs
  | .ins C fs => ∃ Ca dx vs, mg C = some (.ref Ca) ∧ H a = some (.ins Ca dx vs) ∧ RKs m H fs vs
structure Sim (K : PySem.W.Frag) (mg : Str → Option Value) (m : List Addr) (h : HS) (H : Hp) : Prop where
  len : m.length = h.length
  obj : ∀ (n : Nat) (o : HB) (a : Addr), h[n]? = some o → m[n]? = some a → RO K mg m H a o
  inj : ∀ (i j : Nat) (a : Addr) (oi oj : HB), h[i]? = some oi → h[j]? = some oj → m[i]? = some a → m[j]? = some a → i = j
section
variable {K : PySem.W.Frag} {mg : Str → Option Value} {m m' : List Addr} {h : HS} {H H' : Hp} {a p : Addr} {o : HB}
theorem RO.lo (r : RO K mg m H a o) (l : Lo m H m' H') (k : ∀ u, H a = some u → H' a = some u) : RO K mg m' H' a o := by
  cases o with
  | lst xs => obtain ⟨ys, e, r⟩ := r; exact ⟨ys, k _ e, r.lo l⟩
  | dic kvs => obtain ⟨ys, e, r⟩ := r; exact ⟨ys, k _ e, r.lo l⟩
  | ins C fs => obtain ⟨Ca, dx, vs, g, e, r⟩ := r; exact ⟨Ca, dx, vs, g, k _ e, r.lo l⟩
theorem RO.le (r : RO K mg m H a o) (l : Le m H m' H') (k : ∀ u, H a = some u → H' a = some u) : RO K mg m' H' a o := r.lo l.lo k
theorem RO.some (r : RO K mg m H a o) : ∃ u, H a = Option.some u ∧ Mut (Option.some u) := by
  cases o with
  | lst xs => obtain ⟨ys, e, r⟩ := r; exact ⟨_, e, trivial⟩
  | dic kvs => obtain ⟨ys, e, r⟩ := r; exact ⟨_, e, trivial⟩
  | ins C fs => obtain ⟨Ca, dx, vs, g, e, r⟩ := r; exact ⟨_, e, trivial⟩
theorem Sim.get (s : Sim K mg m h H) {n : Nat} (e : h[n]? = Option.some o) : ∃ a, m[n]? = Option.some a ∧ RO K mg m H a o := by
  have hl : n < m.length := by rw [s.len]; exact (List.getElem?_eq_some_iff.mp e).1
  exact ⟨m[n], List.getElem?_eq_getElem hl, s.obj n o _ e (List.getElem?_eq_getElem hl)⟩
theorem le_new (hp : H p = none) (x : HO) : Le m H m (upd H p x) := ⟨List.prefix_refl m, fun c xs e => by rw [upd_ne (ne_of_none e hp)]; exact e, fun c xs _ e => by rw [upd_ne (ne_of_none e hp)]; exact e, fun _ h => .inl h⟩
theorem le_add (hp : H p = none) (x : HO) : Le m H (m ++ [p]) (upd H p x) := ⟨List.prefix_append m [p], fun c xs e => by rw [upd_ne (ne_of_none e hp)]; exact e, fun c xs _ e => by rw [upd_ne (ne_of_none e hp)]; exact e, fun c h => (List.mem_append.mp h).elim .inl fun z => .inr (by rw [List.mem_singleton.mp z]; exact hp)⟩
theorem RO.new (r : RO K mg m H a o) (hp : H p = none) (x : HO) (l : Le m H m' (upd H p x)) : RO K mg m' (upd H p x) a o :=
  r.le l fun u e => by rw [upd_ne (ne_of_none e hp)]; exact e
/-- what is laid and forgotten -/
theorem Sim.junk (s : Sim K mg m h H) (hp : H p = none) (x : HO) : Sim K mg m h (upd H p x) :=
  ⟨s.len, fun n o a e1 e2 => (s.obj n o a e1 e2).new hp x (le_new hp x), s.inj⟩
/-- a new object -/
theorem Sim.add (s : Sim K mg m h H) (hp : H p = none) (x : HO) (r : RO K mg (m ++ [p]) (upd H p x) p o) : Sim K mg (m ++ [p]) (h ++ [o]) (upd H p x) := by
  have hl := s.len
  have old : ∀ {i : Nat} {q : HB} {c : Addr}, (h ++ [o])[i]? = Option.some q → (m ++ [p])[i]? = Option.some c → (h[i]? = Option.some q ∧ m[i]? = Option.some c) ∨ (i = h.length ∧ q = o ∧ c = p) := fun {i q c} e1 e2 => by
    by_cases hi : i < h.length
    · rw [List.getElem?_append_left hi] at e1
      rw [List.getElem?_append_left (by omega)] at e2
      exact .inl ⟨e1, e2⟩
    · have h1 : i = h.length := by
        have := (List.getElem?_eq_some_iff.mp e1).1
        simp only [List.length_append, List.length_cons, List.length_nil] at this
        omega
      subst h1
      rw [List.getElem?_append_right (Nat.le_refl _), Nat.sub_self] at e1
      rw [List.getElem?_append_right (by omega), hl, Nat.sub_self] at e2
      exact .inr ⟨rfl, (Option.some.inj e1).symm, (Option.some.inj e2).symm⟩
  refine ⟨by simp [hl], fun i q c e1 e2 => ?_, fun i j c oi oj e1 e2 e3 e4 => ?_⟩
  · rcases old e1 e2 with ⟨h1, h2⟩ | ⟨rfl, rfl, rfl⟩
    · exact (s.obj i q c h1 h2).new hp x (le_add hp x)
    · exact r
  · rcases old e1 e3 with ⟨h1, h2⟩ | ⟨z1, _, z2⟩
    · rcases old e2 e4 with ⟨h3, h4⟩ | ⟨_, _, z4⟩
      · exact s.inj i j c oi oj h1 h3 h2 h4
      · obtain ⟨u, e, _⟩ := (s.obj i oi _ h1 h2).some
        rw [z4, hp] at e; cases e
    · rcases old e2 e4 with ⟨h3, h4⟩ | ⟨z3, _, z4⟩
      · obtain ⟨u, e, _⟩ := (s.obj j oj _ h3 h4).some
        rw [z2, hp] at e; cases e
      · rw [z1, z3]
theorem le_put {u x : HO} {n : Nat} (ea : m[n]? = Option.some a) (e : H a = Option.some u) (mu : Mut (Option.some u)) : Le m H m (upd H a x) := ⟨List.prefix_refl m, fun c xs e' => by
  rw [upd_ne fun z => ?_]
  · exact e'
  · subst z; rw [e] at e'; cases e'; exact mu, fun c v nc e' => by
  rw [upd_ne fun z => ?_]
  · exact e'
  · subst z; exact nc (List.mem_of_getElem? ea), fun _ h => .inl h⟩
/-- an object written -/
theorem Sim.put {q : HB} {n : Nat} {x : HO} (s : Sim K mg m h H) (e : h[n]? = Option.some o) (ea : m[n]? = Option.some a) (r : RO K mg m (upd H a x) a q) : Sim K mg m (h.set n q) (upd H a x) := by
  obtain ⟨u, eu, mu⟩ := (s.obj n o a e ea).some
  have hn : n < h.length := (List.getElem?_eq_some_iff.mp e).1
  have old : ∀ {i : Nat} {w : HB}, (h.set n q)[i]? = Option.some w → (i = n ∧ w = q) ∨ (i ≠ n ∧ h[i]? = Option.some w) := fun {i w} e1 => by
    by_cases hi : n = i
    · subst hi
      rw [List.getElem?_set_self hn] at e1
      exact .inl ⟨rfl, (Option.some.inj e1).symm⟩
    · rw [List.getElem?_set_ne hi] at e1
      exact .inr ⟨fun z => hi z.symm, e1⟩
  refine ⟨by simp [s.len], fun i w c e1 e2 => ?_, fun i j c oi oj e1 e2 e3 e4 => ?_⟩
  · rcases old e1 with ⟨rfl, rfl⟩ | ⟨ne, e1⟩
    · rw [ea] at e2; cases e2; exact r
    · refine (s.obj i w c e1 e2).le (le_put ea eu mu) fun v ev => ?_
      rw [upd_ne fun z => ?_]
      · exact ev
      · subst z
        exact ne (s.inj i n _ w o e1 e e2 ea)
  · rcases old e1 with ⟨z1, _⟩ | ⟨_, f1⟩
    · rcases old e2 with ⟨z2, _⟩ | ⟨_, f2⟩
      · rw [z1, z2]
      · rw [z1] at e3 ⊢
        exact s.inj n j c o oj e f2 e3 e4
    · rcases old e2 with ⟨z2, _⟩ | ⟨_, f2⟩
      · rw [z2] at e4 ⊢
        exact s.inj i n c oi o f1 e e3 e4
      · exact s.inj i j c oi oj f1 f2 e3 e4
end
end Lt
namespace Lt
open PySem PySem.Spec PyProof.Rows L2
abbrev St := L2.St
/-! ### slots -/
inductive RSl (m : List Addr) (H : Hp) : Option PV → Option V → Prop
  | any (v : Option V) : RSl m H none v
  | val {x : PV} {v : V} (r : RV m H x v) : RSl m H (some x) (some v)
inductive RS (m : List Addr) (H : Hp) : Pn → St → Prop
  | nil : RS m H [] []
  | cons {x : Option PV} {v : Option V} {xs : Pn} {vs : St} (r : RSl m H x v) (t : RS m H xs vs) : RS m H (x :: xs) (v :: vs)
theorem RSl.le {m m' : List Addr} {H H' : Hp} (l : Le m H m' H') {x : Option PV} {v : Option V} (r : RSl m H x v) : RSl m' H' x v := by
  cases r with
  | any v => exact .any v
  | val r => exact .val (r.le l)
theorem RS.le {m m' : List Addr} {H H' : Hp} (l : Le m H m' H') {xs : Pn} {vs : St} (h : RS m H xs vs) : RS m' H' xs vs := by
  induction h with
  | nil => exact .nil
  | cons r t ih => exact .cons (r.le l) ih
theorem RS.length {m : List Addr} {H : Hp} {xs : Pn} {vs : St} (h : RS m H xs vs) : xs.length = vs.length := by
  induction h with
  | nil => rfl
  | cons r t ih => rw [List.length_cons, List.length_cons, ih]
theorem RS.get {m : List Addr} {H : Hp} {xs : Pn} {vs : St} (h : RS m H xs vs) : ∀ {i : Nat} {x : PV}, xs[i]? = some (some x) → ∃ v, vs[i]? = some (some v) ∧ RV m H x v := by
  induction h with
  | nil => intro i x e; simp at e
  | cons r t ih =>
    intro i x e
    cases i with
    | zero =>
      simp at e
      subst e
      cases r with
      | val r => exact ⟨_, rfl, r⟩
    | succ i => exact ih (by simpa using e)
theorem RS.set {m : List Addr} {H : Hp} {xs : Pn} {vs : St} (h : RS m H xs vs) {x : Option PV} {v : Option V} (q : RSl m H x v) : ∀ (i : Nat), RS m H (xs.set i x) (vs.set i v) := by
  induction h with
  | nil => intro i; exact .nil
  | cons r t ih =>
    intro i
    cases i with
    | zero => exact .cons q t
    | succ i => exact .cons r (ih i)
@[simp] def wipeP (ρ : Pn) : List Nat → Pn
  | [] => ρ
  | v :: vs => (wipeP ρ vs).set v none
theorem RS.wipe {m : List Addr} {H : Hp} {xs : Pn} {vs : St} (h : RS m H xs vs) : ∀ is : List Nat, RS m H (wipeP xs is) (L2.wipe vs is)
  | [] => h
  | i :: is => (RS.wipe h is).set (.any none) i
theorem RS.start {m : List Addr} {H : Hp} (n : Nat) : ∀ {xs : List PV} {vs : List V}, RVs m H xs vs → RS m H (xs.map some ++ List.replicate n none) (vs.map some ++ List.replicate n none)
  | _, _, .nil => by
    show RS m H (List.replicate n none) (List.replicate n none)
    induction n with
    | zero => exact .nil
    | succ n ih => exact .cons (.any none) ih
  | _, _, .cons r t => .cons (.val r) (RS.start n t)
/-! ### outcomes -/
def RX (mg : Str → Option Value) (m : List Addr) (H : Hp) (e : PX) (cls : Value) (d : Option Addr) : Prop :=
  ∃ C, mg e.cls = some (.ref C) ∧ cls = .ref C ∧ match e.fs with
    | none => d = none
    | some fs => ∃ dd vs, d = some dd ∧ H dd = some (.xd vs) ∧ RKs m H fs vs
abbrev Rl (α β : Type) := List Addr → Hp → α → β → Prop
def Out (K : PySem.W.Frag) (mg : Str → Option Value) (W : WX) {α β : Type} (rel : Rl α β) (m : List Addr) (H : Hp) (σ : St) (Q : β → Hp → Prop) : R α → Prop
  | .ok a h' => ∀ m' H' b, Le m H m' H' → Sim K mg m' h' H' → rel m' H' a b → Q b H'
  | .ex e h' => ∀ m' H' cls d, Le m H m' H' → Sim K mg m' h' H' → RX mg m' H' e cls d → W cls d σ H'
  | .no => False
section
variable {K : PySem.W.Frag} {mg : Str → Option Value} {W : WX} {α β γ δ : Type} {rel : Rl α β} {rel2 : Rl γ δ} {m m1 : List Addr} {H H1 : Hp} {σ : St} {Q : β → Hp → Prop} {Q2 : δ → Hp → Prop} {r : R α}
theorem Out.mono {Q' : β → Hp → Prop} (o : Out K mg W rel m H σ Q r) (k : ∀ b H', Q b H' → Q' b H') : Out K mg W rel m H σ Q' r := by
  cases r with
  | ok a h' => exact fun m' H' b l s q => k b H' (o m' H' b l s q)
  | ex e h' => exact o
  | no => exact o
theorem Out.later (o : Out K mg W rel m H σ Q r) (l : Le m H m1 H1) : Out K mg W rel m1 H1 σ Q r := by
  cases r with
  | ok a h' => exact fun m' H' b l' s q => o m' H' b (l.trans l') s q
  | ex e h' => exact fun m' H' c d l' s q => o m' H' c d (l.trans l') s q
  | no => exact o
theorem Out.bind {f : α → HS → R γ} (o : Out K mg W rel2 m H σ Q2 (r.bind f)) :
    Out K mg W rel m H σ (fun b H1 => ∃ m1 h1 a, Le m H m1 H1 ∧ Sim K mg m1 h1 H1 ∧ rel m1 H1 a b ∧ Out K mg W rel2 m1 H1 σ Q2 (f a h1)) r := by
  cases r with
  | ok a h' =>
    have o' : Out K mg W rel2 m H σ Q2 (f a h') := o
    exact fun m' H' b l s q => ⟨m', h', a, l, s, q, o'.later l⟩
  | ex e h' => exact o
  | no => exact o
end
abbrev Mi (α : Type) := Pn → HS → R α
def tG (K : PySem.W.Frag) (mg : Str → Option Value) (W : WX) {α β : Type} (rel : Rl α β) (f : Mi α) : St → Hp → (β → Hp → Prop) → Prop :=
  fun σ H Q => ∃ m ρ h, Sim K mg m h H ∧ RS m H ρ σ ∧ Out K mg W rel m H σ Q (f ρ h)
def RB : Rl Bool Bool := fun _ _ a b => a = b
def RO1 : Rl (Option Int) (Option Int) := fun _ _ a b => a = b
abbrev PEm (X : Cx) (W : WX) (e : Expr) (f : Mi PV) : Prop := PE X e (tG X.K X.mg W RV f)
abbrev PTm (X : Cx) (W : WX) (e : Expr) (f : Mi Bool) : Prop := PT X e (tG X.K X.mg W RB f)
abbrev PWm (X : Cx) (W : WX) (e : Expr) (f : Mi Bool) : Prop := PW X e (tG X.K X.mg W RB f)
abbrev PAm (X : Cx) (W : WX) (es : List Expr) (f : Mi (List PV)) : Prop := PA X es (tG X.K X.mg W RVs f)
abbrev POm (X : Cx) (W : WX) (e : Option Expr) (f : Mi (Option Int)) : Prop := PO X e (tG X.K X.mg W RO1 f)
section
variable {X : Cx}
theorem wkE {e : Expr} {t t' : TE} (h : PE X e t) (k : ∀ σ H Q, t' σ H Q → t σ H Q) : PE X e t' := ⟨fun pins s σ H Q I q => h.run pins s σ H Q I (k σ H Q q)⟩
theorem wkT {e : Expr} {t t' : TT} (h : PT X e t) (k : ∀ σ H Q, t' σ H Q → t σ H Q) : PT X e t' := ⟨fun pins s σ H Q I q => h.run pins s σ H Q I (k σ H Q q)⟩
theorem wkW {e : Expr} {t t' : TT} (h : PW X e t) (k : ∀ σ H Q, t' σ H Q → t σ H Q) : PW X e t' := ⟨fun wh pins s σ H Q I q => h.run wh pins s σ H Q I (k σ H Q q)⟩
theorem wkA {e : List Expr} {t t' : TA} (h : PA X e t) (k : ∀ σ H Q, t' σ H Q → t σ H Q) : PA X e t' := ⟨fun pos pins s σ H Q I q => h.run pos pins s σ H Q I (k σ H Q q)⟩
theorem wkO {e : Option Expr} {t t' : TO} (h : PO X e t) (k : ∀ σ H Q, t' σ H Q → t σ H Q) : PO X e t' := ⟨fun pins s σ H Q I q => h.run pins s σ H Q I (k σ H Q q)⟩
theorem wkS {e : Stmt} {t t' : TS} (h : PS X e t) (k : ∀ D σ H, t' D σ H → t D σ H) : PS X e t' := ⟨fun pins s σ H D I q => h.run pins s σ H D I (k D σ H q)⟩
theorem wkSs {e : List Stmt} {t t' : TS} (h : PSs X e t) (k : ∀ D σ H, t' D σ H → t D σ H) : PSs X e t' := ⟨fun pins s σ H D I q => h.run pins s σ H D I (k D σ H q)⟩
theorem wkI {tg e : Expr} {t t' : TI} (h : PI X tg e t) (k : ∀ σ H Q, t' σ H Q → t σ H Q) : PI X tg e t' := ⟨fun pins s σ H Q I q => h.run pins s σ H Q I (k σ H Q q)⟩
theorem PE.or {e : Expr} {t t' : TE} (h : PE X e t) (h' : PE X e t') : PE X e (fun σ H Q => t σ H Q ∨ t' σ H Q) := ⟨fun pins s σ H Q I q => q.elim (h.run pins s σ H Q I) (h'.run pins s σ H Q I)⟩
theorem PI.or {tg e : Expr} {t t' : TI} (h : PI X tg e t) (h' : PI X tg e t') : PI X tg e (fun σ H Q => t σ H Q ∨ t' σ H Q) := ⟨fun pins s σ H Q I q => q.elim (h.run pins s σ H Q I) (h'.run pins s σ H Q I)⟩
theorem PS.or {e : Stmt} {t t' : TS} (h : PS X e t) (h' : PS X e t') : PS X e (fun D σ H => t D σ H ∨ t' D σ H) := ⟨fun pins s σ H Q I q => q.elim (h.run pins s σ H Q I) (h'.run pins s σ H Q I)⟩
end
/-! ### mirrors of expressions -/
@[simp] def mC (v : PV) (ρ : Pn) (h : HS) : R PV := .ok v h
@[simp] def mVar (i : Nat) (ρ : Pn) (h : HS) : R PV := match ρ[i]? with
  | some (some v) => .ok v h
  | _ => .no
def m1 {α β : Type} (f : α → HS → R β) (a : Mi α) (ρ : Pn) (h : HS) : R β := (a ρ h).bind f
def m2 {α β γ : Type} (f : α → β → HS → R γ) (a : Mi α) (b : Mi β) (ρ : Pn) (h : HS) : R γ := (a ρ h).bind fun x h1 => (b ρ h1).bind fun y h2 => f x y h2
def m3 {α β γ δ : Type} (f : α → β → γ → HS → R δ) (a : Mi α) (b : Mi β) (c : Mi γ) (ρ : Pn) (h : HS) : R δ := (a ρ h).bind fun x h1 => (b ρ h1).bind fun y h2 => (c ρ h2).bind fun z h3 => f x y z h3
def mIf {α : Type} (t : Mi Bool) (a b : Mi α) (ρ : Pn) (h : HS) : R α := (t ρ h).bind fun c h1 => if c = true then a ρ h1 else b ρ h1
@[simp] def truth (x : PV) (h : HS) : R Bool := match x with
  | .non => .ok false h
  | .bl b => .ok b h
  | .int i => .ok (i != 0) h
  | .str y => if y.length ≤ 16777216 then .ok ((y.length : Int) != 0) h else .no
  | .tup xs => .ok (!xs.isEmpty) h
  | .ref n => match h[n]? with
    | some (.lst xs) => .ok (!xs.isEmpty) h
    | some (.dic xs) => .ok (!xs.isEmpty) h
    | _ => .no
  | .ty _ => .no
def mAnd (a b : Mi Bool) (ρ : Pn) (h : HS) : R Bool := (a ρ h).bind fun c h1 => if c = true then b ρ h1 else .ok false h1
def mOr (a b : Mi Bool) (ρ : Pn) (h : HS) : R Bool := (a ρ h).bind fun c h1 => if c = true then .ok true h1 else b ρ h1
def mNot (a : Mi Bool) (ρ : Pn) (h : HS) : R Bool := (a ρ h).bind fun c h1 => .ok (!c) h1
def mAndV (a b : Mi PV) (ρ : Pn) (h : HS) : R PV := (a ρ h).bind fun x h1 => (truth x h1).bind fun c h2 => if c = true then b ρ h2 else .ok x h2
def mOrV (a b : Mi PV) (ρ : Pn) (h : HS) : R PV := (a ρ h).bind fun x h1 => (truth x h1).bind fun c h2 => if c = true then .ok x h2 else b ρ h2
def mNotV (a : Mi PV) (ρ : Pn) (h : HS) : R PV := (a ρ h).bind fun x h1 => (truth x h1).bind fun c h2 => .ok (.bl (!c)) h2
def mTru (a : Mi PV) (ρ : Pn) (h : HS) : R Bool := m1 truth a ρ h
def mVB (a : Mi Bool) (ρ : Pn) (h : HS) : R PV := m1 (fun b h => .ok (.bl b) h) a ρ h
@[simp] def mNil (_ρ : Pn) (h : HS) : R (List PV) := .ok [] h
def mCons (a : Mi PV) (b : Mi (List PV)) (ρ : Pn) (h : HS) : R (List PV) := m2 (fun x xs h => .ok (x :: xs) h) a b ρ h
section
variable {X : Cx} {W : WX}
theorem em_var {i : Nat} {x : Str} {pos : Pos} (hN : X.N[i]? = some x := by rfl) (hv : Vis X.env.scope x := by first | exact Or.inl rfl | exact Or.inr (Or.inl rfl) | exact Or.inr (Or.inr rfl)) (hd : (x == ("__debug__" : Str)) = false := by decide) (hcd : (x == ("__classdict__" : Str)) = false := by decide) : PEm X W (.Name x pos) (mVar i) :=
  wkE (pe_var hN hv hd hcd) fun σ H Q ⟨m, ρ, h, s, rs, o⟩ => by
    unfold mVar at o
    split at o
    · rename_i v e
      obtain ⟨w, e1, r1⟩ := rs.get e
      exact ⟨w, e1, o m H w .refl s r1⟩
    · exact o.elim
theorem em_c {e : Expr} {v : PV} {w : V} (he : PE X e (tC w)) (r : ∀ m H, RV m H v w) : PEm X W e (mC v) :=
  wkE he fun σ H Q ⟨m, ρ, h, s, rs, o⟩ => o m H w .refl s (r m H)
theorem em_int {i j pos} : PEm X W (.Constant (.int i) j pos) (mC (.int i)) := em_c pe_int fun _ _ => .int i
theorem em_bl {i j pos} : PEm X W (.Constant (.bool i) j pos) (mC (.bl i)) := em_c pe_bl fun _ _ => .bl i
theorem em_non {j pos} : PEm X W (.Constant .none j pos) (mC .non) := em_c pe_non fun _ _ => .non
theorem em_str {i j pos} : PEm X W (.Constant (.str i) j pos) (mC (.str i)) := em_c pe_str fun _ _ => .str i
theorem em_ty {n : String} {x : Str} {pos : Pos} (hm : X.mg x = none) (hv : bootBuiltins x = some (.type n)) (hg : Gl X x := by rfl) (hn : x ≠ "__name__" := by decide) (hd : (x == ("__debug__" : Str)) = false := by decide) : PEm X W (.Name x pos) (mC (.ty n)) :=
  em_c (w := .ty n) (pe_bltn hg hm hv rfl hn hd) fun _ _ => .ty n
def OpM (X : Cx) (W : WX) (g : Value → Value → Sem Value) (f : PV → PV → HS → R PV) : Prop :=
  ∃ r : R2, OpR X g r ∧ ∀ m h H σ Q x y v w, Sim X.K X.mg m h H → RV m H x v → RV m H y w → Out X.K X.mg W RV m H σ Q (f x y h) → r v w H Q
theorem em_op {op : Operator} {f : PV → PV → HS → R PV} {a b : Expr} {ma mb : Mi PV} {pos : Pos} (ho : OpM X W (binaryOp op) f) (ha : PEm X W a ma) (hb : PEm X W b mb) : PEm X W (.BinOp a op b pos) (m2 f ma mb) := by
  obtain ⟨r, h1, h2⟩ := ho
  exact wkE (pe_op h1 ha hb) fun σ H Q ⟨m, ρ, h, s, rs, o⟩ => ⟨m, ρ, h, s, rs, o.bind.mono fun x H1 ⟨m1, h1, a, l1, s1, r1, o1⟩ => ⟨m1, ρ, h1, s1, rs.le l1, o1.bind.mono fun y H2 ⟨m2, h2', b, l2, s2, r2, o2⟩ => h2 _ _ _ _ _ _ _ _ _ s2 (r1.le l2) r2 o2⟩⟩
theorem em_cmp {op : CmpOp} {f : PV → PV → HS → R PV} {a b : Expr} {ma mb : Mi PV} {pos : Pos} (ho : OpM X W (compareOp op) f) (ha : PEm X W a ma) (hb : PEm X W b mb) (hm : behindInMarks op b = false := by first | exact nomark _ | rfl) : PEm X W (.Compare a [op] [b] pos) (m2 f ma mb) := by
  obtain ⟨r, h1, h2⟩ := ho
  exact wkE (pe_cmpR h1 ha hb hm) fun σ H Q ⟨m, ρ, h, s, rs, o⟩ => ⟨m, ρ, h, s, rs, o.bind.mono fun x H1 ⟨m1, h1, a, l1, s1, r1, o1⟩ => ⟨m1, ρ, h1, s1, rs.le l1, o1.bind.mono fun y H2 ⟨m2, h2', b, l2, s2, r2, o2⟩ => h2 _ _ _ _ _ _ _ _ _ s2 (r1.le l2) r2 o2⟩⟩
@[simp] def asB (x : PV) (h : HS) : R Bool := match x with
  | .bl b => .ok b h
  | _ => .no
theorem asB_out {m : List Addr} {h : HS} {H : Hp} {σ : St} {x : PV} {Q : Bool → Hp → Prop} {v : V} (s : Sim X.K X.mg m h H) (r : RV m H x v) (o : Out X.K X.mg W RB m H σ Q (asB x h)) : ∃ k, v = .bl k ∧ Q k H := by
  cases r with
  | bl b => exact ⟨b, rfl, o m H b .refl s rfl⟩
  | _ => exact o.elim
theorem tm_cmp {op : CmpOp} {f : PV → PV → HS → R PV} {a b : Expr} {ma mb : Mi PV} {pos : Pos} (ho : OpM X W (compareOp op) f) (ha : PEm X W a ma) (hb : PEm X W b mb) (hm : behindInMarks op b = false := by first | exact nomark _ | rfl) : PTm X W (.Compare a [op] [b] pos) (m1 asB (m2 f ma mb)) := by
  obtain ⟨r, h1, h2⟩ := ho
  exact wkT (pt_cmpR h1 ha hb hm) fun σ H Q ⟨m, ρ, h, s, rs, o⟩ => ⟨m, ρ, h, s, rs, o.bind.bind.mono fun x H1 ⟨m1, h1, a, l1, s1, r1, o1⟩ => ⟨m1, ρ, h1, s1, rs.le l1, o1.bind.mono fun y H2 ⟨m2, h2', b, l2, s2, r2, o2⟩ => h2 _ _ _ _ _ _ _ _ _ s2 (r1.le l2) r2 (o2.mono fun z H3 ⟨m3, h3, c, l3, s3, r3, o3⟩ => asB_out s3 r3 o3)⟩⟩
end
end Lt
namespace Lt
open PySem PySem.Spec PyProof.Rows L2
section
variable {X : Cx} {W : WX}
theorem line16 : sizeLine = 16777216 := sizeLine_eq
/-! ### truth, and, or, not -/
theorem RVs.empty {m : List Addr} {H : Hp} {xs : List PV} {vs : List V} (h : RVs m H xs vs) : (!vs.isEmpty) = !xs.isEmpty := by
  cases h <;> rfl
theorem RKs.empty {κ : Type} {m : List Addr} {H : Hp} {xs : List (κ × PV)} {vs : List (κ × V)} (h : RKs m H xs vs) : (!vs.isEmpty) = !xs.isEmpty := by
  cases h <;> rfl
theorem truth_out {m : List Addr} {h : HS} {H : Hp} {σ : St} {x : PV} {Q : Bool → Hp → Prop} {v : V} (s : Sim X.K X.mg m h H) (r : RV m H x v) (o : Out X.K X.mg W RB m H σ Q (truth x h)) : ∃ k, TruV X.K v H k ∧ Q k H := by
  cases r with
  | non => exact ⟨false, rfl, o m H _ .refl s rfl⟩
  | bl b => exact ⟨b, rfl, o m H _ .refl s rfl⟩
  | int i => exact ⟨_, rfl, o m H _ .refl s rfl⟩
  | str y =>
    simp only [truth] at o
    split at o
    · rename_i hl
      exact ⟨_, ⟨by rw [line16]; exact hl, rfl⟩, o m H _ .refl s rfl⟩
    · exact o.elim
  | tup h1 r1 => exact ⟨_, .inr (.inl ⟨_, SqT.of h1, rfl⟩), o m H _ .refl s r1.empty.symm⟩
  | ty n => exact o.elim
  | ref e =>
    rename_i n a
    simp only [truth] at o
    split at o
    · rename_i xs e1
      obtain ⟨ys, h1, r1⟩ := s.obj _ _ _ e1 e
      exact ⟨_, .inl ⟨ys, SqL.of h1, rfl⟩, o m H _ .refl s r1.empty.symm⟩
    · rename_i xs e1
      obtain ⟨ys, h1, r1⟩ := s.obj _ _ _ e1 e
      exact ⟨_, .inr (.inr ⟨ys, h1, rfl⟩), o m H _ .refl s r1.empty.symm⟩
    · exact o.elim
variable {a b c : Expr} {ma mb mc : Mi PV} {ta tb : Mi Bool} {rest : List Expr} {pos : Pos}
theorem tm_tru (ha : PEm X W a ma) (he : ∀ whole, isTrue a X.env whole = (do let v ← whole; standAt a.pos; holding [v] (truthy v)) := by intro _; rfl) : PTm X W a (mTru ma) :=
  wkT (pt_truth ha he) fun σ H Q ⟨m, ρ, h, s, rs, o⟩ => ⟨m, ρ, h, s, rs, o.bind.mono fun x H1 ⟨m1, h1, av, l1, s1, r1, o1⟩ => truth_out s1 r1 o1⟩
theorem wm_and1 (ha : PTm X W a ta) : PWm X W (.BoolOp .And [a] pos) ta := pw_and1 ha
theorem wm_or1 (ha : PTm X W a ta) : PWm X W (.BoolOp .Or [a] pos) ta := pw_or1 ha
theorem wm_and (ha : PTm X W a ta) (hb : PWm X W (.BoolOp .And (b :: rest) pos) tb) : PWm X W (.BoolOp .And (a :: b :: rest) pos) (mAnd ta tb) :=
  wkW (pw_and ha hb) fun σ H Q ⟨m, ρ, h, s, rs, o⟩ => ⟨m, ρ, h, s, rs, o.bind.mono fun c H1 ⟨m1, h1, av, l1, s1, r1, o1⟩ => by
    cases r1
    cases c with
    | true => exact ⟨m1, ρ, h1, s1, rs.le l1, o1⟩
    | false => exact o1 m1 H1 _ .refl s1 rfl⟩
theorem wm_or (ha : PTm X W a ta) (hb : PWm X W (.BoolOp .Or (b :: rest) pos) tb) : PWm X W (.BoolOp .Or (a :: b :: rest) pos) (mOr ta tb) :=
  wkW (pw_or ha hb) fun σ H Q ⟨m, ρ, h, s, rs, o⟩ => ⟨m, ρ, h, s, rs, o.bind.mono fun c H1 ⟨m1, h1, av, l1, s1, r1, o1⟩ => by
    cases r1
    cases c with
    | true => exact o1 m1 H1 _ .refl s1 rfl
    | false => exact ⟨m1, ρ, h1, s1, rs.le l1, o1⟩⟩
theorem tm_w (ha : PWm X W a ta) : PTm X W a ta := PW.pt ha
theorem tm_not (ha : PTm X W a ta) : PTm X W (.UnaryOp .Not a pos) (mNot ta) :=
  wkT (pt_not ha) fun σ H Q ⟨m, ρ, h, s, rs, o⟩ => ⟨m, ρ, h, s, rs, o.bind.mono fun c H1 ⟨m1, h1, av, l1, s1, r1, o1⟩ => by
    cases r1
    exact o1 m1 H1 _ .refl s1 rfl⟩
theorem em_one {op} (ha : PEm X W a ma) : PEm X W (.BoolOp op [a] pos) ma := pe_one ha
theorem em_and (ha : PEm X W a ma) (hb : PEm X W (.BoolOp .And (b :: rest) pos) mb) : PEm X W (.BoolOp .And (a :: b :: rest) pos) (mAndV ma mb) :=
  wkE (pe_andT ha hb) fun σ H Q ⟨m, ρ, h, s, rs, o⟩ => ⟨m, ρ, h, s, rs, o.bind.mono fun x H1 ⟨m1, h1, av, l1, s1, r1, o1⟩ => by
    obtain ⟨k, tk, q⟩ := truth_out s1 r1 o1.bind
    obtain ⟨m2, h2, c, l2, s2, r2, o2⟩ := q
    cases r2
    refine ⟨k, tk, ?_⟩
    cases k with
    | true => exact ⟨m2, ρ, h2, s2, (rs.le l1).le l2, o2⟩
    | false => exact o2 m2 H1 _ .refl s2 (r1.le l2)⟩
theorem em_or (ha : PEm X W a ma) (hb : PEm X W (.BoolOp .Or (b :: rest) pos) mb) : PEm X W (.BoolOp .Or (a :: b :: rest) pos) (mOrV ma mb) :=
  wkE (pe_orT ha hb) fun σ H Q ⟨m, ρ, h, s, rs, o⟩ => ⟨m, ρ, h, s, rs, o.bind.mono fun x H1 ⟨m1, h1, av, l1, s1, r1, o1⟩ => by
    obtain ⟨k, tk, q⟩ := truth_out s1 r1 o1.bind
    obtain ⟨m2, h2, c, l2, s2, r2, o2⟩ := q
    cases r2
    refine ⟨k, tk, ?_⟩
    cases k with
    | true => exact o2 m2 H1 _ .refl s2 (r1.le l2)
    | false => exact ⟨m2, ρ, h2, s2, (rs.le l1).le l2, o2⟩⟩
theorem em_not (ha : PEm X W a ma) : PEm X W (.UnaryOp .Not a pos) (mNotV ma) :=
  wkE (pe_notT ha) fun σ H Q ⟨m, ρ, h, s, rs, o⟩ => ⟨m, ρ, h, s, rs, o.bind.mono fun x H1 ⟨m1, h1, av, l1, s1, r1, o1⟩ => by
    obtain ⟨k, tk, q⟩ := truth_out s1 r1 o1.bind
    obtain ⟨m2, h2, c, l2, s2, r2, o2⟩ := q
    cases r2
    exact ⟨k, tk, o2 m2 H1 _ .refl s2 (.bl _)⟩⟩
theorem em_if (hc : PTm X W c tb) (ha : PEm X W a ma) (hb : PEm X W b mb) : PEm X W (.IfExp c a b pos) (mIf tb ma mb) :=
  wkE (pe_ifExp hc ha hb) fun σ H Q ⟨m, ρ, h, s, rs, o⟩ => ⟨m, ρ, h, s, rs, o.bind.mono fun c H1 ⟨m1, h1, av, l1, s1, r1, o1⟩ => by
    cases r1
    cases c with
    | true => exact ⟨m1, ρ, h1, s1, rs.le l1, o1⟩
    | false => exact ⟨m1, ρ, h1, s1, rs.le l1, o1⟩⟩
/-- a < b < c -/
theorem out_ok_bl {m : List Addr} {h : HS} {H : Hp} {σ : St} {k : Bool} {Q : VK} (s : Sim X.K X.mg m h H) (o : Out X.K X.mg W RV m H σ Q (.ok (.bl k) h)) : Q (.bl k) H := o m H _ .refl s (.bl k)
def mChain (f g : PV → PV → HS → R PV) (ma mb mc : Mi PV) (ρ : Pn) (h : HS) : R PV := (ma ρ h).bind fun x h1 => (mb ρ h1).bind fun y h2 => (f x y h2).bind fun z h3 => (asB z h3).bind fun k h4 =>
  if k = true then (mc ρ h4).bind fun w h5 => g y w h5 else .ok (.bl false) h4
theorem chain_out {f g : PV → PV → HS → R PV} {op op' : CmpOp} (ho : OpM X W (compareOp op) f) (ho' : OpM X W (compareOp op') g) : ∃ r r' : R2, OpR X (compareOp op) r ∧ OpR X (compareOp op') r' ∧
    ∀ σ H Q, tG X.K X.mg W RV (mChain f g ma mb mc) σ H Q → tChain r r' (tG X.K X.mg W RV ma) (tG X.K X.mg W RV mb) (tG X.K X.mg W RV mc) σ H Q := by
  obtain ⟨r, h1, h2⟩ := ho
  obtain ⟨r', h1', h2'⟩ := ho'
  refine ⟨r, r', h1, h1', fun σ H Q ⟨m, ρ, h, s, rs, o⟩ => ⟨m, ρ, h, s, rs, o.bind.mono fun x H1 ⟨m1, h1, av, l1, s1, r1, o1⟩ => ⟨m1, ρ, h1, s1, rs.le l1, o1.bind.mono fun y H2 ⟨m2, hh2, bv, l2, s2, r2, o2⟩ => ?_⟩⟩⟩
  refine h2 _ _ _ σ _ _ _ _ _ s2 (r1.le l2) r2 (o2.bind.mono fun z H3 ⟨m3, h3, zv, l3, s3, r3, o3⟩ => ?_)
  obtain ⟨k, e, m4, h4, kv, l4, s4, r4, o4⟩ := asB_out s3 r3 o3.bind
  cases r4
  refine ⟨k, e, ?_⟩
  cases k with
  | false => exact out_ok_bl s4 o4
  | true => exact ⟨m4, ρ, h4, s4, (((rs.le l1).le l2).le l3).le l4, o4.bind.mono fun w H5 ⟨m5, h5, wv, l5, s5, r5, o5⟩ => h2' _ _ _ σ _ _ _ _ _ s5 (((r2.le l3).le l4).le l5) r5 o5⟩
theorem em_chain {f g : PV → PV → HS → R PV} {op op' : CmpOp} (ho : OpM X W (compareOp op) f) (ho' : OpM X W (compareOp op') g) (ha : PEm X W a ma) (hb : PEm X W b mb) (hc : PEm X W c mc)
    (hm : lastMarks [op, op'] [b, c] = false := by with_unfolding_all rfl) : PEm X W (.Compare a [op, op'] [b, c] pos) (mChain f g ma mb mc) := by
  obtain ⟨r, r', h1, h2, k⟩ := chain_out (ma := ma) (mb := mb) (mc := mc) ho ho'
  exact wkE (pe_chain h1 h2 ha hb hc hm) k
theorem tm_chain {f g : PV → PV → HS → R PV} {op op' : CmpOp} (ho : OpM X W (compareOp op) f) (ho' : OpM X W (compareOp op') g) (ha : PEm X W a ma) (hb : PEm X W b mb) (hc : PEm X W c mc)
    (hm : lastMarks [op, op'] [b, c] = false := by with_unfolding_all rfl) : PTm X W (.Compare a [op, op'] [b, c] pos) (m1 asB (mChain f g ma mb mc)) := by
  obtain ⟨r, r', h1, h2, k⟩ := chain_out (ma := ma) (mb := mb) (mc := mc) ho ho'
  refine wkT (pt_chain h1 h2 ha hb hc hm) fun σ H Q ⟨m, ρ, h, s, rs, o⟩ => k σ H _ ⟨m, ρ, h, s, rs, o.bind.mono fun z H3 ⟨m3, h3, c, l3, s3, r3, o3⟩ => asB_out s3 r3 o3⟩
/-! ### argument lists, displays -/
variable {e : Expr} {es : List Expr} {me : Mi PV} {mes : Mi (List PV)}
theorem am_nil : PAm X W [] mNil := wkA pa_nil fun σ H Q ⟨m, ρ, h, s, rs, o⟩ => o m H _ .refl s .nil
theorem am_cons (he : PEm X W e me) (hes : PAm X W es mes) (hs : starEach (e :: es) X.env = (false, eval e X.env) :: starEach es X.env := by rfl) : PAm X W (e :: es) (mCons me mes) :=
  wkA (pa_cons he hes hs) fun σ H Q ⟨m, ρ, h, s, rs, o⟩ => ⟨m, ρ, h, s, rs, o.bind.mono fun x H1 ⟨m1, h1, av, l1, s1, r1, o1⟩ => ⟨m1, ρ, h1, s1, rs.le l1, o1.bind.mono fun xs H2 ⟨m2, h2, bv, l2, s2, r2, o2⟩ => o2 m2 H2 _ .refl s2 (.cons (r1.le l2) r2)⟩⟩
@[simp] def dTup (xs : List PV) (h : HS) : R PV := if xs.length ≤ 16777216 then .ok (.tup xs) h else .no
@[simp] def dLst (xs : List PV) (h : HS) : R PV := if xs.length ≤ 16777216 then .ok (.ref h.length) (h ++ [.lst xs]) else .no
theorem new_tup {m : List Addr} {h : HS} {H : Hp} {σ : St} {Q : VK} {xs : List PV} {vs : List V} {p : Addr} (s : Sim X.K X.mg m h H) (r : RVs m H xs vs) (hp : H p = none) (o : Out X.K X.mg W RV m H σ Q (.ok (.tup xs) h)) : Q (.ref p) (upd H p (.tup vs)) :=
  o m _ _ (le_new hp _) (s.junk hp _) (.tup upd_same (r.le (le_new hp _)))
theorem get_new {m : List Addr} {h : HS} {H : Hp} {K : PySem.W.Frag} {mg : Str → Option Value} (s : Sim K mg m h H) (p : Addr) : (m ++ [p])[h.length]? = some p := by
  rw [← s.len, List.getElem?_append_right (Nat.le_refl _), Nat.sub_self]
  rfl
theorem new_lst {m : List Addr} {h : HS} {H : Hp} {σ : St} {Q : VK} {xs : List PV} {vs : List V} {p : Addr} (s : Sim X.K X.mg m h H) (r : RVs m H xs vs) (hp : H p = none) (o : Out X.K X.mg W RV m H σ Q (.ok (.ref h.length) (h ++ [.lst xs]))) : Q (.ref p) (upd H p (.lst vs)) :=
  o (m ++ [p]) _ _ (le_add hp _) (s.add hp _ ⟨vs, upd_same, r.le (le_add hp _)⟩) (.ref (get_new s p))
theorem em_tup {x1} (ha : PAm X W es mes) : PEm X W (.Tuple es x1 pos) (m1 dTup mes) :=
  wkE (pe_tup ha) fun σ H Q ⟨m, ρ, h, s, rs, o⟩ => ⟨m, ρ, h, s, rs, o.bind.mono fun xs H1 ⟨m1, h1, av, l1, s1, r1, o1⟩ => by
    unfold dTup at o1
    split at o1
    · rename_i hl
      exact ⟨by rw [← r1.length, line16]; exact hl, fun p hp => new_tup s1 r1 hp o1⟩
    · exact o1.elim⟩
theorem em_lst (ha : PAm X W es mes) : PEm X W (.List es pos) (m1 dLst mes) :=
  wkE (pe_lst ha) fun σ H Q ⟨m, ρ, h, s, rs, o⟩ => ⟨m, ρ, h, s, rs, o.bind.mono fun xs H1 ⟨m1, h1, av, l1, s1, r1, o1⟩ => by
    unfold dLst at o1
    split at o1
    · rename_i hl
      exact ⟨by rw [← r1.length, line16]; exact hl, fun p hp => new_lst s1 r1 hp o1⟩
    · exact o1.elim⟩
/-! ### calls of the text's own defs -/
def spM (K : PySem.W.Frag) (mg : Str → Option Value) (f : List PV → HS → R PV) : Sp := fun vs H Q E => ∃ m xs h, Sim K mg m h H ∧ RVs m H xs vs ∧ Out K mg (fun cls d _ H' => E cls d H') RV m H [] Q (f xs h)
structure FnAt (P : Program) (w : World) (K : PySem.W.Frag) (mg : Str → Option Value) (base : Heap) (k : Nat) (name : Str) (f : List PV → HS → R PV) : Prop where
  ex : ∃ a fd ps, mg name = some (.ref a) ∧ PySem.W.keepIn K (.ref a) = true ∧ Binds K fd ps [] ∧ FnOk P w K mg base (L2.CX P w) k a fd ps (spM K mg f)
theorem FnAt.mono {P : Program} {w : World} {K : PySem.W.Frag} {mg : Str → Option Value} {base : Heap} {j k : Nat} {name : Str} {f : List PV → HS → R PV} (F : FnAt P w K mg base j name f) (h : j ≤ k) : FnAt P w K mg base k name f := by
  obtain ⟨a, fd, ps, h1, h2, h3, h4⟩ := F.ex
  exact ⟨a, fd, ps, h1, h2, h3, h4.mono h⟩
theorem Out.toE {K : PySem.W.Frag} {mg : Str → Option Value} {W : WX} {α β : Type} {rel : Rl α β} {m : List Addr} {H : Hp} {σ : St} {Q : β → Hp → Prop} {r : R α} (o : Out K mg W rel m H σ Q r) : Out K mg (fun cls d _ H' => WE W σ cls d H') rel m H [] Q r := by
  cases r with
  | ok a h => exact o
  | ex e h => exact o
  | no => exact o
theorem em_call {k : Nat} {x : Str} {p : Pos} {f : List PV → HS → R PV} (tk : Takes X W) (hr : Room k X.A) (F : FnAt X.prog X.w X.K X.mg X.base k x f) (ha : PAm X W (e :: es) mes) (hg : Gl X x := by rfl)
    (hdb : (x == ("__debug__" : Str)) = false := by decide) (he : starEach (e :: es) X.env = (false, eval e X.env) :: starEach es X.env := by rfl) (hpl : (backTo pos (starEach es X.env)).any (·.1) = false := by rfl) : PEm X W (.Call (.Name x p) (e :: es) [] pos) (m1 f mes) := by
  obtain ⟨a, fd, ps, h1, h2, h3, h4⟩ := F.ex
  exact wkE (pe_callS h4 hr hg h1 h2 h3 (passAt tk) ha hdb he hpl) fun σ H Q ⟨m, ρ, h, s, rs, o⟩ => ⟨m, ρ, h, s, rs, o.bind.mono fun xs H1 ⟨m1, h1, av, l1, s1, r1, o1⟩ => ⟨m1, av, h1, s1, r1, o1.toE⟩⟩
theorem em_call0 {k : Nat} {x : Str} {p : Pos} {f : List PV → HS → R PV} (tk : Takes X W) (hr : Room k X.A) (F : FnAt X.prog X.w X.K X.mg X.base k x f) (hg : Gl X x := by rfl)
    (hdb : (x == ("__debug__" : Str)) = false := by decide) : PEm X W (.Call (.Name x p) [] [] pos) (m1 f mNil) := by
  obtain ⟨a, fd, ps, h1, h2, h3, h4⟩ := F.ex
  refine ⟨fun pins s σ H Q I ⟨m, ρ, h, sm, rs, o⟩ => ?_⟩
  refine wpAny_Call_Name_kw (ld_glob I hg h1 ?_ hdb)
  exact PySem.W.callWith_K0 I.kIn h2 (run_fnS (us := []) h4 hr h3 (passAt tk σ) I .nil ⟨m, [], h, sm, .nil, o.toE⟩)
/-! ### built-in functions, operators on values -/
def CallM (X : Cx) (W : WX) (g : Value) (f : List PV → HS → R PV) : Prop :=
  ∃ r, CallR X g r ∧ ∀ m h H σ Q xs vs, Sim X.K X.mg m h H → RVs m H xs vs → Out X.K X.mg W RV m H σ Q (f xs h) → r vs H Q
theorem em_callB {x : Str} {p : Pos} {id : String} {f : List PV → HS → R PV} (hc : CallM X W (.builtin id) f) (hm : X.mg x = none) (hv : bootBuiltins x = some (.builtin id)) (ha : PAm X W (e :: es) mes) (hg : Gl X x := by rfl) (hn : x ≠ "__name__" := by decide) (hdb : (x == ("__debug__" : Str)) = false := by decide)
    (he : starEach (e :: es) X.env = (false, eval e X.env) :: starEach es X.env := by rfl) (hpl : (backTo pos (starEach es X.env)).any (·.1) = false := by rfl) : PEm X W (.Call (.Name x p) (e :: es) [] pos) (m1 f mes) := by
  obtain ⟨r, h1, h2⟩ := hc
  exact wkE (pe_callB h1 hg hm hv ha hn hdb he hpl) fun σ H Q ⟨m, ρ, h, s, rs, o⟩ => ⟨m, ρ, h, s, rs, o.bind.mono fun xs H1 ⟨m1, h1, av, l1, s1, r1, o1⟩ => h2 _ _ _ _ _ _ _ s1 r1 o1⟩
theorem em_callTy {x : Str} {p : Pos} {id : String} {f : List PV → HS → R PV} (hc : CallM X W (.type id) f) (hm : X.mg x = none) (hv : bootBuiltins x = some (.type id)) (ha : PAm X W (e :: es) mes) (hg : Gl X x := by rfl) (hn : x ≠ "__name__" := by decide) (hdb : (x == ("__debug__" : Str)) = false := by decide)
    (he : starEach (e :: es) X.env = (false, eval e X.env) :: starEach es X.env := by rfl) (hpl : (backTo pos (starEach es X.env)).any (·.1) = false := by rfl) : PEm X W (.Call (.Name x p) (e :: es) [] pos) (m1 f mes) := by
  obtain ⟨r, h1, h2⟩ := hc
  exact wkE (pe_callTy h1 hg hm hv ha hn hdb he hpl) fun σ H Q ⟨m, ρ, h, s, rs, o⟩ => ⟨m, ρ, h, s, rs, o.bind.mono fun xs H1 ⟨m1, h1, av, l1, s1, r1, o1⟩ => h2 _ _ _ _ _ _ _ s1 r1 o1⟩
end
end Lt
namespace Lt
open PySem PySem.Spec PyProof.Rows L2
/-! ### values as data -/
def datL (f : PV → Option PyData) : List PV → Option (List PyData)
  | [] => some []
  | x :: xs => match f x, datL f xs with
    | some d, some ds => some (d :: ds)
    | _, _ => none
def dat : Nat → HS → PV → Option PyData
  | _, _, .non => some .none
  | _, _, .bl b => some (.bool b)
  | _, _, .int i => some (.int i)
  | _, _, .str x => some (.str x)
  | _, _, .ty _ => none
  | 0, _, .tup _ => none
  | 0, _, .ref _ => none
  | n + 1, h, .tup xs => (datL (dat n h) xs).map .tuple
  | n + 1, h, .ref p => match h[p]? with
    | some (.lst xs) => (datL (dat n h) xs).map .list
    | _ => none
section
variable {K : PySem.W.Frag} {mg : Str → Option Value} {m : List Addr} {h : HS} {H : Hp}
theorem datL_dp {f : PV → Option PyData} (hf : ∀ x v d, RV m H x v → f x = some d → Dp K H v d) : ∀ {xs : List PV} {vs : List V} {ds : List PyData}, RVs m H xs vs → datL f xs = some ds → DpAll K H vs ds
  | _, _, _, .nil, e => by
    cases e
    exact .nil
  | _, _, ds, .cons (x := x) (xs := xs) r t, e => by
    unfold datL at e
    split at e
    · rename_i d ds' e1 e2
      cases e
      exact .cons (hf _ _ _ r e1) (datL_dp hf t e2)
    · cases e
theorem dat_dp (s : Sim K mg m h H) : ∀ (n : Nat) (x : PV) (v : V) (d : PyData), RV m H x v → dat n h x = some d → Dp K H v d := by
  intro n
  induction n with
  | zero =>
    intro x v d r e
    cases r <;> (first | (simp only [dat] at e; cases e; constructor) | (simp only [dat] at e; cases e))
  | succ n ih =>
    intro x v d r e
    cases r with
    | tup h1 r1 =>
      simp only [dat, Option.map_eq_some_iff] at e
      obtain ⟨ds, e1, rfl⟩ := e
      exact .tup (SqT.of h1) (datL_dp ih r1 e1)
    | ref h1 =>
      simp only [dat] at e
      split at e
      · rename_i xs e0
        simp only [Option.map_eq_some_iff] at e
        obtain ⟨ds, e1, rfl⟩ := e
        obtain ⟨ys, h2, r2⟩ := s.obj _ _ _ e0 h1
        exact .lst (SqL.of h2) (datL_dp ih r2 e1)
      · cases e
    | non => simp only [dat] at e; cases e; exact .non
    | bl b => simp only [dat] at e; cases e; exact .bl b
    | int b => simp only [dat] at e; cases e; exact .int b
    | str b => simp only [dat] at e; cases e; exact .str b
    | ty b => simp only [dat] at e; cases e
end
/-! ### operators -/
@[simp] def addV : PV → PV → HS → R PV
  | .int i, .int j, h => .ok (.int (i + j)) h
  | .str a, .str b, h => if a.length + b.length ≤ 16777216 then .ok (.str (a ++ b)) h else .no
  | .tup xs, .tup ys, h => if xs.length + ys.length ≤ 16777216 then .ok (.tup (xs ++ ys)) h else .no
  | .ref p, .ref q, h => match h[p]?, h[q]? with
    | some (.lst xs), some (.lst ys) => if xs.length + ys.length ≤ 16777216 then .ok (.ref h.length) (h ++ [.lst (xs ++ ys)]) else .no
    | _, _ => .no
  | _, _, _ => .no
@[simp] def subV : PV → PV → HS → R PV
  | .int i, .int j, h => .ok (.int (i - j)) h
  | _, _, _ => .no
/-- so small that it may be multiplied -/
def small (i : Int) : Prop := Builtin.Int.intBits i ≤ 60000
instance (i : Int) : Decidable (small i) := by
  unfold small
  infer_instance
theorem small_of {i : Int} {k : Nat} (h : i.natAbs < 2 ^ k) (hk : k ≤ 60000) : small i := Nat.le_trans (PyProof.Rows.intBits_le h) hk
theorem small_abs {i : Int} : small i ↔ i.natAbs < 2 ^ 60000 := PySem.intBits_le_iff
@[simp] def mulV : PV → PV → HS → R PV
  | .int i, .int j, h => if small i ∧ small j then .ok (.int (i * j)) h else .no
  | .ref p, .int k, h => match h[p]? with
    | some (.lst xs) => if 0 ≤ k ∧ k ≤ 16777216 ∧ xs.length * k.toNat ≤ 16777216 then .ok (.ref h.length) (h ++ [.lst (List.replicate k.toNat xs).flatten]) else .no
    | _ => .no
  | _, _, _ => .no
@[simp] def modV : PV → PV → HS → R PV
  | .int i, .int j, h => if 0 < j then .ok (.int (i % j)) h else .no
  | _, _, _ => .no
@[simp] def fdivV : PV → PV → HS → R PV
  | .int i, .int j, h => if 0 < j ∧ j < 2 ^ 200 then .ok (.int (i / j)) h else .no
  | _, _, _ => .no
@[simp] def powV : PV → PV → HS → R PV
  | .int i, .int j, h => if 0 ≤ j ∧ j ≤ 1000 ∧ i.natAbs < 2 ^ 250 then .ok (.int (i ^ j.toNat)) h else .no
  | _, _, _ => .no
@[simp] def cmpI (f : Int → Int → Bool) : PV → PV → HS → R PV
  | .int i, .int j, h => .ok (.bl (f i j)) h
  | _, _, _ => .no
abbrev ltV := cmpI fun i j => decide (i < j)
abbrev leV := cmpI fun i j => decide (i ≤ j)
abbrev gtV := cmpI fun i j => decide (j < i)
abbrev geV := cmpI fun i j => decide (j ≤ i)
def eqB (x y : PV) (h : HS) : Option Bool := match dat 8 h x, dat 8 h y with
  | some d, some e => if SeqAt.shaped d = true ∧ SeqAt.shaped e = true then some (PyData.eqv d e) else none
  | _, _ => none
def eqV (x y : PV) (h : HS) : R PV := match eqB x y h with
  | some b => .ok (.bl b) h
  | none => .no
def neV (x y : PV) (h : HS) : R PV := match eqB x y h with
  | some b => .ok (.bl (!b)) h
  | none => .no
@[simp] def isNon : PV → Bool
  | .non => true
  | _ => false
@[simp] def isV : PV → PV → HS → R PV
  | x, .non, h => .ok (.bl (isNon x)) h
  | .bl a, .bl b, h => .ok (.bl (decide (a = b))) h
  | .ref p, .ref q, h => match h[p]?, h[q]? with
    | some (.lst _), some (.lst _) => .ok (.bl (decide (p = q))) h
    | _, _ => .no
  | _, _, _ => .no
@[simp] def isnotV : PV → PV → HS → R PV
  | x, .non, h => .ok (.bl (!isNon x)) h
  | .bl a, .bl b, h => .ok (.bl (!decide (a = b))) h
  | .ref p, .ref q, h => match h[p]?, h[q]? with
    | some (.lst _), some (.lst _) => .ok (.bl (!decide (p = q))) h
    | _, _ => .no
  | _, _, _ => .no
section
variable {X : Cx} {W : WX}
theorem RV.isNon {m : List Addr} {H : Hp} {x : PV} {v : V} (r : RV m H x v) : decide (v = .non) = isNon x := by
  cases r <;> rfl
theorem o_bl {m : List Addr} {h : HS} {H : Hp} {σ : St} {k : Bool} {Q : VK} (s : Sim X.K X.mg m h H) (o : Out X.K X.mg W RV m H σ Q (.ok (.bl k) h)) : Q (.bl k) H := o m H _ .refl s (.bl k)
theorem o_int {m : List Addr} {h : HS} {H : Hp} {σ : St} {k : Int} {Q : VK} (s : Sim X.K X.mg m h H) (o : Out X.K X.mg W RV m H σ Q (.ok (.int k) h)) : Q (.int k) H := o m H _ .refl s (.int k)
theorem o_str {m : List Addr} {h : HS} {H : Hp} {σ : St} {k : Str} {Q : VK} (s : Sim X.K X.mg m h H) (o : Out X.K X.mg W RV m H σ Q (.ok (.str k) h)) : Q (.str k) H := o m H _ .refl s (.str k)
theorem RVs.nil_iff {m : List Addr} {H : Hp} {xs : List PV} {vs : List V} (r : RVs m H xs vs) : vs = [] ↔ xs = [] := by
  cases r <;> simp
theorem o_add : OpM X W (binaryOp .Add) addV := by
  refine ⟨_, op_add.or (op_add_str.or (op_catA.or op_cat)), fun m h H σ Q x y v w s rx ry o => ?_⟩
  unfold addV at o
  split at o
  · cases rx; cases ry
    exact .inl ⟨_, _, rfl, rfl, o_int s o⟩
  · cases rx; cases ry
    split at o
    · rename_i hl
      exact .inr (.inl ⟨_, _, rfl, rfl, by rw [line16]; exact hl, o_str s o⟩)
    · exact o.elim
  · cases rx with
    | tup h1 r1 =>
      cases ry with
      | tup h2 r2 =>
        split at o
        · rename_i hl
          refine .inr (.inr (.inl ⟨_, _, _, _, rfl, rfl, SqT.of h1, SqT.of h2, by rw [line16, ← r1.length, ← r2.length]; exact hl, fun e => ?_, fun e1 e2 => ?_, fun _ _ p hp => ?_⟩))
          · rw [r1.nil_iff.mp e] at o
            exact o m H _ .refl s (.tup h2 r2)
          · rw [r2.nil_iff.mp e2, List.append_nil] at o
            exact o m H _ .refl s (.tup h1 r1)
          · exact new_tup s (r1.app r2) hp o
        · exact o.elim
  · cases rx with
    | ref h1 =>
      cases ry with
      | ref h2 =>
        split at o
        · rename_i xs ys e1 e2
          split at o
          · rename_i hl
            obtain ⟨vs, g1, r1⟩ := s.obj _ _ _ e1 h1
            obtain ⟨ws, g2, r2⟩ := s.obj _ _ _ e2 h2
            exact .inr (.inr (.inr ⟨_, _, _, _, rfl, rfl, g1, g2, by rw [line16, ← r1.length, ← r2.length]; exact hl, fun p hp => new_lst s (r1.app r2) hp o⟩))
          · exact o.elim
        · exact o.elim
  · exact o.elim
theorem o_sub : OpM X W (binaryOp .Sub) subV := by
  refine ⟨_, op_sub, fun m h H σ Q x y v w s rx ry o => ?_⟩
  unfold subV at o
  split at o
  · cases rx; cases ry
    exact ⟨_, _, rfl, rfl, o_int s o⟩
  · exact o.elim
theorem RVs.rep {m : List Addr} {H : Hp} {xs : List PV} {vs : List V} (r : RVs m H xs vs) : ∀ k : Nat, RVs m H (List.replicate k xs).flatten (List.replicate k vs).flatten
  | 0 => .nil
  | k + 1 => by
    rw [List.replicate_succ, List.replicate_succ, List.flatten_cons, List.flatten_cons]
    exact r.app (RVs.rep r k)
theorem o_mul : OpM X W (binaryOp .Mult) mulV := by
  refine ⟨_, op_mulX.or op_rep, fun m h H σ Q x y v w s rx ry o => ?_⟩
  unfold mulV at o
  split at o
  · cases rx; cases ry
    split at o
    · rename_i hl
      refine .inl ⟨_, _, rfl, rfl, ?_, o_int s o⟩
      obtain ⟨h1, h2⟩ := hl
      unfold small at h1 h2
      unfold CMulX
      omega
    · exact o.elim
  · cases rx with
    | ref h1 =>
      cases ry
      split at o
      · rename_i xs e1
        split at o
        · rename_i hl
          obtain ⟨vs, g1, r1⟩ := s.obj _ _ _ e1 h1
          exact .inr ⟨_, _, _, rfl, rfl, g1, by omega, by omega, by rw [line16, ← r1.length]; exact hl.2.2, fun p hp => new_lst s (r1.rep _) hp o⟩
        · exact o.elim
      · exact o.elim
  · exact o.elim
theorem o_mod : OpM X W (binaryOp .Mod) modV := by
  refine ⟨_, op_mod, fun m h H σ Q x y v w s rx ry o => ?_⟩
  unfold modV at o
  split at o
  · cases rx; cases ry
    split at o
    · rename_i hl
      exact ⟨_, _, rfl, rfl, hl, o_int s o⟩
    · exact o.elim
  · exact o.elim
theorem o_fdiv : OpM X W (binaryOp .FloorDiv) fdivV := by
  refine ⟨_, op_fdivW, fun m h H σ Q x y v w s rx ry o => ?_⟩
  unfold fdivV at o
  split at o
  · cases rx; cases ry
    split at o
    · rename_i hl
      rename_i i j
      refine ⟨i, j, rfl, rfl, ⟨hl.1, ?_⟩, o_int s o⟩
      have h1 := hl.1
      have h2 := hl.2
      have h3 : j.natAbs < 2 ^ 200 := by omega
      have : Nat.log2 j.natAbs < 200 := PySem.Flt.log2_lt_of (by decide) h3
      omega
    · exact o.elim
  · exact o.elim
theorem op_powW : OpR X (binaryOp .Pow) (rI (fun i j => 0 ≤ j ∧ (Builtin.Int.intBits i : Int) * j ≤ 2 ^ 27) fun i j => .int (i ^ j.toNat)) := opI fun _ _ _ _ _ _ _ hc q => pow_int hc.1 hc.2 q
theorem o_pow : OpM X W (binaryOp .Pow) powV := by
  refine ⟨_, op_powW, fun m h H σ Q x y v w s rx ry o => ?_⟩
  unfold powV at o
  split at o
  · cases rx; cases ry
    split at o
    · rename_i hl
      obtain ⟨h1, h2, h3⟩ := hl
      have h4 := PyProof.Rows.intBits_le h3
      refine ⟨_, _, rfl, rfl, ⟨h1, ?_⟩, o_int s o⟩
      rename_i i j
      have h5 : (Builtin.Int.intBits i : Int) ≤ 250 := by omega
      have h6 : (Builtin.Int.intBits i : Int) * j ≤ 250 * 1000 := Int.mul_le_mul h5 h2 h1 (by decide)
      omega
    · exact o.elim
  · exact o.elim
theorem o_cmpI {g : Value → Value → Sem Value} {f : Int → Int → Bool} (ho : OpR X g (rI0 fun i j => .bl (f i j))) : OpM X W g (cmpI f) := by
  refine ⟨_, ho, fun m h H σ Q x y v w s rx ry o => ?_⟩
  unfold cmpI at o
  split at o
  · cases rx; cases ry
    exact ⟨_, _, rfl, rfl, o_bl s o⟩
  · exact o.elim
theorem o_lt : OpM X W (compareOp .Lt) ltV := o_cmpI op_lt
theorem o_le : OpM X W (compareOp .LtE) leV := o_cmpI op_le
theorem o_gt : OpM X W (compareOp .Gt) gtV := o_cmpI op_gt
theorem o_ge : OpM X W (compareOp .GtE) geV := o_cmpI op_ge
theorem o_eq (hu : X.A.units + 64 < cLine) : OpM X W (compareOp .Eq) eqV := by
  refine ⟨_, op_eqD hu, fun m h H σ Q x y v w s rx ry o => ?_⟩
  unfold eqV eqB at o
  split at o
  · rename_i b e
    split at e
    · rename_i d1 d2 e1 e2
      split at e
      · rename_i hs
        cases e
        exact ⟨d1, d2, dat_dp s 8 _ _ _ rx e1, dat_dp s 8 _ _ _ ry e2, hs.1, hs.2, o_bl s o⟩
      · cases e
    · cases e
  · exact o.elim
theorem o_ne (hu : X.A.units + 64 < cLine) : OpM X W (compareOp .NotEq) neV := by
  refine ⟨_, op_neD hu, fun m h H σ Q x y v w s rx ry o => ?_⟩
  unfold neV eqB at o
  split at o
  · rename_i b e
    split at e
    · rename_i d1 d2 e1 e2
      split at e
      · rename_i hs
        cases e
        exact ⟨d1, d2, dat_dp s 8 _ _ _ rx e1, dat_dp s 8 _ _ _ ry e2, hs.1, hs.2, o_bl s o⟩
      · cases e
    · cases e
  · exact o.elim
theorem Sim.eqA {m : List Addr} {h : HS} {H : Hp} {K : PySem.W.Frag} {mg : Str → Option Value} (s : Sim K mg m h H) {p q : Nat} {a b : Addr} {o o' : HB} (e1 : h[p]? = some o) (e2 : h[q]? = some o') (h1 : m[p]? = some a) (h2 : m[q]? = some b) : decide (a = b) = decide (p = q) := by
  by_cases e : p = q
  · subst e
    rw [h1] at h2
    cases h2
    simp
  · have : a ≠ b := fun z => e (s.inj p q a o o' e1 e2 h1 (z ▸ h2))
    simp [e, this]
theorem o_is : OpM X W (compareOp .Is) isV := by
  refine ⟨_, op_isN.or (op_isBl.or op_is_ref), fun m h H σ Q x y v w s rx ry o => ?_⟩
  unfold isV at o
  split at o
  · cases ry
    exact .inl ⟨rfl, by rw [rx.isNon]; exact o_bl s o⟩
  · cases rx
    cases ry
    exact .inr (.inl ⟨_, _, rfl, rfl, o_bl s o⟩)
  · cases rx with
    | ref h1 =>
      cases ry with
      | ref h2 =>
        split at o
        · rename_i xs ys e1 e2
          obtain ⟨vs, g1, r1⟩ := s.obj _ _ _ e1 h1
          obtain ⟨ws, g2, r2⟩ := s.obj _ _ _ e2 h2
          exact .inr (.inr ⟨_, _, _, _, rfl, rfl, g1, rfl, g2, rfl, by rw [s.eqA e1 e2 h1 h2]; exact o_bl s o⟩)
        · exact o.elim
  · exact o.elim
theorem o_isnot : OpM X W (compareOp .IsNot) isnotV := by
  refine ⟨_, op_notN.or (op_notBl.or op_isnot_ref), fun m h H σ Q x y v w s rx ry o => ?_⟩
  unfold isnotV at o
  split at o
  · cases ry
    exact .inl ⟨rfl, by rw [rx.isNon]; exact o_bl s o⟩
  · cases rx
    cases ry
    exact .inr (.inl ⟨_, _, rfl, rfl, o_bl s o⟩)
  · cases rx with
    | ref h1 =>
      cases ry with
      | ref h2 =>
        split at o
        · rename_i xs ys e1 e2
          obtain ⟨vs, g1, r1⟩ := s.obj _ _ _ e1 h1
          obtain ⟨ws, g2, r2⟩ := s.obj _ _ _ e2 h2
          exact .inr (.inr ⟨_, _, _, _, rfl, rfl, g1, rfl, g2, rfl, by rw [s.eqA e1 e2 h1 h2]; exact o_bl s o⟩)
        · exact o.elim
  · exact o.elim
/-- -x -/
@[simp] def negV : PV → HS → R PV
  | .int i, h => .ok (.int (-i)) h
  | _, _ => .no
theorem em_neg {a : Expr} {ma : Mi PV} {pos : Pos} (ha : PEm X W a ma) : PEm X W (.UnaryOp .USub a pos) (m1 negV ma) :=
  wkE (pe_un un_neg ha) fun σ H Q ⟨m, ρ, h, s, rs, o⟩ => ⟨m, ρ, h, s, rs, o.bind.mono fun x H1 ⟨m1, h1, av, l1, s1, r1, o1⟩ => by
    unfold negV at o1
    split at o1
    · cases r1
      exact ⟨_, rfl, o_int s1 o1⟩
    · exact o1.elim⟩
end
end Lt
namespace Lt
open PySem PySem.Spec PyProof.Rows L2
/-! ### what is read as a row of items -/
def seqOf (h : HS) : PV → Option (List PV)
  | .tup xs => some xs
  | .ref n => match h[n]? with
    | some (.lst xs) => some xs
    | _ => none
  | _ => none
@[simp] theorem seqOf_tup (h : HS) (xs : List PV) : seqOf h (.tup xs) = some xs := rfl
@[simp] theorem seqOf_ref (h : HS) (n : Nat) : seqOf h (.ref n) = (match h[n]? with
  | some (.lst xs) => some xs
  | _ => none) := rfl
@[simp] theorem seqOf_non (h : HS) : seqOf h .non = none := rfl
@[simp] theorem seqOf_bl (h : HS) (b : Bool) : seqOf h (.bl b) = none := rfl
@[simp] theorem seqOf_int (h : HS) (i : Int) : seqOf h (.int i) = none := rfl
@[simp] theorem seqOf_str (h : HS) (x : Str) : seqOf h (.str x) = none := rfl
@[simp] theorem seqOf_ty (h : HS) (x : String) : seqOf h (.ty x) = none := rfl
/-- a list or a tuple at an address of the layer -/
def SqA (K : PySem.W.Frag) (H : Hp) (a : Addr) (ys : List V) : Prop := SqL K H a ys ∨ SqT K H a ys
section
variable {K : PySem.W.Frag} {mg : Str → Option Value} {m : List Addr} {h : HS} {H : Hp}
theorem seqOf_at (s : Sim K mg m h H) {x : PV} {v : V} {xs : List PV} (r : RV m H x v) (e : seqOf h x = some xs) : ∃ a ys, v = .ref a ∧ SqA K H a ys ∧ RVs m H xs ys := by
  unfold seqOf at e
  split at e
  · cases e
    cases r with
    | tup h1 r1 => exact ⟨_, _, rfl, .inr (SqT.of h1), r1⟩
  · cases r with
    | ref h1 =>
      split at e
      · rename_i e1
        cases e
        obtain ⟨ys, g, r⟩ := s.obj _ _ _ e1 h1
        exact ⟨_, ys, rfl, .inl (SqL.of g), r⟩
      · cases e
  · cases e
end
/-! ### calls of built-ins -/
@[simp] def c1 (f : PV → HS → R PV) : List PV → HS → R PV
  | [x], h => f x h
  | _, _ => .no
@[simp] def c2 (f : PV → PV → HS → R PV) : List PV → HS → R PV
  | [x, y], h => f x y h
  | _, _ => .no
@[simp] def lenV (x : PV) (h : HS) : R PV := match seqOf h x with
  | some xs => .ok (.int xs.length) h
  | none => match x with
    | .str z => if z.length ≤ 16777216 then .ok (.int z.length) h else .no
    | _ => .no
@[simp] def listV (x : PV) (h : HS) : R PV := match seqOf h x with
  | some xs => .ok (.ref h.length) (h ++ [.lst xs])
  | none => .no
@[simp] def tupleV (x : PV) (h : HS) : R PV := match seqOf h x with
  | some xs => .ok (.tup xs) h
  | none => .no
@[simp] def blsOf : List PV → Option (List Bool)
  | [] => some []
  | .bl b :: r => (blsOf r).map (b :: ·)
  | _ => none
@[simp] def intsOf : List PV → Option (List Int)
  | [] => some []
  | .int b :: r => (intsOf r).map (b :: ·)
  | _ => none
@[simp] def lstOf (h : HS) : PV → Option (List PV)
  | .ref n => match h[n]? with
    | some (.lst xs) => some xs
    | _ => none
  | _ => none
@[simp] def allV (x : PV) (h : HS) : R PV := match (lstOf h x).bind blsOf with
  | some bs => .ok (.bl (bs.all id)) h
  | none => .no
@[simp] def anyV (x : PV) (h : HS) : R PV := match (lstOf h x).bind blsOf with
  | some bs => .ok (.bl (bs.any id)) h
  | none => .no
@[simp] def sumV (x : PV) (h : HS) : R PV := match (lstOf h x).bind intsOf with
  | some bs => .ok (.int bs.sum) h
  | none => .no
def minL : List Int → Int
  | [] => 0
  | [x] => x
  | x :: y :: r => let m := minL (y :: r); if x ≤ m then x else m
def maxL : List Int → Int
  | [] => 0
  | [x] => x
  | x :: y :: r => let m := maxL (y :: r); if m ≤ x then x else m
theorem minL_ok : ∀ (ns : List Int), ns ≠ [] → minL ns ∈ ns ∧ ∀ y ∈ ns, minL ns ≤ y
  | [], h => absurd rfl h
  | [x], _ => by simp [minL]
  | x :: y :: r, _ => by
    have ih := minL_ok (y :: r) (by simp)
    simp only [minL]
    split
    · refine ⟨by simp, fun z hz => ?_⟩
      rcases List.mem_cons.mp hz with rfl | hz
      · omega
      · have := ih.2 z hz; omega
    · refine ⟨List.mem_cons_of_mem _ ih.1, fun z hz => ?_⟩
      rcases List.mem_cons.mp hz with rfl | hz
      · omega
      · exact ih.2 z hz
theorem maxL_ok : ∀ (ns : List Int), ns ≠ [] → maxL ns ∈ ns ∧ ∀ y ∈ ns, y ≤ maxL ns
  | [], h => absurd rfl h
  | [x], _ => by simp [maxL]
  | x :: y :: r, _ => by
    have ih := maxL_ok (y :: r) (by simp)
    simp only [maxL]
    split
    · refine ⟨by simp, fun z hz => ?_⟩
      rcases List.mem_cons.mp hz with rfl | hz
      · omega
      · have := ih.2 z hz; omega
    · refine ⟨List.mem_cons_of_mem _ ih.1, fun z hz => ?_⟩
      rcases List.mem_cons.mp hz with rfl | hz
      · omega
      · exact ih.2 z hz
@[simp] def minV (x : PV) (h : HS) : R PV := match (lstOf h x).bind intsOf with
  | some (y :: r) => .ok (.int (minL (y :: r))) h
  | _ => .no
@[simp] def maxV (x : PV) (h : HS) : R PV := match (lstOf h x).bind intsOf with
  | some (y :: r) => .ok (.int (maxL (y :: r))) h
  | _ => .no
@[simp] def min2V : PV → PV → HS → R PV
  | .int i, .int j, h => .ok (.int (if j < i then j else i)) h
  | _, _, _ => .no
@[simp] def max2V : PV → PV → HS → R PV
  | .int i, .int j, h => .ok (.int (if j > i then j else i)) h
  | _, _, _ => .no
@[simp] def absV : PV → HS → R PV
  | .int i, h => .ok (.int (if i < 0 then -i else i)) h
  | _, _ => .no
@[simp] def divmodV : PV → PV → HS → R PV
  | .int i, .int j, h => if 0 < j ∧ j < 2 ^ 200 then .ok (.tup [.int (i / j), .int (i % j)]) h else .no
  | _, _, _ => .no
@[simp] def tagOf (h : HS) : PV → Option String
  | .non => some "NoneType"
  | .bl _ => some "bool"
  | .int _ => some "int"
  | .str _ => some "str"
  | .tup _ => some "tuple"
  | .ty _ => none
  | .ref n => match h[n]? with
    | some (.lst _) => some "list"
    | some (.dic _) => some "dict"
    | _ => none
def isTy (a b : String) : Bool := a == b || (a == "bool" && b == "int")
def okTy (b : String) : Bool := ["list", "tuple", "int", "bool", "str", "dict"].contains b
@[simp] def isV1 (a : String) : List PV → Option Bool
  | [] => some false
  | .ty b :: r => if okTy b = true then (isV1 a r).map (isTy a b || ·) else none
  | _ => none
@[simp] def isinstV : PV → PV → HS → R PV
  | x, .ty b, h => match tagOf h x with
    | some a => if okTy b = true then .ok (.bl (isTy a b)) h else .no
    | none => .no
  | x, .tup cs, h => match tagOf h x with
    | some a => match isV1 a cs with
      | some r => .ok (.bl r) h
      | none => .no
    | none => .no
  | _, _, _ => .no
section
variable {X : Cx} {W : WX}
theorem RVs.one {m : List Addr} {H : Hp} {x : PV} {vs : List V} (r : RVs m H [x] vs) : ∃ v, vs = [v] ∧ RV m H x v := by
  cases r with
  | cons r t => cases t; exact ⟨_, rfl, r⟩
theorem RVs.two {m : List Addr} {H : Hp} {x y : PV} {vs : List V} (r : RVs m H [x, y] vs) : ∃ v w, vs = [v, w] ∧ RV m H x v ∧ RV m H y w := by
  cases r with
  | cons r t =>
    obtain ⟨w, rfl, r2⟩ := t.one
    exact ⟨_, w, rfl, r, r2⟩
theorem c1_out {f : PV → HS → R PV} {m : List Addr} {h : HS} {H : Hp} {σ : St} {Q : VK} {xs : List PV} {vs : List V} (r : RVs m H xs vs) (o : Out X.K X.mg W RV m H σ Q (c1 f xs h)) : ∃ x v, vs = [v] ∧ RV m H x v ∧ Out X.K X.mg W RV m H σ Q (f x h) := by
  unfold c1 at o
  split at o
  · obtain ⟨v, e, r1⟩ := r.one
    exact ⟨_, v, e, r1, o⟩
  · exact o.elim
theorem c2_out {f : PV → PV → HS → R PV} {m : List Addr} {h : HS} {H : Hp} {σ : St} {Q : VK} {xs : List PV} {vs : List V} (r : RVs m H xs vs) (o : Out X.K X.mg W RV m H σ Q (c2 f xs h)) : ∃ x y v w, vs = [v, w] ∧ RV m H x v ∧ RV m H y w ∧ Out X.K X.mg W RV m H σ Q (f x y h) := by
  unfold c2 at o
  split at o
  · obtain ⟨v, w, e, r1, r2⟩ := r.two
    exact ⟨_, _, v, w, e, r1, r2, o⟩
  · exact o.elim
theorem b_len : CallM X W (.builtin "len") (c1 lenV) := by
  refine ⟨_, call_len, fun m h H σ Q xs vs s r o => ?_⟩
  obtain ⟨x, v, rfl, r, o⟩ := c1_out r o
  unfold lenV at o
  split at o
  · rename_i ys e
    obtain ⟨a, ws, rfl, q, rr⟩ := seqOf_at s r e
    rw [rr.length] at o
    refine ⟨_, ws.length, rfl, ?_, o_int s o⟩
    rcases q with q | q
    · exact .inl ⟨_, q, rfl⟩
    · exact .inr ⟨_, q, rfl⟩
  · split at o
    · cases r
      split at o
      · rename_i hl
        exact ⟨_, _, rfl, ⟨by rw [line16]; exact hl, rfl⟩, o_int s o⟩
      · exact o.elim
    · exact o.elim
theorem b_list : CallM X W (.type "list") (c1 listV) := by
  refine ⟨_, call_list_of, fun m h H σ Q xs vs s r o => ?_⟩
  obtain ⟨x, v, rfl, r, o⟩ := c1_out r o
  unfold listV at o
  split at o
  · rename_i ys e
    obtain ⟨a, ws, rfl, q, rr⟩ := seqOf_at s r e
    exact ⟨a, ws, rfl, q, fun p hp => new_lst s rr hp o⟩
  · exact o.elim
theorem b_tuple : CallM X W (.type "tuple") (c1 tupleV) := by
  refine ⟨_, call_tuple_of, fun m h H σ Q xs vs s r o => ?_⟩
  obtain ⟨x, v, rfl, r, o⟩ := c1_out r o
  unfold tupleV seqOf at o
  cases r with
  | tup h1 r1 =>
    simp only at o
    exact ⟨_, _, rfl, .inr ⟨SqT.of h1, o m H _ .refl s (.tup h1 r1)⟩⟩
  | ref h1 =>
    simp only at o
    split at o
    · rename_i ys e
      obtain ⟨a, ws, e2, q, rr⟩ := seqOf_at (x := .ref _) s (.ref h1) (by unfold seqOf; exact e)
      cases e2
      split at e
      · rename_i e1
        obtain ⟨ws, g, r⟩ := s.obj _ _ _ e1 h1
        cases e
        exact ⟨_, _, rfl, .inl ⟨SqL.of g, fun p hp => new_tup s r hp o⟩⟩
      · cases e
    · exact o.elim
  | _ => exact o.elim
theorem lstOf_at {m : List Addr} {h : HS} {H : Hp} (s : Sim X.K X.mg m h H) {x : PV} {v : V} {xs : List PV} (r : RV m H x v) (e : lstOf h x = some xs) : ∃ a ys, v = .ref a ∧ H a = some (.lst ys) ∧ RVs m H xs ys := by
  unfold lstOf at e
  split at e
  · cases r with
    | ref h1 =>
      split at e
      · rename_i e1
        cases e
        obtain ⟨ys, g, r⟩ := s.obj _ _ _ e1 h1
        exact ⟨_, ys, rfl, g, r⟩
      · cases e
  · cases e
theorem blsOf_at {m : List Addr} {H : Hp} : ∀ {xs : List PV} {vs : List V} {bs : List Bool}, RVs m H xs vs → blsOf xs = some bs → vs = bs.map V.bl
  | _, _, _, .nil, e => by cases e; rfl
  | _, _, bs, .cons (x := x) r t, e => by
    cases r with
    | bl b =>
      simp only [blsOf, Option.map_eq_some_iff] at e
      obtain ⟨r, e1, rfl⟩ := e
      rw [blsOf_at t e1]
      rfl
    | _ => cases e
theorem intsOf_at {m : List Addr} {H : Hp} : ∀ {xs : List PV} {vs : List V} {bs : List Int}, RVs m H xs vs → intsOf xs = some bs → vs = bs.map V.int
  | _, _, _, .nil, e => by cases e; rfl
  | _, _, bs, .cons (x := x) r t, e => by
    cases r with
    | int b =>
      simp only [intsOf, Option.map_eq_some_iff] at e
      obtain ⟨r, e1, rfl⟩ := e
      rw [intsOf_at t e1]
      rfl
    | _ => cases e
theorem bls_at {m : List Addr} {h : HS} {H : Hp} (s : Sim X.K X.mg m h H) {x : PV} {v : V} {bs : List Bool} (r : RV m H x v) (e : (lstOf h x).bind blsOf = some bs) : ∃ a, v = .ref a ∧ SqL X.K H a (bs.map V.bl) := by
  obtain ⟨ys, e1, e2⟩ := Option.bind_eq_some_iff.mp e
  obtain ⟨a, ws, rfl, q, rr⟩ := lstOf_at s r e1
  rw [blsOf_at rr e2] at q
  exact ⟨a, rfl, SqL.of q⟩
theorem ints_at {m : List Addr} {h : HS} {H : Hp} (s : Sim X.K X.mg m h H) {x : PV} {v : V} {bs : List Int} (r : RV m H x v) (e : (lstOf h x).bind intsOf = some bs) : ∃ a, v = .ref a ∧ SqL X.K H a (bs.map V.int) := by
  obtain ⟨ys, e1, e2⟩ := Option.bind_eq_some_iff.mp e
  obtain ⟨a, ws, rfl, q, rr⟩ := lstOf_at s r e1
  rw [intsOf_at rr e2] at q
  exact ⟨a, rfl, SqL.of q⟩
theorem b_all (hc : X.calm = true := by rfl) : CallM X W (.builtin "all") (c1 allV) := by
  refine ⟨_, cr_all hc, fun m h H σ Q xs vs s r o => ?_⟩
  obtain ⟨x, v, rfl, r, o⟩ := c1_out r o
  unfold allV at o
  split at o
  · rename_i bs e
    obtain ⟨a, rfl, q⟩ := bls_at s r e
    exact ⟨a, bs, rfl, q, o_bl s o⟩
  · exact o.elim
theorem b_any (hc : X.calm = true := by rfl) : CallM X W (.builtin "any") (c1 anyV) := by
  refine ⟨_, cr_any hc, fun m h H σ Q xs vs s r o => ?_⟩
  obtain ⟨x, v, rfl, r, o⟩ := c1_out r o
  unfold anyV at o
  split at o
  · rename_i bs e
    obtain ⟨a, rfl, q⟩ := bls_at s r e
    exact ⟨a, bs, rfl, q, o_bl s o⟩
  · exact o.elim
theorem b_sum (hc : X.calm = true := by rfl) : CallM X W (.builtin "sum") (c1 sumV) := by
  refine ⟨_, cr_sum hc, fun m h H σ Q xs vs s r o => ?_⟩
  obtain ⟨x, v, rfl, r, o⟩ := c1_out r o
  unfold sumV at o
  split at o
  · rename_i bs e
    obtain ⟨a, rfl, q⟩ := ints_at s r e
    exact ⟨a, bs, rfl, q, o_int s o⟩
  · exact o.elim
theorem min_eq {ns : List Int} {k : Int} (hn : ns ≠ []) (h1 : k ∈ ns) (h2 : ∀ y ∈ ns, k ≤ y) : k = minL ns := by
  have h := minL_ok ns hn
  have a := h2 _ h.1
  have b := h.2 _ h1
  omega
theorem max_eq {ns : List Int} {k : Int} (hn : ns ≠ []) (h1 : k ∈ ns) (h2 : ∀ y ∈ ns, y ≤ k) : k = maxL ns := by
  have h := maxL_ok ns hn
  have a := h2 _ h.1
  have b := h.2 _ h1
  omega
theorem b_min (hc : X.calm = true := by rfl) : CallM X W (.builtin "min") (c1 minV) := by
  refine ⟨_, cr_min hc, fun m h H σ Q xs vs s r o => ?_⟩
  obtain ⟨x, v, rfl, r, o⟩ := c1_out r o
  unfold minV at o
  split at o
  · rename_i y t e
    obtain ⟨a, rfl, q⟩ := ints_at s r e
    exact ⟨a, y :: t, rfl, q, by simp, fun k h1 h2 => by rw [min_eq (by simp) h1 h2]; exact o_int s o⟩
  · exact o.elim
theorem b_max (hc : X.calm = true := by rfl) : CallM X W (.builtin "max") (c1 maxV) := by
  refine ⟨_, cr_max hc, fun m h H σ Q xs vs s r o => ?_⟩
  obtain ⟨x, v, rfl, r, o⟩ := c1_out r o
  unfold maxV at o
  split at o
  · rename_i y t e
    obtain ⟨a, rfl, q⟩ := ints_at s r e
    exact ⟨a, y :: t, rfl, q, by simp, fun k h1 h2 => by rw [max_eq (by simp) h1 h2]; exact o_int s o⟩
  · exact o.elim
theorem b_min2 (hc : X.calm = true := by rfl) : CallM X W (.builtin "min") (c2 min2V) := by
  refine ⟨_, call_min2 hc, fun m h H σ Q xs vs s r o => ?_⟩
  obtain ⟨x, y, v, w, rfl, r1, r2, o⟩ := c2_out r o
  unfold min2V at o
  split at o
  · cases r1; cases r2
    exact ⟨_, _, rfl, o_int s o⟩
  · exact o.elim
theorem b_max2 (hc : X.calm = true := by rfl) : CallM X W (.builtin "max") (c2 max2V) := by
  refine ⟨_, call_max2 hc, fun m h H σ Q xs vs s r o => ?_⟩
  obtain ⟨x, y, v, w, rfl, r1, r2, o⟩ := c2_out r o
  unfold max2V at o
  split at o
  · cases r1; cases r2
    exact ⟨_, _, rfl, o_int s o⟩
  · exact o.elim
theorem b_abs : CallM X W (.builtin "abs") (c1 absV) := by
  refine ⟨_, call_abs, fun m h H σ Q xs vs s r o => ?_⟩
  obtain ⟨x, v, rfl, r, o⟩ := c1_out r o
  unfold absV at o
  split at o
  · cases r
    exact ⟨_, rfl, o_int s o⟩
  · exact o.elim
theorem b_divmod : CallM X W (.builtin "divmod") (c2 divmodV) := by
  refine ⟨_, call_divmodW, fun m h H σ Q xs vs s r o => ?_⟩
  obtain ⟨x, y, v, w, rfl, r1, r2, o⟩ := c2_out r o
  unfold divmodV at o
  split at o
  · cases r1; cases r2
    split at o
    · rename_i i j hl
      have h3 : j.natAbs < 2 ^ 200 := by
        have := hl.2
        omega
      have h4 : Nat.log2 j.natAbs < 200 := PySem.Flt.log2_lt_of (by decide) h3
      exact ⟨_, _, rfl, ⟨hl.1, PyProof.noPylong_of_log2 (by omega)⟩, fun p hp => new_tup s (.cons (.int _) (.cons (.int _) .nil)) hp o⟩
    · exact o.elim
  · exact o.elim
theorem tag_at {m : List Addr} {h : HS} {H : Hp} (s : Sim X.K X.mg m h H) {x : PV} {v : V} {a : String} (r : RV m H x v) (e : tagOf h x = some a) : TyX X.K H v (.type a) ∧ (a = "NoneType" ∨ a = "bool" ∨ a = "int" ∨ a = "str" ∨ a = "tuple" ∨ a = "list" ∨ a = "dict") := by
  cases r with
  | non => cases e; exact ⟨.base .non, by decide⟩
  | bl b => cases e; exact ⟨.base (.bl b), by decide⟩
  | int b => cases e; exact ⟨.base (.int b), by decide⟩
  | str b => cases e; exact ⟨.base (.str b), by decide⟩
  | tup h1 _ => cases e; exact ⟨.base (.tup h1), by decide⟩
  | ty b => cases e
  | ref h1 =>
    simp only [tagOf] at e
    split at e
    · rename_i e1
      cases e
      obtain ⟨ys, g, r⟩ := s.obj _ _ _ e1 h1
      exact ⟨.base (.lst g), by decide⟩
    · rename_i e1
      cases e
      obtain ⟨ys, g, r⟩ := s.obj _ _ _ e1 h1
      exact ⟨.base (.dK g), by decide⟩
    · cases e
theorem kit_is {K : PySem.W.Frag} {a b : String} (ha : a = "NoneType" ∨ a = "bool" ∨ a = "int" ∨ a = "str" ∨ a = "tuple" ∨ a = "list" ∨ a = "dict") (hb : okTy b = true) : PySem.W.kitOne K (.type a) (.type b) = some (isTy a b) := by
  have hb' : b = "list" ∨ b = "tuple" ∨ b = "int" ∨ b = "bool" ∨ b = "str" ∨ b = "dict" := by simpa [okTy] using hb
  rcases ha with rfl | rfl | rfl | rfl | rfl | rfl | rfl <;> rcases hb' with rfl | rfl | rfl | rfl | rfl | rfl <;> exact kit_ty (by decide +kernel)
theorem kits_is {K : PySem.W.Frag} {a : String} (ha : a = "NoneType" ∨ a = "bool" ∨ a = "int" ∨ a = "str" ∨ a = "tuple" ∨ a = "list" ∨ a = "dict") {m : List Addr} {H : Hp} : ∀ {cs : List PV} {vs : List V} {b : Bool}, RVs m H cs vs → isV1 a cs = some b → ∃ us, Paired ClsV vs us ∧ PySem.W.kitAny K (.type a) us = some b
  | _, _, _, .nil, e => by cases e; exact ⟨[], .nil, kitAny_nil⟩
  | _, _, b, .cons (x := x) r t, e => by
    cases r with
    | ty n =>
      simp only [isV1] at e
      split at e
      · rename_i hk
        have k1 := kit_is (K := K) ha hk
        simp only [Option.map_eq_some_iff] at e
        obtain ⟨b', e', rfl⟩ := e
        obtain ⟨us, h1, h3⟩ := kits_is (K := K) ha t e'
        refine ⟨_ :: us, .cons (.ty n) h1, ?_⟩
        cases hq : isTy a n with
        | true => exact kitAny_cons k1 (fun z => by rw [hq] at z; cases z) fun _ => rfl
        | false => exact kitAny_cons k1 (fun _ => by rw [h3]; rfl) fun z => by rw [hq] at z; cases z
      · cases e
    | _ => cases e
theorem b_isinst : CallM X W (.builtin "isinstance") (c2 isinstV) := by
  refine ⟨_, call_isi.or call_isiT, fun m h H σ Q xs vs s r o => ?_⟩
  obtain ⟨x, y, v, w, rfl, r1, r2, o⟩ := c2_out r o
  unfold isinstV at o
  split at o
  · cases r2
    split at o
    · rename_i a e
      obtain ⟨t1, t2⟩ := tag_at s r1 e
      split at o
      · rename_i hk
        exact .inl ⟨_, _, _, _, _, rfl, .ty _, t1, kit_is t2 hk, o_bl s o⟩
      · exact o.elim
    · exact o.elim
  · cases r2 with
    | tup h1 rr =>
      split at o
      · rename_i a e
        obtain ⟨t1, t2⟩ := tag_at s r1 e
        split at o
        · rename_i b e2
          obtain ⟨us, k1, k2⟩ := kits_is (K := X.K) t2 rr e2
          exact .inr ⟨_, _, _, _, us, b, rfl, h1, k1, t1, k2, o_bl s o⟩
        · exact o.elim
      · exact o.elim
  · exact o.elim
end
end Lt
namespace Lt
open PySem PySem.Spec PyProof.Rows L2
/-! ### subscripts, slices -/
def valP {κ : Type} [DecidableEq κ] (kvs : List (κ × PV)) (k : κ) : Option PV := (kvs.find? fun kv => decide (kv.1 = k)).map (·.2)
def putP {κ : Type} [DecidableEq κ] (kvs : List (κ × PV)) (k : κ) (v : PV) : List (κ × PV) :=
  if (kvs.any fun kv => decide (kv.1 = k)) = true then kvs.map (fun kv => if kv.1 = k then (kv.1, v) else kv) else kvs ++ [(k, v)]
def dropP {κ : Type} [DecidableEq κ] (kvs : List (κ × PV)) (k : κ) : List (κ × PV) := kvs.filter fun kv => decide (kv.1 ≠ k)
@[simp] def keyOf : PV → Option Key
  | .int i => some (.inl i)
  | .str x => some (.inr x)
  | _ => none
@[simp] def dicOf (h : HS) : PV → Option (List (Key × PV))
  | .ref n => match h[n]? with
    | some (.dic kvs) => some kvs
    | _ => none
  | _ => none
section
variable {K : PySem.W.Frag} {mg : Str → Option Value} {m : List Addr} {h : HS} {H : Hp} {κ : Type} [DecidableEq κ]
theorem RKs.val {kvs : List (κ × PV)} {vs : List (κ × V)} (r : RKs m H kvs vs) (k : κ) : (valP kvs k = none ∧ valV vs k = none) ∨ ∃ x v, valP kvs k = some x ∧ valV vs k = some v ∧ RV m H x v := by
  induction r with
  | nil => exact .inl ⟨rfl, rfl⟩
  | @cons k' x v xs ws rx t ih =>
    by_cases e : k' = k
    · exact .inr ⟨x, v, by simp [valP, List.find?_cons, e], by simp [valV, List.find?_cons, e], rx⟩
    · have e1 : valP ((k', x) :: xs) k = valP xs k := by simp [valP, List.find?_cons, e]
      have e2 : valV ((k', v) :: ws) k = valV ws k := by simp [valV, List.find?_cons, e]
      rw [e1, e2]
      exact ih
theorem RKs.any {kvs : List (κ × PV)} {vs : List (κ × V)} (r : RKs m H kvs vs) (k : κ) : (kvs.any fun kv => decide (kv.1 = k)) = vs.any fun kv => decide (kv.1 = k) := by
  induction r with
  | nil => rfl
  | cons rx t ih => simp only [List.any_cons, ih]
theorem RKs.repl {kvs : List (κ × PV)} {vs : List (κ × V)} (r : RKs m H kvs vs) (k : κ) {x : PV} {v : V} (q : RV m H x v) : RKs m H (kvs.map fun kv => if kv.1 = k then (kv.1, x) else kv) (vs.map fun kv => if kv.1 = k then (kv.1, v) else kv) := by
  induction r with
  | nil => exact .nil
  | @cons k' y w xs ws rx t ih =>
    simp only [List.map_cons]
    by_cases e : k' = k
    · simp only [e, if_true]
      exact .cons q ih
    · simp only [e, if_false]
      exact .cons rx ih
theorem RKs.snoc {kvs : List (κ × PV)} {vs : List (κ × V)} (r : RKs m H kvs vs) {k : κ} {x : PV} {v : V} (q : RV m H x v) : RKs m H (kvs ++ [(k, x)]) (vs ++ [(k, v)]) := by
  induction r with
  | nil => exact .cons q .nil
  | cons rx t ih => exact .cons rx ih
theorem RKs.put {kvs : List (κ × PV)} {vs : List (κ × V)} (r : RKs m H kvs vs) (k : κ) {x : PV} {v : V} (q : RV m H x v) : RKs m H (putP kvs k x) (putK vs k v) := by
  unfold putP putK
  rw [r.any k]
  split
  · exact r.repl k q
  · exact r.snoc q
theorem RKs.drop {kvs : List (κ × PV)} {vs : List (κ × V)} (r : RKs m H kvs vs) (k : κ) : RKs m H (dropP kvs k) (dropK vs k) := by
  unfold dropP dropK
  induction r with
  | nil => exact .nil
  | @cons k' y w xs ws rx t ih =>
    simp only [List.filter_cons]
    split
    · exact .cons rx ih
    · exact ih
theorem keyOf_at {x : PV} {v : V} {k : Key} (r : RV m H x v) (e : keyOf x = some k) : v = kV k := by
  cases r <;> (first | (cases e; rfl) | cases e)
theorem dicOf_at (s : Sim K mg m h H) {x : PV} {v : V} {kvs : List (Key × PV)} (r : RV m H x v) (e : dicOf h x = some kvs) : ∃ a vs, v = .ref a ∧ H a = some (.dK vs) ∧ RKs m H kvs vs := by
  unfold dicOf at e
  split at e
  · cases r with
    | ref h1 =>
      split at e
      · rename_i e1
        cases e
        obtain ⟨ys, g, r⟩ := s.obj _ _ _ e1 h1
        exact ⟨_, ys, rfl, g, r⟩
      · cases e
  · cases e
end
theorem refOf_at {K : PySem.W.Frag} {mg : Str → Option Value} {m : List Addr} {h : HS} {H : Hp} (s : Sim K mg m h H) {n : Nat} {a : Addr} {xs : List PV} (g : m[n]? = some a) (e : seqOf h (.ref n) = some xs) : ∃ ys, SqL K H a ys ∧ RVs m H xs ys := by
  simp only [seqOf] at e
  split at e
  · rename_i e1
    cases e
    obtain ⟨ys, q, r⟩ := s.obj _ _ _ e1 g
    exact ⟨ys, SqL.of q, r⟩
  · cases e
theorem RVs.at {m : List Addr} {H : Hp} {xs : List PV} {vs : List V} (r : RVs m H xs vs) {i : Int} {x : PV} (e : atI xs i = some x) : ∃ v, atI vs i = some v ∧ RV m H x v := by
  unfold atI at e ⊢
  obtain ⟨j, e1, e2⟩ := Option.bind_eq_some_iff.mp e
  obtain ⟨v, e3, r3⟩ := r.get e2
  rw [r.length] at e1
  exact ⟨v, by rw [e1]; exact e3, r3⟩
def getV (x y : PV) (h : HS) : R PV := match seqOf h x, y with
  | some xs, .int i => match atI xs i with
    | some v => .ok v h
    | none => .no
  | _, _ => match dicOf h x, keyOf y with
    | some kvs, some k => match valP kvs k with
      | some v => .ok v h
      | none => .no
    | _, _ => match x, y with
      | .str z, .int i => if z.length ≤ 16777216 then (match atI z.cps.toList i with
        | some c => .ok (.str ⟨#[c]⟩) h
        | none => .no) else .no
      | _, _ => .no
@[simp] theorem getV_tup (xs : List PV) (i : Int) (h : HS) : getV (.tup xs) (.int i) h = (match atI xs i with
  | some v => .ok v h
  | none => .no) := rfl
@[simp] theorem getV_str (z : Str) (i : Int) (h : HS) : getV (.str z) (.int i) h = (if z.length ≤ 16777216 then (match atI z.cps.toList i with
  | some c => .ok (.str ⟨#[c]⟩) h
  | none => .no) else .no) := rfl
@[simp] theorem getV_ref (n : Nat) (y : PV) (h : HS) : getV (.ref n) y h = (match seqOf h (.ref n), y with
  | some xs, .int i => (match atI xs i with
    | some v => .ok v h
    | none => .no)
  | _, _ => match dicOf h (.ref n), keyOf y with
    | some kvs, some k => (match valP kvs k with
      | some v => .ok v h
      | none => .no)
    | _, _ => .no) := by
  unfold getV
  rfl
theorem getV_seq {x : PV} {xs : List PV} {h : HS} (i : Int) (e : seqOf h x = some xs) : getV x (.int i) h = (match atI xs i with
  | some v => .ok v h
  | none => .no) := by
  unfold getV
  rw [e]
def cutP (xs : List PV) (lo hi : Option Int) : List PV := (xs.drop (HT.sIx xs.length 0 lo)).take (HT.sIx xs.length xs.length hi - HT.sIx xs.length 0 lo)
theorem RVs.cut {m : List Addr} {H : Hp} {xs : List PV} {vs : List V} (r : RVs m H xs vs) (lo hi : Option Int) : RVs m H (cutP xs lo hi) (cutV vs lo hi) := by
  unfold cutP cutV
  rw [r.length]
  exact (r.drop _).take _
@[simp] def sliceV (x : PV) (lo hi : Option Int) (h : HS) : R PV := match x with
  | .tup xs => .ok (.tup (cutP xs lo hi)) h
  | .str z => if z.length ≤ 16777216 then .ok (.str (cutS z lo hi)) h else .no
  | x => match seqOf h x with
    | some xs => .ok (.ref h.length) (h ++ [.lst (cutP xs lo hi)])
    | none => .no
@[simp] def asI (x : PV) (h : HS) : R (Option Int) := match x with
  | .int i => .ok (some i) h
  | _ => .no
section
variable {X : Cx} {W : WX} {a b o e : Expr} {ma mb mo me : Mi PV} {pos : Pos}
theorem em_ix (hu : X.A.units + 1 < cLine) (ha : PEm X W a ma) (hb : PEm X W b mb) (hs : PlainIx b := by exact fun _ _ => rfl) : PEm X W (.Subscript a b pos) (m2 getV ma mb) := by
  refine wkE (PE.or (pe_ix ix_seq ha hb hs) (pe_dget hu ha hb hs)) fun σ H Q ⟨m, ρ, h, s, rs, oo⟩ => ?_
  -- which of both: by what the subscripted thing comes to
  cases hx : ma ρ h with
  | no =>
    refine .inl ⟨m, ρ, h, s, rs, oo.bind.mono fun x H1 ⟨m1, h1, av, l1, s1, r1, o1⟩ => ?_⟩
    exact ⟨m1, ρ, h1, s1, rs.le l1, False.elim (by have := oo.bind (rel := RV); rw [hx] at this; exact this)⟩
  | ex e' h' =>
    refine .inl ⟨m, ρ, h, s, rs, ?_⟩
    have q := oo
    unfold m2 at q
    rw [hx] at q ⊢
    exact q
  | ok x h1 =>
    have q := oo
    unfold m2 at q
    rw [hx] at q
    cases hy : mb ρ h1 with
    | no =>
      have q' : Out X.K X.mg W RV m H σ Q ((mb ρ h1).bind fun y h2 => getV x y h2) := q
      rw [hy] at q'
      exact q'.elim
    | ex e' h' =>
      refine .inl ⟨m, ρ, h, s, rs, ?_⟩
      rw [hx]
      refine fun m1 H1 v l1 s1 r1 => ⟨m1, ρ, h1, s1, rs.le l1, ?_⟩
      have q' : Out X.K X.mg W RV m H σ Q ((mb ρ h1).bind fun y h2 => getV x y h2) := q
      rw [hy] at q' ⊢
      exact (Out.later (r := R.ex e' h') (α := PV) (rel := RV) q' l1)
    | ok y h2 =>
      have q' : Out X.K X.mg W RV m H σ Q (getV x y h2) := by
        have z : Out X.K X.mg W RV m H σ Q ((mb ρ h1).bind fun y h2 => getV x y h2) := q
        rw [hy] at z
        exact z
      -- the end, from the fact told by values
      have fin : ∀ (t : TE) (g : V → V → Hp → VK → Prop), t = (fun σ H Q => tG X.K X.mg W RV ma σ H fun x H1 => tG X.K X.mg W RV mb σ H1 fun y H2 => g x y H2 Q) →
          (∀ m2 H2 v w, Le m H m2 H2 → Sim X.K X.mg m2 h2 H2 → RV m2 H2 x v → RV m2 H2 y w → g v w H2 Q) → t σ H Q := fun t g et hg => by
        rw [et]
        refine ⟨m, ρ, h, s, rs, ?_⟩
        rw [hx]
        refine fun m1 H1 v l1 s1 r1 => ⟨m1, ρ, h1, s1, rs.le l1, ?_⟩
        rw [hy]
        exact fun m2 H2 w l2 s2 r2 => hg m2 H2 v w (l1.trans l2) s2 (r1.le l2) r2
      unfold getV at q'
      split at q'
      · rename_i xs i e1
        split at q'
        · rename_i v0 e2
          refine .inl (fin _ (rIx X.K) rfl fun m2 H2 v w l2 s2 r1 r2 => ?_)
          obtain ⟨a, ys, rfl, hq, rr⟩ := seqOf_at s2 r1 e1
          obtain ⟨v1, e3, r3⟩ := rr.at e2
          cases r2
          rcases hq with hq | hq
          · exact .inl ⟨a, ys, _, v1, rfl, rfl, hq, e3, q' m2 H2 v1 l2 s2 r3⟩
          · exact .inr (.inl ⟨a, ys, _, v1, rfl, rfl, hq, e3, q' m2 H2 v1 l2 s2 r3⟩)
        · exact q'.elim
      · split at q'
        · rename_i kvs k e1 e2
          split at q'
          · rename_i v0 e3
            refine .inr (fin _ (fun x y H2 Q => ∃ a v, x = .ref a ∧ DGet H2 a y (some v) ∧ Q v H2) rfl fun m2 H2 v w l2 s2 r1 r2 => ?_)
            obtain ⟨a, vs, rfl, hq, rr⟩ := dicOf_at s2 r1 e1
            have ew := keyOf_at r2 e2
            subst ew
            rcases rr.val k with ⟨z, _⟩ | ⟨x', v', f1, f2, r3⟩
            · rw [z] at e3; cases e3
            · rw [f1] at e3
              cases e3
              exact ⟨a, v', rfl, by rw [← f2]; exact DGet.k hq, q' m2 H2 v' l2 s2 r3⟩
          · exact q'.elim
        · split at q'
          · split at q'
            · rename_i hz
              split at q'
              · rename_i c e3
                refine .inl (fin _ (rIx X.K) rfl fun m2 H2 v w l2 s2 r1 r2 => ?_)
                cases r1; cases r2
                exact .inr (.inr ⟨_, _, c, rfl, rfl, by rw [line16]; exact hz, e3, q' m2 H2 _ l2 s2 (.str _)⟩)
              · exact q'.elim
            · exact q'.elim
          · exact q'.elim
theorem om_none : POm X W none (fun _ h => .ok none h) := wkO po_none fun σ H Q ⟨m, ρ, h, s, rs, o⟩ => o m H none .refl s rfl
theorem om_some (ha : PEm X W a ma) : POm X W (some a) (m1 asI ma) := wkO (po_some ha) fun σ H Q ⟨m, ρ, h, s, rs, o⟩ => ⟨m, ρ, h, s, rs, o.bind.mono fun x H1 ⟨m1, h1, av, l1, s1, r1, o1⟩ => by
  unfold asI at o1
  split at o1
  · cases r1
    exact ⟨_, rfl, o1 m1 H1 _ .refl s1 rfl⟩
  · exact o1.elim⟩
theorem em_slice {lo hi : Option Expr} {ml mh : Mi (Option Int)} {p2 : Pos} (ha : PEm X W a ma) (hl : POm X W lo ml) (hh : POm X W hi mh) : PEm X W (.Subscript a (.Slice lo hi none p2) pos) (m3 sliceV ma ml mh) :=
  wkE (pe_slice (sl_list.or (sl_tupA.or sl_str)) ha hl hh) fun σ H Q ⟨m, ρ, h, s, rs, o⟩ => ⟨m, ρ, h, s, rs, o.bind.mono fun x H1 ⟨m1, h1, av, l1, s1, r1, o1⟩ => ⟨m1, ρ, h1, s1, rs.le l1, o1.bind.mono fun y H2 ⟨m2, h2, bv, l2, s2, r2, o2⟩ => ⟨m2, ρ, h2, s2, (rs.le l1).le l2, o2.bind.mono fun z H3 ⟨m3, h3, cv, l3, s3, r3, o3⟩ => by
    cases r2
    cases r3
    have r1' := (r1.le l2).le l3
    unfold sliceV at o3
    split at o3
    · cases r1' with
      | tup g rr =>
        refine .inr (.inl ⟨_, _, rfl, SqT.of g, fun hw => ?_, fun hw p hp => new_tup s3 (rr.cut _ _) hp o3⟩)
        rw [← rr.length] at hw
        rw [show cutP _ y z = _ from by unfold cutP; rw [hw.1, hw.2, Nat.sub_zero, List.drop_zero, List.take_length]] at o3
        exact o3 m3 H3 _ .refl s3 (.tup g rr)
    · cases r1'
      split at o3
      · rename_i hz
        exact .inr (.inr ⟨_, rfl, by rw [line16]; exact hz, o_str s3 o3⟩)
      · exact o3.elim
    · rename_i nt _
      split at o3
      · rename_i xs e1
        cases r1' with
        | ref g =>
          obtain ⟨ys, hq, rr⟩ := refOf_at s3 g e1
          exact .inl ⟨_, _, rfl, hq, fun p hp => new_lst s3 (rr.cut _ _) hp o3⟩
        | tup g rr2 => exact absurd rfl (nt _)
        | _ => cases e1
      · exact o3.elim⟩⟩⟩
end
end Lt
namespace Lt
open PySem PySem.Spec PyProof.Rows L2
/-! ### statements -/
inductive SR where
  | nx (ρ : Pn) (h : HS) | rt (v : PV) (h : HS) | bk (ρ : Pn) (h : HS) | ct (ρ : Pn) (h : HS) | ex (e : PX) (ρ : Pn) (h : HS) | no
abbrev Ms := Pn → HS → SR
def OutS (K : PySem.W.Frag) (mg : Str → Option Value) (W : WX) (m : List Addr) (H : Hp) (D : Ends) : SR → Prop
  | .nx ρ h => ∀ m' H' σ', Le m H m' H' → Sim K mg m' h H' → RS m' H' ρ σ' → D.nx σ' H'
  | .rt v h => ∀ m' H' w, Le m H m' H' → Sim K mg m' h H' → RV m' H' v w → D.rt w H'
  | .bk ρ h => ∀ m' H' σ', Le m H m' H' → Sim K mg m' h H' → RS m' H' ρ σ' → D.bk σ' H'
  | .ct ρ h => ∀ m' H' σ', Le m H m' H' → Sim K mg m' h H' → RS m' H' ρ σ' → D.ct σ' H'
  | .ex e ρ h => ∀ m' H' σ' cls d, Le m H m' H' → Sim K mg m' h H' → RS m' H' ρ σ' → RX mg m' H' e cls d → W cls d σ' H'
  | .no => False
def tMS (K : PySem.W.Frag) (mg : Str → Option Value) (W : WX) (f : Ms) : TS := fun D σ H => ∃ m ρ h, Sim K mg m h H ∧ RS m H ρ σ ∧ OutS K mg W m H D (f ρ h)
abbrev PSm (X : Cx) (W : WX) (st : Stmt) (f : Ms) : Prop := PS X st (tMS X.K X.mg W f)
abbrev PSsm (X : Cx) (W : WX) (st : List Stmt) (f : Ms) : Prop := PSs X st (tMS X.K X.mg W f)
/-- an expression's outcome, and what a statement does with it -/
def R.bindS {α : Type} (r : R α) (ρ : Pn) (f : α → HS → SR) : SR := match r with
  | .ok a h => f a h
  | .ex e h => .ex e ρ h
  | .no => .no
def R.thenS {α : Type} (r : R α) (f : α → HS → SR) : SR := match r with
  | .ok a h => f a h
  | _ => .no
def SR.seq (r : SR) (b : Ms) : SR := match r with
  | .nx ρ' h' => b ρ' h'
  | r => r
/-- a turn's end: on, or out -/
def SR.loop (r : SR) (k : Ms) : SR := match r with
  | .nx ρ h => k ρ h
  | .ct ρ h => k ρ h
  | .bk ρ h => .nx ρ h
  | .rt v h => .rt v h
  | .ex e ρ h => .ex e ρ h
  | .no => .no
section
variable {α : Type}
@[simp] theorem R.bindS_ok (a : α) (h : HS) (ρ : Pn) (f : α → HS → SR) : (R.ok a h).bindS ρ f = f a h := rfl
@[simp] theorem R.bindS_ex (a : PX) (h : HS) (ρ : Pn) (f : α → HS → SR) : (R.ex a h).bindS ρ f = .ex a ρ h := rfl
@[simp] theorem R.bindS_no (ρ : Pn) (f : α → HS → SR) : (R.no).bindS ρ f = .no := rfl
@[simp] theorem R.bindS_ite {c : Prop} [Decidable c] (a b : R α) (ρ : Pn) (f : α → HS → SR) : (if c then a else b).bindS ρ f = if c then a.bindS ρ f else b.bindS ρ f := by split <;> rfl
@[simp] theorem R.thenS_ok (a : α) (h : HS) (f : α → HS → SR) : (R.ok a h).thenS f = f a h := rfl
@[simp] theorem R.thenS_ex (a : PX) (h : HS) (f : α → HS → SR) : (R.ex a h).thenS f = .no := rfl
@[simp] theorem R.thenS_no (f : α → HS → SR) : (R.no).thenS f = .no := rfl
@[simp] theorem R.thenS_ite {c : Prop} [Decidable c] (a b : R α) (f : α → HS → SR) : (if c then a else b).thenS f = if c then a.thenS f else b.thenS f := by split <;> rfl
end
@[simp] theorem SR.seq_nx (ρ : Pn) (h : HS) (b : Ms) : (SR.nx ρ h).seq b = b ρ h := rfl
@[simp] theorem SR.seq_rt (v : PV) (h : HS) (b : Ms) : (SR.rt v h).seq b = .rt v h := rfl
@[simp] theorem SR.seq_bk (ρ : Pn) (h : HS) (b : Ms) : (SR.bk ρ h).seq b = .bk ρ h := rfl
@[simp] theorem SR.seq_ct (ρ : Pn) (h : HS) (b : Ms) : (SR.ct ρ h).seq b = .ct ρ h := rfl
@[simp] theorem SR.seq_ex (e : PX) (ρ : Pn) (h : HS) (b : Ms) : (SR.ex e ρ h).seq b = .ex e ρ h := rfl
@[simp] theorem SR.seq_no (b : Ms) : (SR.no).seq b = .no := rfl
@[simp] theorem SR.seq_ite {c : Prop} [Decidable c] (r s : SR) (b : Ms) : (if c then r else s).seq b = if c then r.seq b else s.seq b := by split <;> rfl
@[simp] theorem SR.loop_nx (ρ : Pn) (h : HS) (b : Ms) : (SR.nx ρ h).loop b = b ρ h := rfl
@[simp] theorem SR.loop_rt (v : PV) (h : HS) (b : Ms) : (SR.rt v h).loop b = .rt v h := rfl
@[simp] theorem SR.loop_bk (ρ : Pn) (h : HS) (b : Ms) : (SR.bk ρ h).loop b = .nx ρ h := rfl
@[simp] theorem SR.loop_ct (ρ : Pn) (h : HS) (b : Ms) : (SR.ct ρ h).loop b = b ρ h := rfl
@[simp] theorem SR.loop_ex (e : PX) (ρ : Pn) (h : HS) (b : Ms) : (SR.ex e ρ h).loop b = .ex e ρ h := rfl
@[simp] theorem SR.loop_no (b : Ms) : (SR.no).loop b = .no := rfl
@[simp] theorem SR.loop_ite {c : Prop} [Decidable c] (r s : SR) (b : Ms) : (if c then r else s).loop b = if c then r.loop b else s.loop b := by split <;> rfl
def mSeq (a b : Ms) (ρ : Pn) (h : HS) : SR := (a ρ h).seq b
@[simp] def mSkip (ρ : Pn) (h : HS) : SR := .nx ρ h
def mRet (a : Mi PV) (ρ : Pn) (h : HS) : SR := (a ρ h).bindS ρ fun v h1 => .rt v h1
def mDrop (a : Mi PV) (ρ : Pn) (h : HS) : SR := (a ρ h).bindS ρ fun _ h1 => .nx ρ h1
def mIfS (t : Mi Bool) (a b : Ms) (ρ : Pn) (h : HS) : SR := (t ρ h).bindS ρ fun c h1 => if c = true then a ρ h1 else b ρ h1
@[simp] def mBrk (ρ : Pn) (h : HS) : SR := .bk ρ h
@[simp] def mCnt (ρ : Pn) (h : HS) : SR := .ct ρ h
section
variable {X : Cx} {W : WX} {K : PySem.W.Frag} {mg : Str → Option Value} {m m1 : List Addr} {H H1 : Hp} {σ : St} {D D' : Ends} {h : HS} {ρ : Pn}
theorem OutS.later {r : SR} (o : OutS K mg W m H D r) (l : Le m H m1 H1) : OutS K mg W m1 H1 D r := by
  cases r with
  | nx ρ h' => exact fun m' H' b l' s q => o m' H' b (l.trans l') s q
  | rt ρ h' => exact fun m' H' b l' s q => o m' H' b (l.trans l') s q
  | bk ρ h' => exact fun m' H' b l' s q => o m' H' b (l.trans l') s q
  | ct ρ h' => exact fun m' H' b l' s q => o m' H' b (l.trans l') s q
  | ex e ρ h' => exact fun m' H' b c d l' s q => o m' H' b c d (l.trans l') s q
  | no => exact o
theorem OutS.bind {α β : Type} {rel : Rl α β} {r : R α} {f : α → HS → SR} (rs : RS m H ρ σ) (o : OutS K mg W m H D (r.bindS ρ f)) :
    Out K mg W rel m H σ (fun b H1 => ∃ m1 h1 a, Le m H m1 H1 ∧ Sim K mg m1 h1 H1 ∧ rel m1 H1 a b ∧ OutS K mg W m1 H1 D (f a h1)) r := by
  cases r with
  | ok a h' =>
    have o' : OutS K mg W m H D (f a h') := o
    exact fun m' H' b l s q => ⟨m', h', a, l, s, q, o'.later l⟩
  | ex e h' => exact fun m' H' c d l s q => o m' H' σ c d l s (rs.le l) q
  | no => exact o
variable {st : Stmt} {rest : List Stmt} {f g : Ms} {e c : Expr} {me : Mi PV} {mc : Mi Bool} {pos : Pos}
theorem sm_nil : PSsm X W [] mSkip := wkSs pss_nil fun D σ H ⟨m, ρ, h, s, rs, o⟩ => o m H σ .refl s rs
theorem sm_cons (h1 : PSm X W st f) (h2 : PSsm X W rest g) : PSsm X W (st :: rest) (mSeq f g) :=
  wkSs (pss_cons h1 h2) fun D σ H ⟨m, ρ, h, s, rs, o⟩ => ⟨m, ρ, h, s, rs, by
    have o' : OutS X.K X.mg W m H D (match f ρ h with
      | .nx ρ' h' => g ρ' h'
      | r => r) := o
    cases hf : f ρ h with
    | nx ρ' h' =>
      rw [hf] at o'
      exact fun m' H' σ' l s' rs' => ⟨m', ρ', h', s', rs', OutS.later o' l⟩
    | rt v h' => rw [hf] at o'; exact o'
    | bk ρ' h' => rw [hf] at o'; exact o'
    | ct ρ' h' => rw [hf] at o'; exact o'
    | ex e ρ' h' => rw [hf] at o'; exact o'
    | no => rw [hf] at o'; exact o'⟩
theorem sm_one (h1 : PSm X W st f) : PSsm X W [st] f := pss_one h1
theorem sm_pass : PSm X W (.Pass pos) mSkip := wkS ps_pass fun D σ H ⟨m, ρ, h, s, rs, o⟩ => o m H σ .refl s rs
theorem sm_break : PSm X W (.Break pos) mBrk := wkS ps_break fun D σ H ⟨m, ρ, h, s, rs, o⟩ => o m H σ .refl s rs
theorem sm_cont : PSm X W (.Continue pos) mCnt := wkS ps_continue fun D σ H ⟨m, ρ, h, s, rs, o⟩ => o m H σ .refl s rs
theorem sm_ret (he : PEm X W e me) : PSm X W (.Return (some e) pos) (mRet me) :=
  wkS (ps_ret he) fun D σ H ⟨m, ρ, h, s, rs, o⟩ => ⟨m, ρ, h, s, rs, (OutS.bind rs o).mono fun v H1 ⟨m1, h1, a, l1, s1, r1, o1⟩ => o1 m1 H1 v .refl s1 r1⟩
theorem sm_retN : PSm X W (.Return none pos) (mRet (mC .non)) := wkS ps_retN fun D σ H ⟨m, ρ, h, s, rs, o⟩ => o m H .non .refl s .non
theorem sm_expr (he : PEm X W e me) (hs : swapsWith e none pos.line X.env = pure false := by rfl) : PSm X W (.Expr e pos) (mDrop me) :=
  wkS (ps_expr he hs) fun D σ H ⟨m, ρ, h, s, rs, o⟩ => ⟨m, ρ, h, s, rs, (OutS.bind rs o).mono fun v H1 ⟨m1, h1, a, l1, s1, r1, o1⟩ => o1 m1 H1 σ .refl s1 (rs.le l1)⟩
theorem sm_if {a b : List Stmt} (hc : PTm X W c mc) (ha : PSsm X W a f) (hb : PSsm X W b g) : PSm X W (.If c a b pos) (mIfS mc f g) :=
  wkS (ps_if hc ha hb) fun D σ H ⟨m, ρ, h, s, rs, o⟩ => ⟨m, ρ, h, s, rs, (OutS.bind rs o).mono fun v H1 ⟨m1, h1, a, l1, s1, r1, o1⟩ => by
    cases r1
    cases v with
    | true => exact ⟨m1, ρ, h1, s1, rs.le l1, o1⟩
    | false => exact ⟨m1, ρ, h1, s1, rs.le l1, o1⟩⟩
end
/-! ### targets -/
def OutG (K : PySem.W.Frag) (mg : Str → Option Value) (W : WX) (is : List Nat) (m : List Addr) (H : Hp) (σ : St) (Q : St → Hp → Prop) : R Pn → Prop
  | .ok ρ h => ∀ m' H' σ', Le m H m' H' → Sim K mg m' h H' → RS m' H' ρ σ' → (σ'.length = σ.length ∧ ∀ j, j ∉ is → σ'[j]? = σ[j]?) → Q σ' H'
  | .ex _ _ => False
  | .no => False
abbrev Mg := PV → Pn → HS → R Pn
def tMG (K : PySem.W.Frag) (mg : Str → Option Value) (W : WX) (is : List Nat) (g : Mg) : TG := fun v σ H Q => ∃ m ρ h x, Sim K mg m h H ∧ RS m H ρ σ ∧ RV m H x v ∧ OutG K mg W is m H σ Q (g x ρ h)
abbrev PGm (X : Cx) (W : WX) (is : List Nat) (tg : Expr) (g : Mg) : Prop := PG X tg (tMG X.K X.mg W is g)
def R.thenR {α β : Type} (r : R α) (f : α → HS → R β) : R β := match r with
  | .ok a h => f a h
  | _ => .no
@[simp] theorem R.thenR_ok {α β : Type} (a : α) (h : HS) (f : α → HS → R β) : (R.ok a h).thenR f = f a h := rfl
@[simp] theorem R.thenR_ex {α β : Type} (a : PX) (h : HS) (f : α → HS → R β) : (R.ex a h).thenR f = .no := rfl
@[simp] theorem R.thenR_no {α β : Type} (f : α → HS → R β) : (R.no).thenR f = .no := rfl
@[simp] theorem R.thenR_ite {α β : Type} {c : Prop} [Decidable c] (a b : R α) (f : α → HS → R β) : (if c then a else b).thenR f = if c then a.thenR f else b.thenR f := by split <;> rfl
abbrev Mgs := List PV → Pn → HS → R Pn
def tMGs (K : PySem.W.Frag) (mg : Str → Option Value) (W : WX) (is : List Nat) (g : Mgs) : TGs := fun v σ H Q => ∃ m ρ h x, Sim K mg m h H ∧ RS m H ρ σ ∧ RVs m H x v ∧ OutG K mg W is m H σ Q (g x ρ h)
abbrev PGsm (X : Cx) (W : WX) (is : List Nat) (tg : List Expr) (g : Mgs) : Prop := PGs X tg (tMGs X.K X.mg W is g)
@[simp] def gNm (i : Nat) (v : PV) (ρ : Pn) (h : HS) : R Pn := .ok (ρ.set i (some v)) h
@[simp] def gN0 (vs : List PV) (ρ : Pn) (h : HS) : R Pn := match vs with
  | [] => .ok ρ h
  | _ => .no
def gC (g : Mg) (gs : Mgs) (vs : List PV) (ρ : Pn) (h : HS) : R Pn := match vs with
  | [] => .no
  | v :: r => (g v ρ h).thenR fun ρ' h' => gs r ρ' h'
@[simp] def gTp (n : Nat) (gs : Mgs) (v : PV) (ρ : Pn) (h : HS) : R Pn := match seqOf h v with
  | some xs => if xs.length = n then gs xs ρ h else .no
  | none => .no
section
variable {X : Cx} {W : WX} {K : PySem.W.Frag} {mg : Str → Option Value} {m m1 : List Addr} {H H1 : Hp} {σ : St} {h : HS} {ρ : Pn} {is js : List Nat} {pos : Pos} {Q : St → Hp → Prop}
theorem OutG.later {r : R Pn} (o : OutG K mg W is m H σ Q r) (l : Le m H m1 H1) : OutG K mg W is m1 H1 σ Q r := by
  cases r with
  | ok ρ h' => exact fun m' H' b l' s q => o m' H' b (l.trans l') s q
  | ex e h' => exact o
  | no => exact o
theorem wkG {tg : Expr} {t t' : TG} (h : PG X tg t) (k : ∀ v σ H Q, t' v σ H Q → t v σ H Q) : PG X tg t' := ⟨fun pins s σ H v u Q I r q => h.run pins s σ H v u Q I r (k v σ H Q q)⟩
theorem wkGs {tg : List Expr} {t t' : TGs} (h : PGs X tg t) (k : ∀ v σ H Q, t' v σ H Q → t v σ H Q) : PGs X tg t' := ⟨fun pins s σ H v u Q I r q => h.run pins s σ H v u Q I r (k v σ H Q q)⟩
theorem PG.or {tg : Expr} {t t' : TG} (h : PG X tg t) (h' : PG X tg t') : PG X tg (fun v σ H Q => t v σ H Q ∨ t' v σ H Q) := ⟨fun pins s σ H v u Q I r q => q.elim (h.run pins s σ H v u Q I r) (h'.run pins s σ H v u Q I r)⟩
theorem gm_name {i : Nat} {x : Str} (hN : X.N.Nodup) (hi : X.N[i]? = some x := by rfl) (hx : Loc X.env.scope x := by first | exact Or.inl rfl | exact Or.inr rfl) (hf : X.fn x = true ∨ X.env.scope.names.lookup x = some .local := by first | exact .inl rfl | exact .inr rfl | assumption) : PGm X W [i] (.Name x pos) (gNm i) :=
  wkG (pg_name hN hi hx hf) fun v σ H Q ⟨m, ρ, h, x, s, rs, r, o⟩ => o m H _ .refl s (rs.set (.val r) i) ⟨by simp, fun j hj => by rw [List.getElem?_set_ne fun z => hj (by simp [z])]⟩
theorem gm_nil : PGsm X W [] [] gN0 := wkGs pgs_nil fun v σ H Q ⟨m, ρ, h, x, s, rs, r, o⟩ => by
  unfold gN0 at o
  split at o
  · cases r
    exact ⟨rfl, o m H σ .refl s rs ⟨rfl, fun _ _ => rfl⟩⟩
  · exact o.elim
theorem gm_cons {t : Expr} {ts : List Expr} {g : Mg} {gs : Mgs} (h1 : PGm X W is t g) (h2 : PGsm X W js ts gs) (hs : (assignEach (t :: ts) X.env).map (·.2) = assign t X.env :: (assignEach ts X.env).map (·.2) := by rfl) : PGsm X W (is ++ js) (t :: ts) (gC g gs) :=
  wkGs (pgs_cons h1 h2 hs) fun v σ H Q ⟨m, ρ, h, x, s, rs, r, o⟩ => by
    cases r with
    | nil => exact o.elim
    | cons r t =>
      refine ⟨_, _, rfl, m, ρ, h, _, s, rs, r, ?_⟩
      simp only [gC] at o
      cases e : g _ ρ h with
      | ok ρ' h' =>
        rw [e] at o
        simp only [R.thenR_ok] at o
        refine fun m' H' σ' l' s' rs' q' => ⟨m', ρ', h', _, s', rs', t.le l', ?_⟩
        have o' := o.later l'
        generalize gs _ ρ' h' = rr at o' ⊢
        cases rr with
        | ok ρ2 h2 => exact fun m2 H2 σ2 l2 s2 rs2 q2 => o' m2 H2 σ2 l2 s2 rs2 ⟨q2.1.trans q'.1, fun j hj => (q2.2 j fun z => hj (List.mem_append_right _ z)).trans (q'.2 j fun z => hj (List.mem_append_left _ z))⟩
        | ex e h2 => exact o'
        | no => exact o'
      | ex _ _ => rw [e] at o; exact o.elim
      | no => rw [e] at o; exact o.elim
theorem gm_tup {es : List Expr} {k : Nat} {gs : Mgs} {n : Nat} (h : PGsm X W is es gs) (hc : X.calm = true := by rfl) (hn : (assignEach es X.env).length = n := by rfl) (hst : (assignEach es X.env).findIdx? (·.1) = none := by rfl) : PGm X W is (.Tuple es k pos) (gTp n gs) :=
  wkG (PG.or (pg_tup hc h hn hst) (pg_lst hc h hn hst)) fun v σ H Q ⟨m, ρ, h, x, s, rs, r, o⟩ => by
    unfold gTp at o
    split at o
    · rename_i xs e
      split at o
      · rename_i hl
        obtain ⟨a, ys, rfl, q, rr⟩ := seqOf_at s r e
        rcases q with q | q
        · exact .inr ⟨a, ys, rfl, q, by rw [← rr.length]; exact hl, m, ρ, h, xs, s, rs, rr, o⟩
        · exact .inl ⟨a, ys, rfl, q, by rw [← rr.length]; exact hl, m, ρ, h, xs, s, rs, rr, o⟩
      · exact o.elim
    · exact o.elim
/-- o[i] = v -/
@[simp] def setV (x y v : PV) (h : HS) : Option HS := match x with
  | .ref n => match h[n]?, y with
    | some (.lst xs), .int k => (ixN xs.length k).map fun j => h.set n (.lst (xs.set j v))
    | some (.dic kvs), y => match keyOf y with
      | some k => if kvs.length < 16777216 then some (h.set n (.dic (putP kvs k v))) else none
      | none => none
    | _, _ => none
  | _ => none
theorem PSet.or {t t' : TSet} (h : PSet X t) (h' : PSet X t') : PSet X (fun o i v H Q => t o i v H Q ∨ t' o i v H Q) := fun pins s σ H o i v ov iv u Q I ro ri rv q => q.elim (h pins s σ H o i v ov iv u Q I ro ri rv) (h' pins s σ H o i v ov iv u Q I ro ri rv)
theorem put_at {K : PySem.W.Frag} {mg : Str → Option Value} {m : List Addr} {h : HS} {H : Hp} (s : Sim K mg m h H) {n : Nat} {a : Addr} {q o : HB} (e : h[n]? = some o) (ea : m[n]? = some a) (x : HO) (r : RO K mg m (upd H a x) a q) : Sim K mg m (h.set n q) (upd H a x) ∧ Le m H m (upd H a x) := by
  obtain ⟨u, e1, mu⟩ := (s.obj n o a e ea).some
  exact ⟨s.put e ea r, le_put ea e1 mu⟩
theorem setV_out {x y v : PV} {xv yv vv : V} {h' : HS} (s : Sim X.K X.mg m h H) (rx : RV m H x xv) (ry : RV m H y yv) (rv : RV m H v vv) (e : setV x y v h = some h') {Q : Hp → Prop} (o : ∀ H', Le m H m H' → Sim X.K X.mg m h' H' → Q H') : rSetL xv yv vv H Q ∨ rSetD xv yv vv H Q := by
  unfold setV at e
  split at e
  · cases rx with
    | ref h1 =>
      split at e
      · rename_i xs k e1
        cases ry
        obtain ⟨j, ej, rfl⟩ := Option.map_eq_some_iff.mp e
        obtain ⟨ys, g, r⟩ := s.obj _ _ _ e1 h1
        have l : Le m H m (upd H _ (.lst (ys.set j vv))) := le_put h1 g trivial
        exact .inl ⟨_, ys, k, j, rfl, rfl, g, by rw [← r.length]; exact ej, o _ l (s.put e1 h1 ⟨_, upd_same, (r.set rv j).le l⟩)⟩
      · rename_i kvs y' e1
        split at e
        · rename_i k ek
          split at e
          · rename_i hl
            cases e
            obtain ⟨vs, g, r⟩ := s.obj _ _ _ e1 h1
            have ey := keyOf_at ry ek
            subst ey
            have l : Le m H m (upd H _ (.dK (putK vs k vv))) := le_put h1 g trivial
            exact .inr ⟨_, _, rfl, DPut.k g (by rw [line16, ← r.length]; exact hl), o _ l (s.put e1 h1 ⟨_, upd_same, (r.put k rv).le l⟩)⟩
          · cases e
        · cases e
      · cases e
  · cases e
def gSb (a b : Mi PV) (v : PV) (ρ : Pn) (h : HS) : R Pn := (a ρ h).thenR fun x h1 => (b ρ h1).thenR fun y h2 => match setV x y v h2 with
  | some h3 => .ok ρ h3
  | none => .no
theorem gm_sub {o i : Expr} {ma mb : Mi PV} (hu : X.A.units + 1 < cLine) (ho : PEm X W o ma) (hi : PEm X W i mb)
    (ha : ∀ v, assign (.Subscript o i pos) X.env v = (do
      let ov ← holding [v] (eval o X.env)
      let iv ← holding [v, ov] (eval i X.env)
      standAt pos
      holding [v, ov, iv] (setItem ov iv v)
      release [v, ov, iv] []) := by intro _; rfl) : PGm X W [] (.Subscript o i pos) (gSb ma mb) :=
  wkG (pg_sub ho hi (PSet.or set_list (set_dict hu)) ha) fun v σ H Q ⟨m, ρ, h, x, s, rs, r, o⟩ => by
    unfold gSb at o
    refine ⟨m, ρ, h, s, rs, ?_⟩
    cases e1 : ma ρ h with
    | ok x1 h1 =>
      rw [e1] at o
      refine fun m1 H1 v1 l1 s1 r1 => ⟨m1, ρ, h1, s1, rs.le l1, ?_⟩
      simp only [R.thenR_ok] at o
      cases e2 : mb ρ h1 with
      | ok y1 h2 =>
        rw [e2] at o
        refine fun m2 H2 v2 l2 s2 r2 => ?_
        simp only [R.thenR_ok] at o
        split at o
        · rename_i h3 e3
          exact setV_out s2 (r1.le l2) r2 ((r.le l1).le l2) e3 fun H' l3 s3 => o m2 H' σ ((l1.trans l2).trans l3) s3 ((rs.le (l1.trans l2)).le l3) ⟨rfl, fun _ _ => rfl⟩
        · exact o.elim
      | ex _ _ => rw [e2] at o; exact o.elim
      | no => rw [e2] at o; exact o.elim
    | ex _ _ => rw [e1] at o; exact o.elim
    | no => rw [e1] at o; exact o.elim
/-! ### assignments -/
def mAsg (a : Mi PV) (g : Mg) (ρ : Pn) (h : HS) : SR := (a ρ h).bindS ρ fun v h1 => (g v ρ h1).thenS .nx
variable {e tg : Expr} {me : Mi PV} {g : Mg}
theorem asg_out {D : Ends} {v : PV} {w : V} (s : Sim K mg m h H) (rs : RS m H ρ σ) (r : RV m H v w) (o : OutS K mg W m H D ((g v ρ h).thenS .nx)) : tMG K mg W is g w σ H D.nx := by
  refine ⟨m, ρ, h, v, s, rs, r, ?_⟩
  cases e2 : g v ρ h with
  | ok ρ2 h2 =>
    rw [e2] at o
    exact fun m' H' σ' l s' rs' _ => o m' H' σ' l s' rs'
  | ex _ _ => rw [e2] at o; exact o.elim
  | no => rw [e2] at o; exact o.elim
theorem sm_asg (he : PEm X W e me) (hg : PGm X W is tg g) (hs : swapsWithSole [tg] e pos.line X.env = pure false := by rfl) (hw : swappedStores [tg] e X.env = pure none := by rfl)
    (h1 : (assignEach [tg] X.env).map (·.2) = [assign tg X.env] := by rfl) : PSm X W (.Assign [tg] e pos) (mAsg me g) :=
  wkS (ps_asg he hg hs hw h1) fun D σ H ⟨m, ρ, h, s, rs, o⟩ => ⟨m, ρ, h, s, rs, (OutS.bind rs o).mono fun v H1 ⟨m1, h1, a, l1, s1, r1, o1⟩ => asg_out s1 (rs.le l1) r1 o1⟩
theorem sm_set {i : Nat} {x : Str} {p : Pos} (hN : X.N.Nodup) (he : PEm X W e me) (hi : X.N[i]? = some x := by rfl) (hx : Loc X.env.scope x := by first | exact Or.inl rfl | exact Or.inr rfl) (hs : swapsWith e (some (.Name x p)) pos.line X.env = pure false := by rfl) (hf : X.fn x = true ∨ X.env.scope.names.lookup x = some .local := by first | exact .inl rfl | exact .inr rfl | assumption) : PSm X W (.Assign [.Name x p] e pos) (mAsg me (gNm i)) :=
  wkS (ps_set hN hi hx he hs hf) fun D σ H ⟨m, ρ, h, s, rs, o⟩ => ⟨m, ρ, h, s, rs, (OutS.bind rs o).mono fun v H1 ⟨m1, h1, a, l1, s1, r1, o1⟩ => by
    have o2 : OutS X.K X.mg W m1 H1 D (.nx (ρ.set i (some a)) h1) := o1
    exact o2 m1 H1 _ .refl s1 ((rs.le l1).set (.val r1) i)⟩
end
end Lt
namespace Lt
open PySem PySem.Spec PyProof.Rows L2
/-! ### what is walked -/
structure Src where
  items : List PV
  guard : HS → Prop
def RI (K : PySem.W.Frag) (mg : Str → Option Value) : Rl Src It := fun m H src J => ∀ (i : Nat) (m1 : List Addr) (h1 : HS) (H1 : Hp), Le m H m1 H1 → Sim K mg m1 h1 H1 → src.guard h1 →
  (∀ x, src.items[i]? = some x → J.go i H1 ∧ ∀ v H', J.yld i H1 v H' → Le m1 H1 m1 H' ∧ Sim K mg m1 h1 H' ∧ RV m1 H' x v) ∧ (i = src.items.length → J.stop i H1)
abbrev PIm (X : Cx) (W : WX) (tg e : Expr) (f : Mi Src) : Prop := PI X tg e (tG X.K X.mg W (RI X.K X.mg) f)
open Classical in
noncomputable def forGo (guard : HS → Prop) (g : Mg) (b : Ms) : List PV → Ms
  | [], ρ, h => if guard h then .nx ρ h else .no
  | x :: xs, ρ, h => if guard h then ((g x ρ h).thenS fun ρ1 h1 => (b ρ1 h1).loop (forGo guard g b xs)) else .no
theorem forGo_nil {guard : HS → Prop} {g : Mg} {b : Ms} {ρ : Pn} {h : HS} (hg : guard h) : forGo guard g b [] ρ h = .nx ρ h := by
  unfold forGo
  rw [if_pos hg]
theorem forGo_cons {guard : HS → Prop} {g : Mg} {b : Ms} {x : PV} {xs : List PV} {ρ : Pn} {h : HS} (hg : guard h) : forGo guard g b (x :: xs) ρ h = (g x ρ h).thenS fun ρ1 h1 => (b ρ1 h1).loop (forGo guard g b xs) := by
  conv => lhs; unfold forGo
  rw [if_pos hg]
noncomputable def mFor (it : Mi Src) (g : Mg) (b : Ms) (ρ : Pn) (h : HS) : SR := (it ρ h).bindS ρ fun src h1 => forGo src.guard g b src.items ρ h1
section
variable {X : Cx} {W : WX} {m : List Addr} {H : Hp} {σ : St} {h : HS} {ρ : Pn} {is : List Nat} {pos : Pos} {tg e : Expr} {me : Mi PV} {mi : Mi Src} {g : Mg} {b : Ms} {body : List Stmt}
theorem sm_for (hp : PassesOwn (model X.prog X.w) X.A X.env X.xe) (hi : PIm X W tg e mi) (hg : PGm X W is tg g) (hb : PSsm X W body b) (hc : X.calm = true := by rfl)
    (hs : ∀ x, foldedSetIterable e X.env x = pure x := by intro _; rfl) : PSm X W (.For tg e body [] pos) (mFor mi g b) := by
  refine wkS (ps_for hp hc hi hg hb hs) fun D σ H ⟨m, ρ, h, s, rs, o⟩ => ⟨m, ρ, h, s, rs, (OutS.bind rs o).mono fun J H1 ⟨m1, h1, src, l1, s1, r1, o1⟩ => ?_⟩
  refine ⟨fun i k σ2 H2 => k = src.items.length - i ∧ i ≤ src.items.length ∧ ∃ m2 ρ2 h2, Le m1 H1 m2 H2 ∧ Sim X.K X.mg m2 h2 H2 ∧ RS m2 H2 ρ2 σ2 ∧ OutS X.K X.mg W m2 H2 D (forGo src.guard g b (src.items.drop i) ρ2 h2),
    ⟨src.items.length, rfl, Nat.zero_le _, m1, ρ, h1, .refl, s1, rs.le l1, o1⟩, ?_⟩
  rintro i k σ2 H2 ⟨rfl, hle, m2, ρ2, h2, l2, s2, rs2, o2⟩
  by_cases hlt : i < src.items.length
  · rw [List.drop_eq_getElem_cons hlt] at o2
    unfold forGo at o2
    split at o2
    · rename_i hg2
      obtain ⟨f1, _⟩ := r1 i m2 h2 H2 l2 s2 hg2
      obtain ⟨go, yl⟩ := f1 _ (List.getElem?_eq_getElem hlt)
      refine .inr ⟨go, fun σ3 H3 => ∃ m3 ρ3 h3, Le m2 H2 m3 H3 ∧ Sim X.K X.mg m3 h3 H3 ∧ RS m3 H3 ρ3 σ3 ∧ OutS X.K X.mg W m3 H3 D (forGo src.guard g b (src.items.drop (i + 1)) ρ3 h3), fun σ3 H3 ⟨m3, ρ3, h3, l3, s3, rs3, o3⟩ => ⟨src.items.length - (i + 1), by omega, rfl, hlt, m3, ρ3, h3, l2.trans l3, s3, rs3, o3⟩, fun v H' y => ?_⟩
      obtain ⟨l3, s3, r3⟩ := yl v H' y
      refine ⟨m2, ρ2, h2, _, s3, rs2.le l3, r3, ?_⟩
      cases e4 : g src.items[i] ρ2 h2 with
      | ok ρ4 h4 =>
        rw [e4] at o2
        refine fun m4 H4 σ4 l4 s4 rs4 _ => ⟨m4, ρ4, h4, s4, rs4, ?_⟩
        simp only [R.thenS_ok] at o2
        have o5 := o2.later (l3.trans l4)
        cases hb4 : b ρ4 h4 with
        | nx ρ5 h5 =>
          rw [hb4] at o5
          exact fun m5 H5 σ5 l5 s5 rs5 => ⟨m5, ρ5, h5, (l3.trans l4).trans l5, s5, rs5, OutS.later o5 l5⟩
        | ct ρ5 h5 =>
          rw [hb4] at o5
          exact fun m5 H5 σ5 l5 s5 rs5 => ⟨m5, ρ5, h5, (l3.trans l4).trans l5, s5, rs5, OutS.later o5 l5⟩
        | bk ρ5 h5 => rw [hb4] at o5; exact o5
        | rt v5 h5 => rw [hb4] at o5; exact o5
        | ex e5 ρ5 h5 => rw [hb4] at o5; exact o5
        | no => rw [hb4] at o5; exact o5
      | ex _ _ => rw [e4] at o2; exact o2.elim
      | no => rw [e4] at o2; exact o2.elim
    · exact o2.elim
  · have hi : i = src.items.length := by omega
    subst hi
    rw [List.drop_length] at o2
    unfold forGo at o2
    split at o2
    · rename_i hg2
      obtain ⟨_, f2⟩ := r1 _ m2 h2 H2 l2 s2 hg2
      exact .inl ⟨f2 rfl, o2 m2 H2 σ2 .refl s2 rs2⟩
    · exact o2.elim
/-! ### a list, a tuple -/
@[simp] def srcOf (x : PV) (h : HS) : R Src := match seqOf h x with
  | some xs => .ok ⟨xs, fun h' => seqOf h' x = some xs⟩ h
  | none => .no
theorem im_seq (he : PEm X W e me) : PIm X W tg e (m1 srcOf me) :=
  wkI (PI.or (pi_list he) (pi_tup he)) fun σ H R ⟨m, ρ, h, s, rs, o⟩ => by
    have key : ∀ (I : Addr → It) (P : Addr → Hp → Prop), (∀ m1 h1 H1 v xs av, Le m H m1 H1 → Sim X.K X.mg m1 h1 H1 → RV m1 H1 av v → me ρ h = .ok av h1 → seqOf h1 av = some xs → ∃ a, v = .ref a ∧ P a H1 ∧ RI X.K X.mg m1 H1 ⟨xs, fun h' => seqOf h' av = some xs⟩ (I a)) →
        tG X.K X.mg W RV me σ H fun x H1 => ∃ a, x = .ref a ∧ P a H1 ∧ R (I a) H1 := fun I P k => by
      refine ⟨m, ρ, h, s, rs, ?_⟩
      have o' : Out X.K X.mg W (RI X.K X.mg) m H σ R ((me ρ h).bind srcOf) := o
      cases hm : me ρ h with
      | no => rw [hm] at o'; exact o'
      | ex e' h' => rw [hm] at o'; exact o'
      | ok av h1 =>
        rw [hm] at o'
        intro m1 H1 v l1 s1 r1
        have o2 : Out X.K X.mg W (RI X.K X.mg) m H σ R (srcOf av h1) := o'
        unfold srcOf at o2
        split at o2
        · rename_i xs e1
          obtain ⟨a, ea, p, ri⟩ := k m1 h1 H1 v xs av l1 s1 r1 hm e1
          exact ⟨a, ea, p, o2 m1 H1 _ l1 s1 ri⟩
        · exact o2.elim
    cases hm : me ρ h with
    | no =>
      refine .inl (key (Itl X.K) (fun a H1 => ∃ xs, SqL X.K H1 a xs) fun m1 h1 H1 v xs av l1 s1 r1 e1 e2 => ?_)
      rw [hm] at e1; cases e1
    | ex e' h' =>
      refine .inl (key (Itl X.K) (fun a H1 => ∃ xs, SqL X.K H1 a xs) fun m1 h1 H1 v xs av l1 s1 r1 e1 e2 => ?_)
      rw [hm] at e1; cases e1
    | ok av0 h0 =>
      cases av0 with
      | tup ys =>
        refine .inr (key (Itt X.K) (fun a H1 => ∃ xs, SqT X.K H1 a xs) fun m1 h1 H1 v xs av l1 s1 r1 e1 e2 => ?_)
        rw [hm] at e1; cases e1
        cases r1 with
        | tup g1 rr =>
          simp only [seqOf, Option.some.injEq] at e2
          subst e2
          refine ⟨_, rfl, ⟨_, SqT.of g1⟩, fun i m2 h2 H2 l2 s2 gd => ⟨fun x hx => ?_, fun hl => ⟨_, SqT.of (l2.tup _ _ g1), by rw [← rr.length]; exact Nat.le_of_eq hl.symm⟩⟩⟩
          obtain ⟨w, ew, rw'⟩ := rr.get hx
          refine ⟨⟨_, w, SqT.of (l2.tup _ _ g1), ew⟩, fun u H' ⟨eH, yl⟩ => ?_⟩
          subst eH
          have := yl _ (SqT.of (l2.tup _ _ g1))
          rw [ew] at this
          cases this
          exact ⟨.refl, s2, rw'.le l2⟩
      | ref n =>
        refine .inl (key (Itl X.K) (fun a H1 => ∃ xs, SqL X.K H1 a xs) fun m1 h1 H1 v xs av l1 s1 r1 e1 e2 => ?_)
        rw [hm] at e1; cases e1
        cases r1 with
        | ref g1 =>
          obtain ⟨ys, q, rr⟩ := refOf_at s1 g1 e2
          refine ⟨_, rfl, ⟨ys, q⟩, fun i m2 h2 H2 l2 s2 gd => ?_⟩
          obtain ⟨zs, q2, rr2⟩ := refOf_at s2 (l2.get g1) gd
          refine ⟨fun x hx => ?_, fun hl => ⟨zs, q2, by rw [← rr2.length]; exact Nat.le_of_eq hl.symm⟩⟩
          obtain ⟨w, ew, rw'⟩ := rr2.get hx
          refine ⟨⟨_, w, q2, ew⟩, fun u H' ⟨eH, yl⟩ => ?_⟩
          subst eH
          have := yl _ q2
          rw [ew] at this
          cases this
          exact ⟨.refl, s2, rw'⟩
      | _ =>
        refine .inl (key (Itl X.K) (fun a H1 => ∃ xs, SqL X.K H1 a xs) fun m1 h1 H1 v xs av l1 s1 r1 e1 e2 => ?_)
        rw [hm] at e1
        cases e1
        simp only [seqOf] at e2
        cases e2
/-! ### range -/
def rngP (lo : Int) (n : Nat) : List PV := (List.range n).map fun (k : Nat) => PV.int (lo + (k : Int))
theorem ri_rng {K : PySem.W.Frag} {mg : Str → Option Value} {lo : Int} {n : Nat} : RI K mg m H ⟨rngP lo n, fun _ => True⟩ (Itr lo n) := fun i m2 h2 H2 l2 s2 gd => by
  refine ⟨fun x hx => ?_, fun hl => ?_⟩
  · have hlen : i < n := by
      have := (List.getElem?_eq_some_iff.mp hx).1
      simpa [rngP] using this
    refine ⟨hlen, fun v H' ⟨eH, ev⟩ => ?_⟩
    subst eH ev
    have : x = PV.int (lo + (i : Int)) := by
      simp only [rngP, List.getElem?_map, List.getElem?_range hlen, Option.map_some, Option.some.injEq] at hx
      exact hx.symm
    subst this
    exact ⟨.refl, s2, .int _⟩
  · show n ≤ i
    have : i = n := by simpa [rngP] using hl
    omega
noncomputable def rng1 : List PV → HS → R Src
  | [.int j], h => @ite _ (j < 2 ^ 62 ∧ -(2 ^ 62) ≤ j) (Classical.propDecidable _) (.ok ⟨rngP 0 j.toNat, fun _ => True⟩ h) .no
  | _, _ => .no
noncomputable def rng2 : List PV → HS → R Src
  | [.int i, .int j], h => @ite _ (-(2 ^ 62) ≤ i ∧ i < 2 ^ 62 ∧ -(2 ^ 62) ≤ j ∧ j < 2 ^ 62) (Classical.propDecidable _) (.ok ⟨rngP i (j - i).toNat, fun _ => True⟩ h) .no
  | _, _ => .no
@[simp] theorem rng1_is {j : Int} {h : HS} (h0 : 0 ≤ j) (h1 : j ≤ 1000000) : rng1 [.int j] h = .ok ⟨rngP 0 j.toNat, fun _ => True⟩ h := if_pos ⟨by omega, by omega⟩
@[simp] theorem rng2_is {i j : Int} {h : HS} (h0 : -1000000 ≤ i) (h1 : i ≤ 1000000) (h2 : -1000000 ≤ j) (h3 : j ≤ 1000000) : rng2 [.int i, .int j] h = .ok ⟨rngP i (j - i).toNat, fun _ => True⟩ h := if_pos ⟨by omega, by omega, by omega, by omega⟩
theorem im_range1 {a : Expr} {ma : Mi (List PV)} {p : Pos} (hm : X.mg "range" = none) (ha : PAm X W [a] ma) (hg : Gl X "range" := by rfl) (hs : starEach [a] X.env = [(false, eval a X.env)] := by rfl) : PIm X W tg (.Call (.Name "range" p) [a] [] pos) (m1 rng1 ma) :=
  wkI (pi_range1 hg hm ha hs) fun σ H R ⟨m, ρ, h, s, rs, o⟩ => ⟨m, ρ, h, s, rs, o.bind.mono fun x H1 ⟨m1, h1, av, l1, s1, r1, o1⟩ => by
    unfold rng1 at o1
    split at o1
    · split at o1
      · rename_i hl
        obtain ⟨v, rfl, r⟩ := r1.one
        cases r
        exact ⟨_, rfl, hl.2, hl.1, o1 m1 H1 _ .refl s1 ri_rng⟩
      · exact o1.elim
    · exact o1.elim⟩
theorem im_range2 {a c : Expr} {ma : Mi (List PV)} {p : Pos} (hm : X.mg "range" = none) (ha : PAm X W [a, c] ma) (hg : Gl X "range" := by rfl) (hs : starEach [a, c] X.env = [(false, eval a X.env), (false, eval c X.env)] := by rfl) (hs2 : starEach [c] X.env = [(false, eval c X.env)] := by rfl) : PIm X W tg (.Call (.Name "range" p) [a, c] [] pos) (m1 rng2 ma) :=
  wkI (pi_range2 hg hm ha hs hs2) fun σ H R ⟨m, ρ, h, s, rs, o⟩ => ⟨m, ρ, h, s, rs, o.bind.mono fun x H1 ⟨m1, h1, av, l1, s1, r1, o1⟩ => by
    unfold rng2 at o1
    split at o1
    · split at o1
      · rename_i hl
        obtain ⟨v, w, rfl, r, r'⟩ := r1.two
        cases r
        cases r'
        exact ⟨_, _, rfl, hl, o1 m1 H1 _ .refl s1 ri_rng⟩
      · exact o1.elim
    · exact o1.elim⟩
end
end Lt
namespace Lt
open PySem PySem.Spec PyProof.Rows L2
abbrev WN : WX := fun _ _ _ _ => False
open Classical in
noncomputable def lcGo (guard : HS → Prop) (g : Mg) (t : Mi Bool) (e : Mi PV) (ρ : Pn) : List PV → HS → Option (List PV × HS)
  | [], h => if guard h then some ([], h) else none
  | x :: xs, h => if guard h then ((g x ρ h).thenO fun ρ1 h1 => (t ρ1 h1).thenO fun c h2 => if c = true then ((e ρ1 h2).thenO fun v h3 => (lcGo guard g t e ρ xs h3).map fun r => (v :: r.1, r.2)) else lcGo guard g t e ρ xs h2) else none
theorem lcGo_nil {guard : HS → Prop} {g : Mg} {t : Mi Bool} {e : Mi PV} {ρ : Pn} {h : HS} (hg : guard h) : lcGo guard g t e ρ [] h = some ([], h) := by
  unfold lcGo
  rw [if_pos hg]
theorem lcGo_cons {guard : HS → Prop} {g : Mg} {t : Mi Bool} {e : Mi PV} {ρ : Pn} {x : PV} {xs : List PV} {h : HS} (hg : guard h) : lcGo guard g t e ρ (x :: xs) h = (g x ρ h).thenO fun ρ1 h1 => (t ρ1 h1).thenO fun c h2 => if c = true then ((e ρ1 h2).thenO fun v h3 => (lcGo guard g t e ρ xs h3).map fun r => (v :: r.1, r.2)) else lcGo guard g t e ρ xs h2 := by
  conv => lhs; unfold lcGo
  rw [if_pos hg]
/-- the list at the end -/
def lcEnd (r : Option (List PV × HS)) : R PV := match r with
  | some (vs, h2) => dLst vs h2
  | none => .no
@[simp] theorem lcEnd_some (vs : List PV) (h : HS) : lcEnd (some (vs, h)) = dLst vs h := rfl
noncomputable def mLc (it : Mi Src) (is : List Nat) (g : Mg) (t : Mi Bool) (e : Mi PV) (ρ : Pn) (h : HS) : R PV := (it ρ h).bind fun src h1 => lcEnd (lcGo src.guard g t e (wipeP ρ is) src.items h1)
section
variable {K : PySem.W.Frag} {mg : Str → Option Value} {m : List Addr} {h : HS} {H : Hp} {D : Addr}
theorem Sim.adopt (s : Sim K mg m h H) (nD : D ∉ m) {o : HB} (r : RO K mg (m ++ [D]) H D o) : Sim K mg (m ++ [D]) (h ++ [o]) H := by
  have hl := s.len
  have old : ∀ {i : Nat} {q : HB} {c : Addr}, (h ++ [o])[i]? = some q → (m ++ [D])[i]? = some c → (h[i]? = some q ∧ m[i]? = some c) ∨ (i = h.length ∧ q = o ∧ c = D) := fun {i q c} e1 e2 => by
    by_cases hi : i < h.length
    · rw [List.getElem?_append_left hi] at e1
      rw [List.getElem?_append_left (by omega)] at e2
      exact .inl ⟨e1, e2⟩
    · have h1 : i = h.length := by
        have := (List.getElem?_eq_some_iff.mp e1).1
        simp only [List.length_append, List.length_cons, List.length_nil] at this
        omega
      subst h1
      rw [List.getElem?_append_right (Nat.le_refl _), Nat.sub_self] at e1
      rw [List.getElem?_append_right (by omega), hl, Nat.sub_self] at e2
      exact .inr ⟨rfl, (Option.some.inj e1).symm, (Option.some.inj e2).symm⟩
  have up : ∀ {i : Nat} {c : Addr}, m[i]? = some c → (m ++ [D])[i]? = some c := fun {i c} e => by
    rw [List.getElem?_append_left (List.getElem?_eq_some_iff.mp e).1]
    exact e
  refine ⟨by simp [hl], fun i q c e1 e2 => ?_, fun i j c oi oj e1 e2 e3 e4 => ?_⟩
  · rcases old e1 e2 with ⟨h1, h2⟩ | ⟨rfl, rfl, rfl⟩
    · exact (s.obj i q c h1 h2).lo ⟨fun e => up e, fun _ _ z => z⟩ fun _ z => z
    · exact r
  · rcases old e1 e3 with ⟨h1, h2⟩ | ⟨z1, _, z2⟩
    · rcases old e2 e4 with ⟨h3, h4⟩ | ⟨_, _, z4⟩
      · exact s.inj i j c oi oj h1 h3 h2 h4
      · exact absurd (by rw [← z4]; exact List.mem_of_getElem? h2) nD
    · rcases old e2 e4 with ⟨h3, h4⟩ | ⟨z3, _, z4⟩
      · exact absurd (by rw [← z2]; exact List.mem_of_getElem? h4) nD
      · rw [z1, z3]
/-- what isn't known is written -/
theorem Sim.own (s : Sim K mg m h H) (nD : D ∉ m) {u : HO} (hD : H D = some u) (nt : ∀ xs, u ≠ .tup xs) (x : HO) : Sim K mg m h (upd H D x) :=
  ⟨s.len, fun i q c e1 e2 => (s.obj i q c e1 e2).lo ⟨fun e => e, fun a xs e => by
    rw [upd_ne fun z => ?_]
    · exact e
    · subst z; rw [hD] at e; cases e; exact nt xs rfl⟩ fun v e => by
    rw [upd_ne fun z => ?_]
    · exact e
    · subst z; exact nD (List.mem_of_getElem? e2), s.inj⟩
end
theorem wipe_get (σ : St) : ∀ (vs : List Nat) (j : Nat), (L2.wipe σ vs)[j]? = if j ∈ vs ∧ j < σ.length then some none else σ[j]?
  | [], j => by simp [L2.wipe]
  | v :: vs, j => by
    unfold L2.wipe
    have ih := wipe_get σ vs j
    have hl := wipe_length σ vs
    by_cases e : v = j
    · subst e
      by_cases hv : v < σ.length
      · rw [List.getElem?_set_self (by omega)]
        simp [hv]
      · rw [List.getElem?_eq_none (by simp; omega)]
        simp [hv]
    · rw [List.getElem?_set_ne e, ih]
      have : (j ∈ v :: vs) ↔ j ∈ vs := by simp [Ne.symm e]
      simp only [this]
theorem wipe_same {σ σ' : St} {vs : List Nat} (hl : σ'.length = (L2.wipe σ vs).length) (hj : ∀ j, j ∉ vs → σ'[j]? = (L2.wipe σ vs)[j]?) : L2.wipe σ' vs = L2.wipe σ vs := by
  apply List.ext_getElem?
  intro j
  rw [wipe_length] at hl
  rw [wipe_get, wipe_get, hl]
  by_cases h : j ∈ vs ∧ j < σ.length
  · simp [h]
  · rw [if_neg h, if_neg h]
    by_cases hm : j ∈ vs
    · have : ¬ j < σ.length := fun z => h ⟨hm, z⟩
      rw [List.getElem?_eq_none (by omega), List.getElem?_eq_none (by omega)]
    · rw [hj j hm, wipe_get, if_neg h]
abbrev PTsm (X : Cx) (W : WX) (ifs : List Expr) (f : Mi Bool) : Prop := PTs X ifs (tG X.K X.mg W RB f)
@[simp] def mYes (_ρ : Pn) (h : HS) : R Bool := .ok true h
section
variable {X : Cx} {W : WX} {pos : Pos}
theorem wkTs {e : List Expr} {t t' : TT} (h : PTs X e t) (k : ∀ σ H Q, t' σ H Q → t σ H Q) : PTs X e t' := ⟨fun pins s σ H Q I q => h.run pins s σ H Q I (k σ H Q q)⟩
theorem tsm_nil : PTsm X W [] mYes := wkTs pts_nil fun σ H Q ⟨m, ρ, h, s, rs, o⟩ => o m H true .refl s rfl
theorem tsm_one {c : Expr} {f : Mi Bool} (hc : PTm X W c f) : PTsm X W [c] f := pts_one hc
theorem Sim.notin {K : PySem.W.Frag} {mg : Str → Option Value} {m : List Addr} {h : HS} {H : Hp} {D : Addr} (s : Sim K mg m h H) (hD : H D = none) : D ∉ m := fun hm => by
  obtain ⟨n, hn, e⟩ := List.mem_iff_getElem.mp hm
  have e1 : m[n]? = some D := by rw [List.getElem?_eq_getElem hn, e]
  have hh : n < h.length := by rw [← s.len]; exact hn
  obtain ⟨u, e2, _⟩ := (s.obj n h[n] D (List.getElem?_eq_getElem hh) e1).some
  rw [hD] at e2
  cases e2
theorem Le.notin {m m' : List Addr} {H H' : Hp} {D : Addr} {u : HO} (l : Le m H m' H') (n : D ∉ m) (hD : H D = some u) : D ∉ m' := fun z => (l.new D z).elim n fun z => by rw [hD] at z; cases z
theorem lc_out {K : PySem.W.Frag} {mg : Str → Option Value} {it : Mi Src} {g : Mg} {t : Mi Bool} {e : Mi PV} {is vs : List Nat} (hsub : ∀ j ∈ is, j ∈ vs) (σ : St) (H : Hp) (Q : VK) (hq : tG K mg W RV (mLc it vs g t e) σ H Q) :
    tLc (tG K mg W (RI K mg) it) (tMG K mg WN is g) (tG K mg WN RB t) (tG K mg WN RV e) vs σ H Q := by
  obtain ⟨m, ρ, h, s, rs, o⟩ := hq
  refine ⟨m, ρ, h, s, rs, o.bind.mono fun J H1 ⟨m1, h1, src, l1, s1, ri, o1⟩ D hD => ?_⟩
  cases eF0 : lcGo src.guard g t e (wipeP ρ vs) src.items h1 with
  | some r0 =>
    obtain ⟨vF, hF⟩ := r0
    have eF := eF0
    rw [eF0] at o1
    simp only [lcEnd_some, dLst] at o1
    split at o1
    · rename_i hlen
      refine ⟨fun i k H2 => k = src.items.length - i ∧ i ≤ src.items.length ∧ ∃ m2 h2 acc av ws, Le m1 H1 m2 H2 ∧ Sim K mg m2 h2 H2 ∧ D ∉ m2 ∧ H2 D = some (.lst av) ∧ RVs m2 H2 acc av ∧ lcGo src.guard g t e (wipeP ρ vs) (src.items.drop i) h2 = some (ws, hF) ∧ acc ++ ws = vF, ⟨src.items.length, rfl, Nat.zero_le _, m1, h1, [], [], vF, le_new hD _, s1.junk hD _, s1.notin hD, upd_same, .nil, eF, rfl⟩, ?_⟩
      rintro i k H2 ⟨rfl, hle, m2, h2, acc, av, ws, l2, s2, n2, hD2, ra, e2, ea⟩
      by_cases hlt : i < src.items.length
      · rw [List.drop_eq_getElem_cons hlt] at e2
        unfold lcGo at e2
        split at e2
        · rename_i hg2
          obtain ⟨f1, _⟩ := ri i m2 h2 H2 l2 s2 hg2
          obtain ⟨go, yl⟩ := f1 _ (List.getElem?_eq_getElem hlt)
          refine .inr ⟨go, fun H3 => ∃ m3 h3 acc3 av3 ws3, Le m1 H1 m3 H3 ∧ Sim K mg m3 h3 H3 ∧ D ∉ m3 ∧ H3 D = some (.lst av3) ∧ RVs m3 H3 acc3 av3 ∧ lcGo src.guard g t e (wipeP ρ vs) (src.items.drop (i + 1)) h3 = some (ws3, hF) ∧ acc3 ++ ws3 = vF, fun H3 z => ⟨src.items.length - (i + 1), by omega, rfl, hlt, z⟩, fun v H' y => ?_⟩
          obtain ⟨l3, s3, r3⟩ := yl v H' y
          refine ⟨m2, wipeP ρ vs, h2, _, s3, ((rs.le (l1.trans l2)).le l3).wipe vs, r3, ?_⟩
          obtain ⟨ρ4, h4, e4, e2⟩ := R.thenO_some e2
          · rw [e4]
            refine fun m4 H4 σ4 l4 s4 rs4 ⟨q1, q2⟩ => ⟨wipe_same q1 fun j hj => q2 j fun z => hj (hsub j z), m4, ρ4, h4, s4, rs4, ?_⟩
            have l24 := l3.trans l4
            obtain ⟨c5, h5, e5, e2⟩ := R.thenO_some e2
            cases c5 with
            | true =>
              rw [e5]
              intro m5 H5 b l5 s5 rb
              cases rb
              simp only [if_true] at e2
              refine iteT ⟨m5, ρ4, h5, s5, rs4.le l5, ?_⟩
              obtain ⟨y6, h6, e6, e2⟩ := R.thenO_some e2
              · rw [e6]
                intro m6 H6 v6 l6 s6 r6
                have l26 := (l24.trans l5).trans l6
                obtain ⟨⟨ws', hF'⟩, e7, e8⟩ := Option.map_eq_some_iff.mp e2
                simp only [Prod.mk.injEq] at e8
                obtain ⟨e8, e9⟩ := e8
                subst e9 e8
                have hD6 := l26.junk D _ n2 hD2
                have nD6 := l26.notin n2 hD2
                have ra6 := ra.le l26
                have lo6 : Lo m6 H6 m6 (upd H6 D (.lst (av ++ [v6]))) := ⟨fun z => z, fun a xs z => by
                  rw [upd_ne fun w => ?_]
                  · exact z
                  · subst w; rw [hD6] at z; cases z⟩
                refine ⟨av, hD6, ?_, m6, h6, acc ++ [y6], av ++ [v6], ws', ?_, s6.own nD6 hD6 (fun _ z => by cases z) _, nD6, upd_same, (ra6.app (.cons r6 .nil)).lo lo6, e7, by rw [List.append_assoc]; exact ea⟩
                · rw [← ra.length, line16]
                  rw [← ea] at hlen
                  simp only [List.length_append, List.length_cons] at hlen
                  omega
                · have l16 := l2.trans l26
                  exact ⟨l16.pre, fun a xs z => by rw [upd_ne (ne_of_none z hD)]; exact l16.tup a xs z, fun a u n z => by rw [upd_ne (ne_of_none z hD)]; exact l16.junk a u n z, l16.new⟩
            | false =>
              rw [e5]
              intro m5 H5 b l5 s5 rb
              cases rb
              simp only [Bool.false_eq_true, if_false] at e2
              have l25 := l24.trans l5
              exact iteF ⟨m5, h5, acc, av, ws, l2.trans l25, s5, l25.notin n2 hD2, l25.junk D _ n2 hD2, ra.le l25, e2, ea⟩
        · cases e2
      · have hi : i = src.items.length := by omega
        subst hi
        rw [List.drop_length] at e2
        unfold lcGo at e2
        split at e2
        · rename_i hg2
          obtain ⟨_, f2⟩ := ri _ m2 h2 H2 l2 s2 hg2
          refine .inl ⟨f2 rfl, ?_⟩
          simp only [Option.some.injEq, Prod.mk.injEq] at e2
          obtain ⟨e3, e4⟩ := e2
          subst e3 e4
          rw [List.append_nil] at ea
          subst ea
          have lo2 : Lo m2 H2 (m2 ++ [D]) H2 := ⟨fun {n a} z => by
            rw [List.getElem?_append_left (List.getElem?_eq_some_iff.mp z).1]
            exact z, fun _ _ z => z⟩
          refine o1 (m2 ++ [D]) H2 (.ref D) ⟨l2.pre.trans (List.prefix_append _ _), l2.tup, l2.junk, fun a z => (List.mem_append.mp z).elim (l2.new a) fun z => .inr (by rw [List.mem_singleton.mp z]; exact hD)⟩ (s2.adopt n2 ⟨av, hD2, ra.lo lo2⟩) (.ref ?_)
          rw [← s2.len, List.getElem?_append_right (Nat.le_refl _), Nat.sub_self]
          rfl
        · cases e2
    · exact o1.elim
  | none => rw [eF0] at o1; exact o1.elim
variable {tg e iter : Expr} {ifs : List Expr} {scope : Scope} {own : List (Str × Nat)} {mi : Mi Src} {g : Mg} {t : Mi Bool} {me : Mi PV} {is : List Nat}
theorem em_lc (own : List (Str × Nat)) (hN : X.N.Nodup) (hi : PIm X W tg iter mi) (ok : blkC X.N X.env.scope scope own = true)
    (hg : ∀ (s : Shared) (H : Hp) (C : Addr) (cl : List (Str × Addr)) (fp : List Addr), PGm (X.blk s H scope (compEnvC scope cl C X.env) fp) WN is tg g)
    (ht : ∀ (s : Shared) (H : Hp) (C : Addr) (cl : List (Str × Addr)) (fp : List Addr), PTsm (X.blk s H scope (compEnvC scope cl C X.env) fp) WN ifs t)
    (he : ∀ (s : Shared) (H : Hp) (C : Addr) (cl : List (Str × Addr)) (fp : List Addr), PEm (X.blk s H scope (compEnvC scope cl C X.env) fp) WN e me) (hsub : ∀ j ∈ is, j ∈ own.map (·.2)) (hc : X.calm = true := by rfl)
    (hs : ∀ x, foldedSetIterable iter X.env x = pure x := by intro _; rfl) : PEm X W (.ListComp e [⟨tg, iter, ifs, 0⟩] scope pos) (mLc mi (own.map (·.2)) g t me) :=
  wkE (pe_lc hc hN hi (blkOk_by ok) hg ht he hs) fun σ H Q q => lc_out hsub σ H Q q
theorem sm_setLc {i : Nat} {y : Str} {py spos : Pos} (own : List (Str × Nat)) (hN : X.N.Nodup) (hsw : swapsWith (.ListComp e [⟨tg, iter, ifs, 0⟩] scope pos) (some (.Name y py)) spos.line X.env = pure true) (hi : PIm X W tg iter mi) (ok : blkC X.N X.env.scope scope own = true)
    (hg : ∀ (s : Shared) (H : Hp) (C : Addr) (cl : List (Str × Addr)) (fp : List Addr), PGm (X.blk s H scope (compEnvC scope cl C X.env) fp) WN is tg g)
    (ht : ∀ (s : Shared) (H : Hp) (C : Addr) (cl : List (Str × Addr)) (fp : List Addr), PTsm (X.blk s H scope (compEnvC scope cl C X.env) fp) WN ifs t)
    (he : ∀ (s : Shared) (H : Hp) (C : Addr) (cl : List (Str × Addr)) (fp : List Addr), PEm (X.blk s H scope (compEnvC scope cl C X.env) fp) WN e me) (hsub : ∀ j ∈ is, j ∈ own.map (·.2)) (hy : X.N[i]? = some y := by rfl) (hyl : X.env.scope.names.lookup y = some .local := by rfl) (hc : X.calm = true := by rfl)
    (hs : ∀ x, foldedSetIterable iter X.env x = pure x := by intro _; rfl) : PSm X W (.Assign [.Name y py] (.ListComp e [⟨tg, iter, ifs, 0⟩] scope pos) spos) (mAsg (mLc mi (own.map (·.2)) g t me) (gNm i)) :=
  wkS (ps_setLc hc hN hy hyl hsw hi (blkOk_by ok) hg ht he hs) fun D σ H ⟨m, ρ, h, s, rs, o⟩ => by
    refine lc_out hsub σ H _ ⟨m, ρ, h, s, rs, (OutS.bind rs o).mono fun v H1 ⟨m1, h1, a, l1, s1, r1, o1⟩ => ?_⟩
    have o2 : OutS X.K X.mg W m1 H1 D (.nx (ρ.set i (some a)) h1) := o1
    exact o2 m1 H1 _ .refl s1 ((rs.le l1).set (.val r1) i)
end
end Lt
namespace Lt
open PySem PySem.Spec PyProof.Rows L2
/-! ### written dicts -/
inductive RPs (m : List Addr) (H : Hp) : List (PV × PV) → List (V × V) → Prop
  | nil : RPs m H [] []
  | cons {x y : PV} {v w : V} {xs : List (PV × PV)} {vs : List (V × V)} (r : RV m H x v) (q : RV m H y w) (t : RPs m H xs vs) : RPs m H ((x, y) :: xs) ((v, w) :: vs)
def evalPs : List (Mi PV × Mi PV) → Pn → HS → R (List (PV × PV))
  | [], _, h => .ok [] h
  | (a, b) :: r, ρ, h => (a ρ h).bind fun x h1 => (b ρ h1).bind fun y h2 => (evalPs r ρ h2).bind fun xs h3 => .ok ((x, y) :: xs) h3
@[simp] def keysOf : List (PV × PV) → Option (List (Key × PV))
  | [] => some []
  | (x, y) :: r => match keyOf x, keysOf r with
    | some k, some ks => some ((k, y) :: ks)
    | _, _ => none
@[simp] def mergeP (kvs more : List (Key × PV)) : List (Key × PV) := more.foldl (fun acc kv => putP acc kv.1 kv.2) kvs
@[simp] def dDic (xs : List (PV × PV)) (h : HS) : R PV := match keysOf xs with
  | some kvs => if kvs.length ≤ 15 then .ok (.ref h.length) (h ++ [.dic (mergeP [] kvs)]) else .no
  | none => .no
def mDict (ps : List (Mi PV × Mi PV)) (ρ : Pn) (h : HS) : R PV := (evalPs ps ρ h).bind dDic
section
variable {K : PySem.W.Frag} {mg : Str → Option Value} {W : WX} {m : List Addr} {h : HS} {H : Hp} {σ : St} {ρ : Pn}
theorem pairs_out : ∀ (ps : List (Mi PV × Mi PV)) {m : List Addr} {h : HS} {H : Hp} {Q : List (V × V) → Hp → Prop}, Sim K mg m h H → RS m H ρ σ → Out K mg W RPs m H σ Q (evalPs ps ρ h) →
    tPairs (ps.map fun p => (tG K mg W RV p.1, tG K mg W RV p.2)) σ H Q
  | [], m, h, H, Q, s, rs, o => o m H [] .refl s .nil
  | (a, b) :: r, m, h, H, Q, s, rs, o => ⟨m, ρ, h, s, rs, o.bind.mono fun x H1 ⟨m1, h1, av, l1, s1, r1, o1⟩ => ⟨m1, ρ, h1, s1, rs.le l1, o1.bind.mono fun y H2 ⟨m2, h2, bv, l2, s2, r2, o2⟩ =>
      pairs_out r s2 ((rs.le l1).le l2) (o2.bind.mono fun ps H3 ⟨m3, h3, cv, l3, s3, r3, o3⟩ => o3 m3 H3 _ .refl s3 (.cons ((r1.le l2).le l3) (r2.le l3) r3))⟩⟩
theorem keysOf_at : ∀ {xs : List (PV × PV)} {vs : List (V × V)} {kvs : List (Key × PV)}, RPs m H xs vs → keysOf xs = some kvs → ∃ ws : List (Key × V), vs = ws.map (fun kv => (kV kv.1, kv.2)) ∧ RKs m H kvs ws
  | _, _, _, .nil, e => by
    cases e
    exact ⟨[], rfl, .nil⟩
  | _, _, kvs, .cons (x := x) r q t, e => by
    unfold keysOf at e
    split at e
    · rename_i k ks e1 e2
      cases e
      obtain ⟨ws, e3, rk⟩ := keysOf_at t e2
      have ex := keyOf_at r e1
      subst ex e3
      exact ⟨(k, _) :: ws, rfl, .cons q rk⟩
    · cases e
theorem RKs.merge {more : List (Key × PV)} {ms : List (Key × V)} (q : RKs m H more ms) : ∀ {kvs : List (Key × PV)} {vs : List (Key × V)}, RKs m H kvs vs → RKs m H (mergeP kvs more) (mergeK vs ms) := by
  induction q with
  | nil => intro kvs vs r; exact r
  | cons rx t ih =>
    intro kvs vs r
    exact ih (r.put _ rx)
end
section
variable {X : Cx} {W : WX} {pos : Pos}
theorem em_dict0 : PEm X W (.Dict [] [] pos) (mDict []) :=
  wkE pe_dnewK fun σ H Q ⟨m, ρ, h, s, rs, o⟩ p hp => by
    have o' : Out X.K X.mg W RV m H σ Q (.ok (.ref h.length) (h ++ [.dic []])) := o
    exact o' (m ++ [p]) _ _ (le_add hp _) (s.add hp _ ⟨[], upd_same, .nil⟩) (.ref (get_new s p))
abbrev PPm (X : Cx) (W : WX) (pos : Pos) (ks : List (Option Expr)) (vs : List Expr) (ps : List (Mi PV × Mi PV)) : Prop := PPs X pos ks vs (ps.map fun p => (tG X.K X.mg W RV p.1, tG X.K X.mg W RV p.2))
theorem ppm_nil : PPm X W pos [] [] [] := pps_nil
theorem ppm_cons {k v : Expr} {ks : List (Option Expr)} {vs : List Expr} {mk mv : Mi PV} {ps : List (Mi PV × Mi PV)} (hk : PEm X W k mk) (hv : PEm X W v mv) (hr : PPm X W pos ks vs ps) : PPm X W pos (some k :: ks) (v :: vs) ((mk, mv) :: ps) := pps_cons hk hv hr
theorem em_dict {ks : List (Option Expr)} {vs : List Expr} {ps : List (Mi PV × Mi PV)} (hp : PPm X W pos ks vs ps) (hall : ks.all (·.isSome) = true := by rfl) (hl : ks.length = vs.length := by rfl) (h0 : ks ≠ [] := by intro z; cases z) (h15 : ks.length ≤ 15 := by decide) : PEm X W (.Dict ks vs pos) (mDict ps) :=
  wkE (pe_disp hp hall hl h0 h15) fun σ H Q ⟨m, ρ, h, s, rs, o⟩ p hp => by
    have o' : Out X.K X.mg W RV m H σ Q ((evalPs ps ρ h).bind dDic) := o
    refine pairs_out ps (s.junk hp _) (rs.le (le_new hp _)) ?_
    cases hps : evalPs ps ρ h with
    | no => rw [hps] at o'; exact o'
    | ex e' h' => rw [hps] at o'; exact o'.later (le_new hp _)
    | ok xs h2 =>
      rw [hps] at o'
      have o2 : Out X.K X.mg W RV m H σ Q (dDic xs h2) := o'
      intro m2 H2 qs l2 s2 r2
      have nD : p ∉ m := s.notin hp
      have e2 : H2 p = some (.dK []) := l2.junk p _ nD upd_same
      have nD2 : p ∉ m2 := l2.notin nD upd_same
      unfold dDic at o2
      split at o2
      · rename_i kvs ek
        split at o2
        · rename_i hlen
          obtain ⟨ws, rfl, rk⟩ := keysOf_at r2 ek
          refine ⟨e2, ws, rfl, by rw [← rk.length]; exact hlen, ?_⟩
          have lo2 : Lo m2 H2 (m2 ++ [p]) (upd H2 p (.dK (mergeK [] ws))) := ⟨fun {n a} z => by
            rw [List.getElem?_append_left (List.getElem?_eq_some_iff.mp z).1]
            exact z, fun a xs z => by
            rw [upd_ne fun w => ?_]
            · exact z
            · subst w; rw [e2] at z; cases z⟩
          have ne : ∀ {a u}, H a = some u → a ≠ p := fun z => ne_of_none z hp
          refine o2 (m2 ++ [p]) _ (.ref p) ⟨l2.pre.trans (List.prefix_append _ _), fun a xs z => ?_, fun a u n z => ?_, fun a z => ?_⟩ ((s2.own nD2 e2 (fun _ z => by cases z) _).adopt nD2 ⟨_, upd_same, (RKs.merge rk .nil).lo lo2⟩) (.ref (get_new s2 p))
          · rw [upd_ne (ne z)]
            exact l2.tup a xs (by rw [upd_ne (ne z)]; exact z)
          · rw [upd_ne (ne z)]
            exact l2.junk a u n (by rw [upd_ne (ne z)]; exact z)
          · rcases List.mem_append.mp z with z | z
            · rcases l2.new a z with z | z
              · exact .inl z
              · refine .inr ?_
                by_cases e : a = p
                · rw [e]; exact hp
                · rw [upd_ne e] at z; exact z
            · rw [List.mem_singleton.mp z]
              exact .inr hp
        · exact o2.elim
      · exact o2.elim
end
/-! ### the def's own theorem -/
def SR.ret (r : SR) : R PV := match r with
  | .nx _ h' => .ok .non h'
  | .rt v h' => .ok v h'
  | .ex e _ h' => .ex e h'
  | _ => .no
@[simp] theorem SR.ret_nx (ρ : Pn) (h : HS) : (SR.nx ρ h).ret = .ok .non h := rfl
@[simp] theorem SR.ret_rt (v : PV) (h : HS) : (SR.rt v h).ret = .ok v h := rfl
@[simp] theorem SR.ret_ex (e : PX) (ρ : Pn) (h : HS) : (SR.ex e ρ h).ret = .ex e h := rfl
@[simp] theorem SR.ret_ite {c : Prop} [Decidable c] (r s : SR) : (if c then r else s).ret = if c then r.ret else s.ret := by split <;> rfl
def mDef (n r : Nat) (b : Ms) (xs : List PV) (h : HS) : R PV := if xs.length = n then (b (xs.map some ++ List.replicate r none) h).ret else .no
section
variable {P : Program} {w : World} {K : PySem.W.Frag} {mg : Str → Option Value} {base : Heap}
abbrev bodyX (P : Program) (w : World) (K : PySem.W.Frag) (mg : Str → Option Value) (base : Heap) (N : List Str) (qual : Str) (st : Stmt) (f : Addr) (cdv : Value) (A : Around) (outer : List Env) (s : Shared) (H : Hp) (E : XK) : Cx := cxOf (L2.CX P w) P w K mg base N qual (defScope st) f cdv A outer s H E
theorem spM_len {f : List PV → HS → R PV} {n : Nat} (hf : ∀ xs h, xs.length ≠ n → f xs h = .no) {vs : List V} {H : Hp} {Q : VK} {E : XK} (h : spM K mg f vs H Q E) : vs.length = n := by
  obtain ⟨m, xs, hh, s, r, o⟩ := h
  rw [← r.length]
  by_cases e : xs.length = n
  · exact e
  · rw [hf xs hh e] at o
    exact o.elim
theorem fn_def {x qual : Str} {st : Stmt} {f : Addr} {fd : FuncData} {N ps : List Str} {k : Nat} {b : Ms} (F : Fun K x qual st f fd) (S : FnScope N ps (defScope st)) (hb : Binds K fd ps []) (hg : mg x = some (.ref f))
    (body : ∀ (cdv : Value) (A : Around) (outer : List Env) (s : Shared) (H : Hp) (E : XK), Room k (bodyX P w K mg base N qual st f cdv A outer s H E).A → Takes (bodyX P w K mg base N qual st f cdv A outer s H E) (fun cls d _ H => E cls d H) →
      PassesOwn (model P w) (bodyX P w K mg base N qual st f cdv A outer s H E).A (bodyX P w K mg base N qual st f cdv A outer s H E).env (bodyX P w K mg base N qual st f cdv A outer s H E).xe →
      PSsm (bodyX P w K mg base N qual st f cdv A outer s H E) (fun cls d _ H => E cls d H) (defBody st) b) : FnAt P w K mg base (k + 1) x (mDef ps.length (N.length - ps.length) b) := by
  have hn : ∀ xs h, xs.length ≠ ps.length → mDef ps.length (N.length - ps.length) b xs h = .no := fun xs h e => by unfold mDef; rw [if_neg e]
  refine ⟨f, fd, ps, hg, F.kp, hb, F.okX S (fun vs H Q E h => spM_len hn h) fun cdv A outer s H vs Q E hr ⟨m, xs, h, sm, r, o⟩ => ?_⟩
  refine ⟨_, body cdv A outer s H E hr (takes_of rfl rfl rfl rfl) (passes_of rfl), m, xs.map some ++ List.replicate (N.length - ps.length) none, h, sm, ?_, ?_⟩
  · have hl : xs.length = ps.length := by
      by_cases e : xs.length = ps.length
      · exact e
      · rw [hn xs h e] at o
        exact o.elim
    unfold L2.start
    rw [← r.length, hl]
    exact RS.start _ r
  · unfold mDef at o
    split at o
    · cases hb2 : b (xs.map some ++ List.replicate (N.length - ps.length) none) h with
      | nx ρ' h' =>
        rw [hb2] at o
        exact fun m' H' σ' l s' _ => o m' H' .non l s' .non
      | rt v h' => rw [hb2] at o; exact o
      | bk ρ' h' => rw [hb2] at o; exact o.elim
      | ct ρ' h' => rw [hb2] at o; exact o.elim
      | ex e ρ' h' =>
        rw [hb2] at o
        exact fun m' H' σ' cls d l s' _ rx => o m' H' cls d l s' rx
      | no => rw [hb2] at o; exact o.elim
    · exact o.elim
/-- a def that is not yet shown (the last turn of a recursion) -/
theorem fn_no {x qual : Str} {st : Stmt} {f : Addr} {fd : FuncData} {N ps : List Str} (F : Fun K x qual st f fd) (S : FnScope N ps (defScope st)) (hb : Binds K fd ps []) (hg : mg x = some (.ref f)) : FnAt P w K mg base 1 x (fun _ _ => .no) :=
  ⟨f, fd, ps, hg, F.kp, hb, F.okX S (fun vs H Q E ⟨_, _, _, _, _, o⟩ => o.elim) fun cdv A outer s H vs Q E hr ⟨_, _, _, _, _, o⟩ => o.elim⟩
end
end Lt
namespace Lt
open PySem PySem.Spec PyProof.Rows L2
/-! ### a, b = x, y -/
def mPar (i j : Nat) (a : Mi (List PV)) (ρ : Pn) (h : HS) : SR := (a ρ h).bindS ρ fun vs h1 => match vs with
  | [v, w] => .nx ((ρ.set i (some v)).set j (some w)) h1
  | _ => .no
def mPar3 (i j l : Nat) (a : Mi (List PV)) (ρ : Pn) (h : HS) : SR := (a ρ h).bindS ρ fun vs h1 => match vs with
  | [u, v, w] => .nx (((ρ.set i (some u)).set j (some v)).set l (some w)) h1
  | _ => .no
section
variable {X : Cx} {W : WX} {pos : Pos} {ma : Mi (List PV)}
theorem RVs.three {m : List Addr} {H : Hp} {x y z : PV} {vs : List V} (r : RVs m H [x, y, z] vs) : ∃ u v w, vs = [u, v, w] ∧ RV m H x u ∧ RV m H y v ∧ RV m H z w := by
  cases r with
  | cons r t =>
    obtain ⟨v, w, rfl, r1, r2⟩ := t.two
    exact ⟨_, v, w, rfl, r, r1, r2⟩
theorem sm_par {i j : Nat} {x y : Str} {a b : Expr} {px py pt : Pos} {kt k2 pt2} (hN : X.N.Nodup) (ha : PAm X W [a, b] ma) (hi : X.N[i]? = some x := by rfl) (hj : X.N[j]? = some y := by rfl) (hij : i ≠ j := by decide)
    (hx : X.env.scope.names.lookup x = some .local := by rfl) (hy : X.env.scope.names.lookup y = some .local := by rfl) (hc : X.calm = true := by rfl)
    (hw : swappedStores [.Tuple [.Name x px, .Name y py] kt pt] (.Tuple [a, b] k2 pt2) X.env = pure (some [x, y]) := by rfl)
    (hs : swapsWithSole [.Tuple [.Name x px, .Name y py] kt pt] (.Tuple [a, b] k2 pt2) pos.line X.env = pure false := by rfl) :
    PSm X W (.Assign [.Tuple [.Name x px, .Name y py] kt pt] (.Tuple [a, b] k2 pt2) pos) (mPar i j ma) :=
  wkS (ps_par hc hN hi hj hij hx hy ha hw hs) fun D σ H ⟨m, ρ, h, s, rs, o⟩ => ⟨m, ρ, h, s, rs, (OutS.bind rs o).mono fun vs H1 ⟨m1, h1, av, l1, s1, r1, o1⟩ => by
    split at o1
    · obtain ⟨v, w, rfl, r1, r2⟩ := r1.two
      exact ⟨v, w, rfl, o1 m1 H1 _ .refl s1 (((rs.le l1).set (.val r1) i).set (.val r2) j)⟩
    · exact o1.elim⟩
theorem sm_par3 {i j l : Nat} {x y z : Str} {a b c : Expr} {px py pz pt : Pos} {kt k2 pt2} (hN : X.N.Nodup) (ha : PAm X W [a, b, c] ma) (hi : X.N[i]? = some x := by rfl) (hj : X.N[j]? = some y := by rfl) (hl : X.N[l]? = some z := by rfl) (hij : i ≠ j := by decide) (hil : i ≠ l := by decide) (hjl : j ≠ l := by decide)
    (hx : X.env.scope.names.lookup x = some .local := by rfl) (hy : X.env.scope.names.lookup y = some .local := by rfl) (hz : X.env.scope.names.lookup z = some .local := by rfl) (hc : X.calm = true := by rfl)
    (hw : swappedStores [.Tuple [.Name x px, .Name y py, .Name z pz] kt pt] (.Tuple [a, b, c] k2 pt2) X.env = pure (some [x, y, z]) := by rfl)
    (hs : swapsWithSole [.Tuple [.Name x px, .Name y py, .Name z pz] kt pt] (.Tuple [a, b, c] k2 pt2) pos.line X.env = pure false := by rfl) :
    PSm X W (.Assign [.Tuple [.Name x px, .Name y py, .Name z pz] kt pt] (.Tuple [a, b, c] k2 pt2) pos) (mPar3 i j l ma) :=
  wkS (ps_par3 hc hN hi hj hl hij hil hjl hx hy hz ha hw hs) fun D σ H ⟨m, ρ, h, s, rs, o⟩ => ⟨m, ρ, h, s, rs, (OutS.bind rs o).mono fun vs H1 ⟨m1, h1, av, l1, s1, r1, o1⟩ => by
    split at o1
    · obtain ⟨u, v, w, rfl, r0, r1, r2⟩ := r1.three
      exact ⟨u, v, w, rfl, o1 m1 H1 _ .refl s1 ((((rs.le l1).set (.val r0) i).set (.val r1) j).set (.val r2) l)⟩
    · exact o1.elim⟩
/-! ### name op= e -/
def mAug (i : Nat) (f : PV → PV → HS → R PV) (a : Mi PV) (ρ : Pn) (h : HS) : SR := match ρ[i]? with
  | some (some x) => (a ρ h).bindS ρ fun y h1 => (f x y h1).bindS ρ fun z h2 => .nx (ρ.set i (some z)) h2
  | _ => .no
theorem sm_aug {i : Nat} {x : Str} {e : Expr} {me : Mi PV} {op : Operator} {f : PV → PV → HS → R PV} {pos' : Pos} (hN : X.N.Nodup) (ho : OpM X W (inplaceOp op) f) (he : PEm X W e me) (hi : X.N[i]? = some x := by rfl) (hx : Loc X.env.scope x := by first | exact Or.inl rfl | exact Or.inr rfl) (hf : X.fn x = true ∨ X.env.scope.names.lookup x = some .local := by first | exact .inl rfl | exact .inr rfl | assumption) :
    PSm X W (.AugAssign (.Name x pos') op e pos) (mAug i f me) := by
  obtain ⟨r, h1, h2⟩ := ho
  exact wkS (ps_aug hN hi hx he (fun pins s σ H x y v u Q I r1 r2 q => h1 pins s σ H x y v u Q I r1 r2 q) hf) fun D σ H ⟨m, ρ, h, s, rs, o⟩ => by
    unfold mAug at o
    split at o
    · rename_i v e1
      obtain ⟨w, ew, rw'⟩ := rs.get e1
      refine ⟨w, ew, m, ρ, h, s, rs, (OutS.bind rs o).mono fun y H1 ⟨m1, h1', av, l1, s1, r1, o1⟩ => ?_⟩
      exact h2 _ _ _ σ _ _ _ _ _ s1 (rw'.le l1) r1 ((OutS.bind (rs.le l1) o1).mono fun z H2 ⟨m2, h2', bv, l2, s2, r2, o2⟩ => o2 m2 H2 _ .refl s2 (((rs.le l1).le l2).set (.val r2) i))
    · exact o.elim
/-! ### while -/
def whileN (c : Mi Bool) (b : Ms) : Nat → Ms
  | 0, _, _ => .no
  | n + 1, ρ, h => (c ρ h).bindS ρ fun k h1 => if k = true then (b ρ h1).loop (whileN c b n) else .nx ρ h1
open Classical in
noncomputable def mWhile (c : Mi Bool) (b : Ms) : Ms := fun ρ h => if e : ∃ n, whileN c b n ρ h ≠ .no then whileN c b e.choose ρ h else .no
theorem whileN_more (c : Mi Bool) (b : Ms) : ∀ (n k : Nat) (ρ : Pn) (h : HS), whileN c b n ρ h ≠ .no → whileN c b (n + k) ρ h = whileN c b n ρ h
  | 0, _, _, _, e => absurd rfl e
  | n + 1, k, ρ, h, e => by
    rw [show n + 1 + k = (n + k) + 1 by omega]
    unfold whileN at e ⊢
    cases hc : c ρ h with
    | no => rfl
    | ex e' h' => rfl
    | ok kk h1 =>
      rw [hc] at e
      simp only [R.bindS_ok] at e ⊢
      cases kk with
      | false => rfl
      | true =>
        simp only [if_true] at e ⊢
        cases hb : b ρ h1 with
        | nx ρ2 h2 =>
          rw [hb] at e
          exact whileN_more c b n k ρ2 h2 e
        | ct ρ2 h2 =>
          rw [hb] at e
          exact whileN_more c b n k ρ2 h2 e
        | bk ρ2 h2 => rfl
        | rt v h2 => rfl
        | ex e1 ρ2 h2 => rfl
        | no => rfl
theorem mWhile_of {c : Mi Bool} {b : Ms} {n : Nat} {ρ : Pn} {h : HS} {r : SR} (e : whileN c b n ρ h = r) (hr : r ≠ .no) : mWhile c b ρ h = r := by
  have ex : ∃ n, whileN c b n ρ h ≠ .no := ⟨n, by rw [e]; exact hr⟩
  unfold mWhile
  rw [dif_pos ex]
  have h1 := ex.choose_spec
  have h2 := whileN_more c b ex.choose n ρ h h1
  have h3 := whileN_more c b n ex.choose ρ h (by rw [e]; exact hr)
  rw [Nat.add_comm] at h3
  rw [← h2, h3, e]
theorem mWhile_in {c : Mi Bool} {b : Ms} {ρ : Pn} {h : HS} {r : SR} (e : mWhile c b ρ h = r) (hr : r ≠ .no) : ∃ n, whileN c b n ρ h = r := by
  unfold mWhile at e
  split at e
  · exact ⟨_, e⟩
  · exact absurd e.symm hr
/-- what comes behind a turn, by k -/
theorem loop_back {r : SR} {k k' : Ms} {z : SR} (e : r.loop k = z) (hz : z ≠ .no) (hk : ∀ ρ h, k ρ h = z → k' ρ h = z) : r.loop k' = z := by
  cases r with
  | nx ρ h => exact hk _ _ e
  | ct ρ h => exact hk _ _ e
  | bk ρ h => exact e
  | rt v h => exact e
  | ex x ρ h => exact e
  | no => exact e
theorem mWhile_eq (c : Mi Bool) (b : Ms) (ρ : Pn) (h : HS) : mWhile c b ρ h = (c ρ h).bindS ρ fun k h1 => if k = true then (b ρ h1).loop (mWhile c b) else .nx ρ h1 := by
  by_cases hz : mWhile c b ρ h = .no
  · rw [hz]
    by_cases hr : ((c ρ h).bindS ρ fun k h1 => if k = true then (b ρ h1).loop (mWhile c b) else .nx ρ h1) = .no
    · exact hr.symm
    · exfalso
      refine absurd (?_ : mWhile c b ρ h = ((c ρ h).bindS ρ fun k h1 => if k = true then (b ρ h1).loop (mWhile c b) else .nx ρ h1)) (by rw [hz]; exact fun z => hr z.symm)
      cases hc : c ρ h with
      | no => rw [hc] at hr; exact absurd rfl hr
      | ex e' h' => exact mWhile_of (n := 1) (by unfold whileN; rw [hc]; rfl) (by intro z; cases z)
      | ok kk h1 =>
        rw [hc] at hr
        simp only [R.bindS_ok] at hr ⊢
        cases kk with
        | false => exact mWhile_of (n := 1) (by unfold whileN; rw [hc]; rfl) (by intro z; cases z)
        | true =>
          simp only [if_true] at hr ⊢
          cases hb : b ρ h1 with
          | nx ρ2 h2 =>
            rw [hb] at hr
            obtain ⟨n, en⟩ := mWhile_in (c := c) (b := b) (ρ := ρ2) (h := h2) rfl hr
            exact mWhile_of (n := n + 1) (by unfold whileN; rw [hc]; simp only [R.bindS_ok, if_true, hb, SR.loop_nx]; exact en) hr
          | ct ρ2 h2 =>
            rw [hb] at hr
            obtain ⟨n, en⟩ := mWhile_in (c := c) (b := b) (ρ := ρ2) (h := h2) rfl hr
            exact mWhile_of (n := n + 1) (by unfold whileN; rw [hc]; simp only [R.bindS_ok, if_true, hb, SR.loop_ct]; exact en) hr
          | bk ρ2 h2 => exact mWhile_of (n := 1) (by unfold whileN; rw [hc]; simp only [R.bindS_ok, if_true, hb]; rfl) (by intro z; cases z)
          | rt v h2 => exact mWhile_of (n := 1) (by unfold whileN; rw [hc]; simp only [R.bindS_ok, if_true, hb]; rfl) (by intro z; cases z)
          | ex e1 ρ2 h2 => exact mWhile_of (n := 1) (by unfold whileN; rw [hc]; simp only [R.bindS_ok, if_true, hb]; rfl) (by intro z; cases z)
          | no => rw [hb] at hr; exact absurd rfl hr
  · obtain ⟨n, en⟩ := mWhile_in (c := c) (b := b) rfl hz
    cases n with
    | zero => exact absurd en.symm hz
    | succ n =>
      rw [← en]
      rw [← en] at hz
      unfold whileN at hz ⊢
      cases hc : c ρ h with
      | no => rfl
      | ex e' h' => rfl
      | ok kk h1 =>
        rw [hc] at hz
        simp only [R.bindS_ok] at hz ⊢
        cases kk with
        | false => rfl
        | true =>
          simp only [if_true] at hz ⊢
          exact (loop_back rfl hz fun ρ2 h2 e => mWhile_of e hz).symm
theorem sm_while {c : Expr} {body : List Stmt} {mc : Mi Bool} {mb : Ms} (hp : PassesOwn (model X.prog X.w) X.A X.env X.xe) (hc : PTm X W c mc) (hb : PSsm X W body mb) : PSm X W (.While c body [] pos) (mWhile mc mb) :=
  wkS (ps_while hp hc hb) fun D σ H ⟨m, ρ, h, s, rs, o⟩ => by
    refine ⟨fun n σ2 H2 => ∃ m2 ρ2 h2, Sim X.K X.mg m2 h2 H2 ∧ RS m2 H2 ρ2 σ2 ∧ OutS X.K X.mg W m2 H2 D (whileN mc mb n ρ2 h2), ?_, ?_⟩
    · unfold mWhile at o
      split at o
      · rename_i ex
        exact ⟨_, m, ρ, h, s, rs, o⟩
      · exact o.elim
    · rintro n σ2 H2 ⟨m2, ρ2, h2, s2, rs2, o2⟩
      cases n with
      | zero => exact o2.elim
      | succ n =>
        unfold whileN at o2
        refine ⟨m2, ρ2, h2, s2, rs2, (OutS.bind rs2 o2).mono fun k H3 ⟨m3, h3, av, l3, s3, r3, o3⟩ => ?_⟩
        cases r3
        cases k with
        | false => exact iteF (o3 m3 H3 σ2 .refl s3 (rs2.le l3))
        | true =>
          refine iteT ⟨fun σ4 H4 => ∃ m4 ρ4 h4, Sim X.K X.mg m4 h4 H4 ∧ RS m4 H4 ρ4 σ4 ∧ OutS X.K X.mg W m4 H4 D (whileN mc mb n ρ4 h4), fun σ4 H4 z => ⟨n, Nat.lt_succ_self n, z⟩, m3, ρ2, h3, s3, rs2.le l3, ?_⟩
          simp only [if_true] at o3
          cases hb4 : mb ρ2 h3 with
          | nx ρ5 h5 =>
            rw [hb4] at o3
            exact fun m5 H5 σ5 l5 s5 rs5 => ⟨m5, ρ5, h5, s5, rs5, OutS.later o3 l5⟩
          | ct ρ5 h5 =>
            rw [hb4] at o3
            exact fun m5 H5 σ5 l5 s5 rs5 => ⟨m5, ρ5, h5, s5, rs5, OutS.later o3 l5⟩
          | bk ρ5 h5 => rw [hb4] at o3; exact o3
          | rt v5 h5 => rw [hb4] at o3; exact o3
          | ex e5 ρ5 h5 => rw [hb4] at o3; exact o3
          | no => rw [hb4] at o3; exact o3
/-! ### methods of built-in types -/
def MtM' (X : Cx) (W : WX) (id : String) (f : PV → List PV → HS → R PV) : Prop :=
  ∃ r, MtR X id r ∧ ∀ m h H σ Q x xs v vs, Sim X.K X.mg m h H → RV m H x v → RVs m H xs vs → Out X.K X.mg W RV m H σ Q (f x xs h) → r v vs H Q
/-- the receiver is seen first -/
def mMeth (T : PV → HS → Bool) (f : PV → List PV → HS → R PV) (a : Mi PV) (as : Mi (List PV)) (ρ : Pn) (h : HS) : R PV := (a ρ h).bind fun x h1 => if T x h1 = true then (as ρ h1).bind fun xs h2 => f x xs h2 else .no
@[simp] def isLst (x : PV) (h : HS) : Bool := (lstOf h x).isSome
@[simp] def isDic (x : PV) (h : HS) : Bool := (dicOf h x).isSome
@[simp] def isStr (x : PV) (_ : HS) : Bool := match x with
  | .str _ => true
  | _ => false
def TyOk (X : Cx) (T : String) (t : PV → HS → Bool) : Prop := ∀ m h H x v, Sim X.K X.mg m h H → RV m H x v → t x h = true → tyV X.K T v H
theorem ty_list : TyOk X "list" isLst := fun m h H x v s r e => by
  obtain ⟨xs, e1⟩ := Option.isSome_iff_exists.mp e
  obtain ⟨a, ys, rfl, q, _⟩ := lstOf_at s r e1
  exact .inl ⟨rfl, _, SqL.of q⟩
theorem ty_dict : TyOk X "dict" isDic := fun m h H x v s r e => by
  obtain ⟨xs, e1⟩ := Option.isSome_iff_exists.mp e
  obtain ⟨a, ys, rfl, q, _⟩ := dicOf_at s r e1
  exact .inr (.inr (.inl ⟨rfl, .inl ⟨_, q⟩⟩))
theorem ty_str : TyOk X "str" isStr := fun m h H x v s r e => by
  cases r <;> first | rfl | cases e
theorem em_meth {o e : Expr} {es : List Expr} {mo : Mi PV} {mes : Mi (List PV)} {name : Str} {apos : Pos} {T id : String} {t : PV → HS → Bool} {f : PV → List PV → HS → R PV} (pa : PlainAttrs T) (slot : Slot T name id) (hty : typeOf (.builtin id) = pure (.type "method_descriptor")) (tt : TyOk X T t) (hm : MtM' X W id f) (ho : PEm X W o mo) (ha : PAm X W (e :: es) mes)
    (hbase : attributeBase o name X.env (eval o X.env) = eval o X.env := by rfl)
    (hfew : ((backTo pos (starEach (e :: es) X.env)).all (fun x => !x.1) && (backToKw pos (keywordEach [] X.env)).all (fun x => x.1.isSome)
      && decide ((e :: es).length + ([] : List Keyword).length + (if ([] : List Keyword).isEmpty then 0 else 1) < 30)) = true := by rfl)
    (hline : (apos.endLine == pos.line) = true := by rfl) (hs : starEach (e :: es) X.env = (false, eval e X.env) :: starEach es X.env := by rfl) (hplain : (backTo pos (starEach es X.env)).any (·.1) = false := by rfl) :
    PEm X W (.Call (.Attribute o name apos) (e :: es) [] pos) (mMeth t f mo mes) := by
  obtain ⟨r, h1, h2⟩ := hm
  exact wkE (pe_bm pa slot hty h1 ho ha hbase hfew hline hs hplain) fun σ H Q ⟨m, ρ, h, s, rs, oo⟩ => ⟨m, ρ, h, s, rs, oo.bind.mono fun x H1 ⟨m1, h1, av, l1, s1, r1, o1⟩ => by
    split at o1
    · rename_i ht
      exact ⟨tt _ _ _ _ _ s1 r1 ht, m1, ρ, h1, s1, rs.le l1, o1.bind.mono fun xs H2 ⟨m2, h2', bv, l2, s2, r2, o2⟩ => h2 _ _ _ _ _ _ _ _ _ s2 (r1.le l2) r2 o2⟩
    · exact o1.elim⟩
theorem em_meth0 {o : Expr} {mo : Mi PV} {name : Str} {apos : Pos} {T id : String} {t : PV → HS → Bool} {f : PV → List PV → HS → R PV} (pa : PlainAttrs T) (slot : Slot T name id) (hty : typeOf (.builtin id) = pure (.type "method_descriptor")) (tt : TyOk X T t) (hm : MtM' X W id f) (ho : PEm X W o mo)
    (hbase : attributeBase o name X.env (eval o X.env) = eval o X.env := by rfl) (hline : (apos.endLine == pos.line) = true := by rfl) :
    PEm X W (.Call (.Attribute o name apos) [] [] pos) (mMeth t f mo mNil) := by
  obtain ⟨r, h1, h2⟩ := hm
  exact wkE (pe_bm0 pa slot hty h1 ho hbase hline) fun σ H Q ⟨m, ρ, h, s, rs, oo⟩ => ⟨m, ρ, h, s, rs, oo.bind.mono fun x H1 ⟨m1, h1, av, l1, s1, r1, o1⟩ => by
    split at o1
    · rename_i ht
      exact ⟨tt _ _ _ _ _ s1 r1 ht, h2 _ _ _ _ _ _ _ _ _ s1 r1 .nil o1⟩
    · exact o1.elim⟩
@[simp] def lApp : PV → List PV → HS → R PV := fun x xs h => match x, xs with
  | .ref n, [y] => match h[n]? with
    | some (.lst ys) => if ys.length < 16777216 then .ok .non (h.set n (.lst (ys ++ [y]))) else .no
    | _ => .no
  | _, _ => .no
@[simp] def lExt : PV → List PV → HS → R PV := fun x xs h => match x, xs with
  | .ref n, [.ref k] => match h[n]?, h[k]? with
    | some (.lst ys), some (.lst zs) => if ys.length + zs.length ≤ 16777216 then .ok .non (h.set n (.lst (ys ++ zs))) else .no
    | _, _ => .no
  | _, _ => .no
@[simp] def lPop0 : PV → List PV → HS → R PV := fun x xs h => match x, xs with
  | .ref n, [] => match h[n]? with
    | some (.lst ys) => match ys[ys.length - 1]? with
      | some y => .ok y (h.set n (.lst ys.dropLast))
      | none => .no
    | _ => .no
  | _, _ => .no
@[simp] def lClear : PV → List PV → HS → R PV := fun x xs h => match x, xs with
  | .ref n, [] => match h[n]? with
    | some (.lst _) => .ok .non (h.set n (.lst []))
    | _ => .no
  | _, _ => .no
@[simp] def lRev : PV → List PV → HS → R PV := fun x xs h => match x, xs with
  | .ref n, [] => match h[n]? with
    | some (.lst ys) => .ok .non (h.set n (.lst ys.reverse))
    | _ => .no
  | _, _ => .no
theorem new_put {W : WX} {m : List Addr} {h : HS} {H : Hp} {σ : St} {Q : VK} {n : Nat} {a : Addr} {xs xs' : List PV} {ys ys' : List V} {x : PV} {v : V} (s : Sim X.K X.mg m h H) (e : h[n]? = some (.lst xs)) (g : m[n]? = some a) (hH : H a = some (.lst ys)) (r : RVs m H xs' ys') (rv : RV m H x v) (o : Out X.K X.mg W RV m H σ Q (.ok x (h.set n (.lst xs')))) : Q v (upd H a (.lst ys')) := by
  have l : Le m H m (upd H a (.lst ys')) := le_put g hH trivial
  exact o m _ v l (s.put e g ⟨_, upd_same, r.le l⟩) (rv.le l)
theorem RVs.dropLast {m : List Addr} {H : Hp} {xs : List PV} {vs : List V} (r : RVs m H xs vs) : RVs m H xs.dropLast vs.dropLast := by
  rw [List.dropLast_eq_take, List.dropLast_eq_take, r.length]
  exact r.take _
theorem l_app : MtM' X W "list.append" lApp := by
  refine ⟨_, mt_append, fun m h H σ Q x xs v vs s r rr o => ?_⟩
  unfold lApp at o
  split at o
  · obtain ⟨w, rfl, ry⟩ := rr.one
    split at o
    · rename_i ys e
      split at o
      · rename_i hl
        cases r with
        | ref g =>
          obtain ⟨zs, q, rz⟩ := s.obj _ _ _ e g
          exact ⟨_, zs, w, rfl, rfl, q, by rw [line16, ← rz.length]; exact hl, new_put s e g q (rz.app (.cons ry .nil)) .non o⟩
      · exact o.elim
    · exact o.elim
  · exact o.elim
theorem l_ext : MtM' X W "list.extend" lExt := by
  refine ⟨_, mt_extend, fun m h H σ Q x xs v vs s r rr o => ?_⟩
  unfold lExt at o
  split at o
  · obtain ⟨w, rfl, ry⟩ := rr.one
    split at o
    · rename_i ys zs e e'
      split at o
      · rename_i hl
        cases r with
        | ref g =>
          cases ry with
          | ref g' =>
            obtain ⟨us, q, rz⟩ := s.obj _ _ _ e g
            obtain ⟨ws, q', rz'⟩ := s.obj _ _ _ e' g'
            exact ⟨_, _, us, ws, rfl, rfl, q, q', by rw [line16, ← rz.length, ← rz'.length]; exact hl, new_put s e g q (rz.app rz') .non o⟩
      · exact o.elim
    · exact o.elim
  · exact o.elim
theorem l_pop0 : MtM' X W "list.pop" lPop0 := by
  refine ⟨_, mt_pop, fun m h H σ Q x xs v vs s r rr o => ?_⟩
  unfold lPop0 at o
  split at o
  · cases rr
    split at o
    · rename_i ys e
      split at o
      · rename_i y ey
        cases r with
        | ref g =>
          obtain ⟨us, q, rz⟩ := s.obj _ _ _ e g
          obtain ⟨w, ew, rw'⟩ := rz.get ey
          exact ⟨_, us, w, rfl, rfl, q, by rw [← rz.length]; exact ew, new_put s e g q rz.dropLast rw' o⟩
      · exact o.elim
    · exact o.elim
  · exact o.elim
theorem l_clear : MtM' X W "list.clear" lClear := by
  refine ⟨_, mt_clear, fun m h H σ Q x xs v vs s r rr o => ?_⟩
  unfold lClear at o
  split at o
  · cases rr
    split at o
    · rename_i ys e
      cases r with
      | ref g =>
        obtain ⟨us, q, rz⟩ := s.obj _ _ _ e g
        exact ⟨_, us, rfl, rfl, q, new_put s e g q .nil .non o⟩
    · exact o.elim
  · exact o.elim
theorem l_rev : MtM' X W "list.reverse" lRev := by
  refine ⟨_, mt_reverse, fun m h H σ Q x xs v vs s r rr o => ?_⟩
  unfold lRev at o
  split at o
  · cases rr
    split at o
    · rename_i ys e
      cases r with
      | ref g =>
        obtain ⟨us, q, rz⟩ := s.obj _ _ _ e g
        exact ⟨_, us, rfl, rfl, q, new_put s e g q rz.rev .non o⟩
    · exact o.elim
  · exact o.elim
end
end Lt
namespace Lt
open PySem PySem.Spec PyProof.Rows L2
/-! ### rows of either kind under one iterator -/
def SqE (K : PySem.W.Frag) (k : Bool) (H : Hp) (a : Addr) (xs : List V) : Prop := if k = true then SqL K H a xs else SqT K H a xs
def AtI (k : Bool) (h : Heap) (it a : Addr) (i : Nat) : Prop := if k = true then h.IsListIter it a i else h.IsTupleIter it a i
def newI (k : Bool) (a : Addr) : Obj := if k = true then { cls := .type "list_iterator", data := .fields #[.ref a, .int 0 0] } else { cls := .type "tuple_iterator", data := .fields #[.ref a, .int 0 0] }
section
variable {X : Cx} {pins : List (Addr × Obj)} {σ : St} {H : Hp} {s : Shared} {k : Bool} {it a : Addr} {i : Nat} {xs ys : List V}
theorem AtI.obj {h : Heap} (q : AtI k h it a i) : ∃ o, h.get? it = some o ∧ ∀ v, o.data ≠ .cell v := by
  cases k with
  | true =>
    obtain ⟨o, e, _, d⟩ : h.IsListIter it a i := q
    exact ⟨o, e, fun v z => by rw [d] at z; cases z⟩
  | false =>
    obtain ⟨o, e, _, d⟩ : h.IsTupleIter it a i := q
    exact ⟨o, e, fun v z => by rw [d] at z; cases z⟩
theorem AtI.keep {h h' : Heap} (q : AtI k h it a i) (e : ∀ o, h.get? it = some o → h'.get? it = some o) : AtI k h' it a i := by
  cases k with
  | true => exact Heap.IsListIter.at (show h.IsListIter it a i from q) e
  | false => exact Heap.IsTupleIter.at (show h.IsTupleIter it a i from q) e
theorem sq_inj (I : Inv X pins σ H s) (p : SqE X.K k H a xs) (q : SqE X.K k H a ys) : xs = ys := by
  cases k with
  | true => exact I.list_inj p q
  | false => exact I.tuple_inj p q
/-- what an iterator over a row draws, and where the row lies -/
theorem sq_draws (I : Inv X pins σ H s) (q : SqE X.K k H a xs) : a < s.heap.objs.size ∧ ∃ us : List Value, Vals xs us ∧
    (∃ h0 : Heap → Prop, h0 s.heap ∧ Begins (.ref a) (newI k a) h0) ∧
    ∀ {w : World} {A : Around} (prog : Program) (it : Addr), A.handled = none → a ≠ it → ∃ st : Nat → Heap → Prop, Draws prog w A it [it, a] us.length (fun j v => us[j]? = some v) st ∧ (∀ j, AtI k s.heap it a j → st j s.heap) ∧ ∀ j h, st j h → AtI k h it a j := by
  cases k with
  | true =>
    obtain ⟨us, r, p, _⟩ := I.list q
    refine ⟨p.lt, us, r, ⟨_, p.isList, begins_list a _⟩, fun {w A} prog it hh ne => ⟨fun j h => h.IsListIter it a j ∧ h.IsList a us.toArray, ?_, fun j z => ⟨z, p.isList⟩, fun j h z => z.1⟩⟩
    simpa using Draws.list (prog := prog) (w := w) hh it a ne us.toArray
  | false =>
    obtain ⟨us, r, p, _⟩ := I.tuple q
    obtain ⟨o, ho, _⟩ := id p
    refine ⟨Heap.lt_size ho, us, r, ⟨_, p, begins_tuple a _⟩, fun {w A} prog it hh ne => ⟨fun j h => h.IsTupleIter it a j ∧ h.IsTuple a us.toArray, ?_, fun j z => ⟨z, p⟩, fun j h z => z.1⟩⟩
    simpa using Draws.tuple (prog := prog) (w := w) hh it a ne us.toArray
end
/-! ### two of them at once -/
def ItP (K : PySem.W.Frag) (k l : Bool) (a b : Addr) : It where
  go := fun i H => ∃ xs ys x y, SqE K k H a xs ∧ SqE K l H b ys ∧ xs[i]? = some x ∧ ys[i]? = some y
  yld := fun i H v H' => ∃ T x y, v = .ref T ∧ H T = none ∧ H' = upd H T (.tup [x, y]) ∧ (∀ xs, SqE K k H a xs → xs[i]? = some x) ∧ ∀ ys, SqE K l H b ys → ys[i]? = some y
  stop := fun i H => ∃ xs ys, SqE K k H a xs ∧ SqE K l H b ys ∧ i ≤ xs.length ∧ i ≤ ys.length ∧ (i = xs.length ∨ i = ys.length)
def stP (k l : Bool) (a b z TI TO i1 i2 : Addr) (i : Nat) (h : Heap) : Prop := IsZip h z TI TO .none ∧ IsTupOf2 h TI (.ref i1) (.ref i2) ∧ (∃ x y, IsTupOf2 h TO x y) ∧ AtI k h i1 a i ∧ AtI l h i2 b i
theorem turn_both {P : Program} {w : World} {K : PySem.W.Frag} {elts : List Expr} {kk : Nat} {tpos : Pos} {k l : Bool} {a b z TI TO i1 i2 : Addr} (S : ZipSep2 z TI TO i1 i2 [i1, a] [i2, b]) (na : a ≠ i1) (nb : b ≠ i2) :
    Turn P w K (.Tuple elts kk tpos) (ItP K k l a b) [z, TI, TO, i1, i2] z (stP k l a b z TI TO i1 i2) where
  mem := .head _
  obj := by
    rintro i h ⟨q1, q2, ⟨u, v, q3⟩, q4, q5⟩ c hc
    rcases (by simpa using hc : c = z ∨ c = TI ∨ c = TO ∨ c = i1 ∨ c = i2) with rfl | rfl | rfl | rfl | rfl
    · exact ⟨_, q1, nofun⟩
    · exact ⟨_, q2, nofun⟩
    · exact ⟨_, q3, nofun⟩
    · exact q4.obj
    · exact q5.obj
  keep := by
    rintro i h h' ⟨q1, q2, ⟨u, v, q3⟩, q4, q5⟩ m
    refine ⟨m z ?_ _ q1, m TI ?_ _ q2, ⟨u, v, m TO ?_ _ q3⟩, q4.keep fun o e => m i1 ?_ o e, q5.keep fun o e => m i2 ?_ o e⟩ <;> simp
  item := by
    rintro X rfl rfl rfl calm i pins s σ H E I hf ⟨q1, q2, ⟨u, v, q3⟩, q4, q5⟩ ⟨xs, ys, x, y, sa, sb, gx, gy⟩
    obtain ⟨_, us, ra, _, da⟩ := sq_draws I sa
    obtain ⟨_, vs, rb, _, db⟩ := sq_draws I sb
    obtain ⟨st1, D1, s1, t1⟩ := da (w := X.w) (A := X.A.in1) X.prog i1 (I.ok.hd calm) na
    obtain ⟨st2, D2, s2, t2⟩ := db (w := X.w) (A := X.A.in1) X.prog i2 (I.ok.hd calm) nb
    obtain ⟨ux, eux, rx⟩ := ra.get gx
    obtain ⟨uy, euy, ry⟩ := rb.get gy
    have lz : z < s.heap.objs.size := Heap.lt_size q1
    have l1 : i < us.length := (List.getElem?_eq_some_iff.mp eux).1
    have l2 : i < vs.length := (List.getElem?_eq_some_iff.mp euy).1
    refine wpAny_pyNext_zipD2_item S D1 D2 q1 q2 q3 (s1 i q4) (s2 i q5) l1 l2 fun v1 v2 g tk e1 e2 z1 z2 z3 z4 z5 _ kp => ?_
    rw [eux] at e1
    rw [euy] at e2
    cases e1
    cases e2
    refine ⟨_, rfl, wpAny_letOwnedTupleGo_zip (s := { s with heap := g, toks := tk }) z1 fun g' zz sm => ?_⟩
    have up : ∀ c, c ≠ z → ∀ o, g.get? c = some o → g'.get? c = some o := fun c n o e => (sm.2 c n).trans e
    have nz := up _ (Nat.ne_of_gt lz) _ z5
    have J : Inv X pins σ (upd H s.heap.objs.size (.tup [x, y])) { s with heap := g', toks := tk } :=
      I.turnedNew (ch := [z, TI, TO, i1, i2]) (fun c o hc e => by
        have hc' : ¬ (c = z ∨ c = TI ∨ c = TO ∨ c = i1 ∨ c = i2) := by simpa using hc
        simp only [not_or] at hc'
        exact up c hc'.1 o (kp c o hc'.1 hc'.2.2.1 hc'.2.2.2.1 hc'.2.2.2.2 e)) hf (Nat.le_refl _)
        (show ObjOk X.prog X.w _ g' _ (.tup [x, y]) from ⟨by show 2 ≤ sizeLine; decide, [ux, uy], .cons rx (.cons ry .nil), ⟨_, nz, rfl, _, rfl⟩⟩)
    refine ⟨.ref s.heap.objs.size, _, J, rfl, ⟨_, x, y, rfl, I.hok.fresh (Nat.le_refl _), rfl, fun xs' m => ?_, fun ys' m => ?_⟩, ⟨zz, ?_, ⟨ux, uy, ?_⟩, ?_, ?_⟩, fun c hc => ?_⟩
    · rw [sq_inj I m sa]; exact gx
    · rw [sq_inj I m sb]; exact gy
    · exact up TI S.TIz _ (kp TI _ S.TIz S.TITO S.TIi1 S.TIi2 q2)
    · exact up TO S.TOz _ z2
    · exact (t1 _ _ z3).keep fun o e => up i1 S.zi1.symm o e
    · exact (t2 _ _ z4).keep fun o e => up i2 S.zi2.symm o e
    · have lc : c < s.heap.objs.size := by
        rcases (by simpa using hc : c = z ∨ c = TI ∨ c = TO ∨ c = i1 ∨ c = i2) with rfl | rfl | rfl | rfl | rfl
        · exact lz
        · exact Heap.lt_size q2
        · exact Heap.lt_size q3
        · obtain ⟨o, e, _⟩ := q4.obj; exact Heap.lt_size e
        · obtain ⟨o, e, _⟩ := q5.obj; exact Heap.lt_size e
      rw [upd_ne (Nat.ne_of_lt lc)]
      exact (hf c hc).1
  done := by
    rintro X rfl rfl rfl calm i pins s σ H E I hf ⟨q1, q2, ⟨u, v, q3⟩, q4, q5⟩ ⟨xs, ys, sa, sb, la, lb, en⟩
    obtain ⟨_, us, ra, _, da⟩ := sq_draws I sa
    obtain ⟨_, vs, rb, _, db⟩ := sq_draws I sb
    obtain ⟨st1, D1, s1, t1⟩ := da (w := X.w) (A := X.A.in1) X.prog i1 (I.ok.hd calm) na
    obtain ⟨st2, D2, s2, t2⟩ := db (w := X.w) (A := X.A.in1) X.prog i2 (I.ok.hd calm) nb
    rw [ra.length] at la en
    rw [rb.length] at lb en
    refine wpAny_pyNext_zipD2_end S D1 D2 q1 q2 q3 (s1 i q4) (s2 i q5) la lb en fun g tk kp => ⟨rfl, I.turnedL (ch := [z, TI, TO, i1, i2]) (fun c o hc e => ?_) hf⟩
    have hc' : ¬ (c = z ∨ c = TI ∨ c = TO ∨ c = i1 ∨ c = i2) := by simpa using hc
    simp only [not_or] at hc'
    exact kp c o hc'.1 hc'.2.2.1 hc'.2.2.2.1 hc'.2.2.2.2 e
  self := fun A i s Q E q hQ => wpAny_pyIter_zip q.1 hQ
def iBoth (K : PySem.W.Frag) (ta : TA) : TI := fun σ H R => ta σ H fun vs H1 => ∃ a b k l xs ys, vs = [.ref a, .ref b] ∧ SqE K k H1 a xs ∧ SqE K l H1 b ys ∧ R (ItP K k l a b) H1
theorem newI_at (k : Bool) {h : Heap} {it a : Addr} (e : h.get? it = some (newI k a)) : AtI k h it a 0 := by
  cases k with
  | true => exact ⟨_, e, rfl, rfl⟩
  | false => exact ⟨_, e, rfl, rfl⟩
theorem pi_both {X : Cx} {e e2 : Expr} {ta : TA} {p pos tpos : Pos} {elts : List Expr} {kk : Nat} (hg : Gl X "zip") (hm : X.mg "zip" = none) (ha : PA X [e, e2] ta)
    (hs : starEach [e, e2] X.env = (false, eval e X.env) :: starEach [e2] X.env := by rfl) (hpl : (backTo pos (starEach [e2] X.env)).any (·.1) = false := by rfl) :
    PI X (.Tuple elts kk tpos) (.Call (.Name "zip" p) [e, e2] [] pos) (iBoth X.K ta) :=
  ⟨fun pins s σ H R I m => Call_ (ld_blt I hg hm PyProof.Rows.boot_zip (PyProof.Rows.callWith_type1 (thn (ha.run pos pins s σ H _ I m) fun us t ⟨vs, H1, I1, r1, o⟩ => by
    obtain ⟨a, b, k, l, xs, ys, rfl, sa, sb, o⟩ := o
    cases r1 with
    | cons ru rr =>
      cases rr with
      | cons rv rr =>
        cases rr
        cases ru
        cases rv
        obtain ⟨la, _, _, ⟨ha0, hb0, B1⟩, _⟩ := sq_draws I1 sa
        obtain ⟨lb, _, _, ⟨ha1, hb1, B2⟩, _⟩ := sq_draws I1 sb
        refine zip_begins2 B1 B2 hb0 hb1 fun g z1 z2 z3 z4 z5 _ kp => wpAny_pyIter_zip z1 ?_
        have I2 : Inv X pins σ H1 { t with heap := g } := I1.kept (t' := t.toks) kp
        have S : ZipSep2 (t.heap.objs.size + 4) (t.heap.objs.size + 2) (t.heap.objs.size + 3) t.heap.objs.size (t.heap.objs.size + 1) [t.heap.objs.size, a] [t.heap.objs.size + 1, b] :=
          zip_sep2 (fp1 := [a]) (fp2 := [b]) (fun c hc => by rw [List.mem_singleton.mp hc]; exact la) (fun c hc => by rw [List.mem_singleton.mp hc]; exact lb)
        refine ⟨_, [t.heap.objs.size + 4, t.heap.objs.size + 2, t.heap.objs.size + 3, t.heap.objs.size, t.heap.objs.size + 1], _, _, H1, rfl, I2, turn_both S (Nat.ne_of_lt la) (Nat.ne_of_lt (Nat.lt_succ_of_lt lb)), ⟨z1, z2, ⟨_, _, z3⟩, newI_at k z4, newI_at l z5⟩, fun c hc => ?_, o⟩
        have : t.heap.objs.size ≤ c := by
          rcases (by simpa using hc : c = t.heap.objs.size + 4 ∨ c = t.heap.objs.size + 2 ∨ c = t.heap.objs.size + 3 ∨ c = t.heap.objs.size ∨ c = t.heap.objs.size + 1) with rfl | rfl | rfl | rfl | rfl
          · exact Nat.le_add_right _ _
          · exact Nat.le_add_right _ _
          · exact Nat.le_add_right _ _
          · exact Nat.le_refl _
          · exact Nat.le_add_right _ _
        exact I1.fpOk this (I1.hok.fresh this)) hs hpl))⟩
end Lt
namespace Lt
open PySem PySem.Spec PyProof.Rows L2
/-! ### enumerate of a row of either kind -/
theorem enum_made {v : Value} {o : Obj} {G : Heap → Prop} (B : Begins v o G) : Meets (Builtin.«enumerate.__new__» ⟨[.type "enumerate", v], []⟩) (fun _ R s => G s.heap ∧
    R (.ok (.ret (.ref (s.heap.push o).objs.size))) { s with heap := (s.heap.push o).push { cls := .type "enumerate", data := .fields #[.none, .bool false, .ref s.heap.objs.size, rawInt 0, .none, .none] } }) :=
  .of_wp fun prog w A R s m => by
    obtain ⟨hp, gs, dr, tk, os⟩ := s
    obtain ⟨m1, m2⟩ := m
    have hsub := sub_enumerate
    have go : ∀ {A' : Around} {E Q : Value → Shared → Prop}, Q (.ref hp.objs.size) ⟨hp.push o, gs, dr, tk, os⟩ → wpAny (model prog w) A' (pyIter v) Q E ⟨hp, gs, dr, tk, os⟩ := fun q => B.iter prog w _ _ _ _ m1 q
    wp_walk using go
    refine wpAny_stack_any fun _ => wpAny_pure ?_
    split
    · rename_i c _ _ _ _ _
      cases (c == Value.type "enumerate") <;> (wp_walk using go; exact ⟨_, rfl, m2⟩)
    · wp_walk using go
      exact ⟨_, rfl, m2⟩
theorem enum_new {prog : Program} {w : World} {A : Around} {E : Value → Shared → Prop} {s : Shared} {v : Value} {o : Obj} {G : Heap → Prop} {Q : Value → Shared → Prop} (B : Begins v o G) (m : G s.heap)
    (q : ∀ g, IsEnum g (s.heap.objs.size + 1) s.heap.objs.size 0 .none → g.get? s.heap.objs.size = some o → (∀ b u, s.heap.get? b = some u → g.get? b = some u) → Q (.ref (s.heap.objs.size + 1)) { s with heap := g }) :
    wpAny (model prog w) A (call (.type "enumerate") [v]) Q E s := by
  have z : (s.heap.push o).objs.size = s.heap.objs.size + 1 := Heap.size_push ..
  have last : ∀ u : Obj, u.isFreed = false → ((s.heap.push o).push u).get? (s.heap.objs.size + 1) = some u := fun u f => by
    have := Heap.get?_push_size (s.heap.push o) (o := u) f
    rw [z] at this
    exact this
  refine callType_new F.called_enumerate (by decide) (F.typeCall_enumerate_1 _) (F.newCall_enumerate_1 _) (fun _ => F.args_object_init_2 _ _) F.entry_enumerate_new (enum_made B) ⟨m, ?_⟩
  show _ ∧ _
  rw [z]
  exact ⟨⟨_, last _ rfl, rfl⟩, q _ (last _ rfl) (Heap.get?_push_of_some _ (Heap.get?_push_size _ B.free)) fun b u e => Heap.get?_push_of_some _ (Heap.get?_push_of_some _ e)⟩
def ItN (K : PySem.W.Frag) (k : Bool) (a : Addr) : It where
  go := fun i H => ∃ xs x, SqE K k H a xs ∧ xs[i]? = some x
  yld := fun i H v H' => ∃ T x, v = .ref T ∧ H T = none ∧ H' = upd H T (.tup [.int (i : Int), x]) ∧ ∀ xs, SqE K k H a xs → xs[i]? = some x
  stop := fun i H => ∃ xs, SqE K k H a xs ∧ i = xs.length
theorem turn_num {P : Program} {w : World} {K : PySem.W.Frag} {elts : List Expr} {kk : Nat} {tpos : Pos} {k : Bool} {a e it : Addr} (ne : e ≠ it) (na : a ≠ it) (nea : e ≠ a) :
    Turn P w K (.Tuple elts kk tpos) (ItN K k a) [e, it] e (fun i h => (∃ old, IsEnum h e it (i : Int) old) ∧ AtI k h it a i) where
  mem := .head _
  obj := by
    rintro i h ⟨⟨u, q1⟩, q2⟩ c hc
    rcases (by simpa using hc : c = e ∨ c = it) with rfl | rfl
    · exact ⟨_, q1, nofun⟩
    · exact q2.obj
  keep := by
    rintro i h h' ⟨⟨u, q1⟩, q2⟩ m
    exact ⟨⟨u, m e (by simp) _ q1⟩, q2.keep fun o z => m it (by simp) o z⟩
  item := by
    rintro X rfl rfl rfl calm i pins s σ H E I hf ⟨⟨u, q1⟩, q2⟩ ⟨xs, x, sa, gx⟩
    obtain ⟨_, us, ra, _, da⟩ := sq_draws I sa
    obtain ⟨st, D, s1, t1⟩ := da (w := X.w) (A := X.A.in1) X.prog it (I.ok.hd calm) na
    obtain ⟨ux, eux, rx⟩ := ra.get gx
    have le : e < s.heap.objs.size := Heap.lt_size q1
    have li : it < s.heap.objs.size := by obtain ⟨o, z, _⟩ := q2.obj; exact Heap.lt_size z
    refine wpAny_pyNext_enum_itemC D q1 (s1 i q2) (List.getElem?_eq_some_iff.mp eux).1 ne (by simp [ne, nea]) fun v g tk e1 z1 z2 z3 _ kp => ?_
    rw [eux] at e1
    cases e1
    refine ⟨_, rfl, wpAny_letOwnedTupleGo_enum (s := { s with heap := g, toks := tk + 1 }) z1 fun g' zz sm => ?_⟩
    have up : ∀ c, c ≠ e → ∀ o, g.get? c = some o → g'.get? c = some o := fun c n o z => (sm.2 c n).trans z
    have nz := up _ (Nat.ne_of_gt le) _ z3
    have J : Inv X pins σ (upd H s.heap.objs.size (.tup [.int (i : Int), x])) { s with heap := g', toks := tk + 1 } :=
      I.turnedNew (ch := [e, it]) (fun c o hc z => by
        have hc' : ¬ (c = e ∨ c = it) := by simpa using hc
        simp only [not_or] at hc'
        exact up c hc'.1 o (kp c o hc'.1 hc'.2 z)) hf (Nat.le_refl _)
        (show ObjOk X.prog X.w _ g' _ (.tup [.int (i : Int), x]) from ⟨by show 2 ≤ sizeLine; decide, [.int (i : Int) tk, ux], .cons ⟨_, rfl⟩ (.cons rx .nil), ⟨_, nz, rfl, _, rfl⟩⟩)
    refine ⟨.ref s.heap.objs.size, _, J, rfl, ⟨_, x, rfl, I.hok.fresh (Nat.le_refl _), rfl, fun xs' m => ?_⟩, ⟨⟨ux, ?_⟩, ?_⟩, fun c hc => ?_⟩
    · rw [sq_inj I m sa]; exact gx
    · have ei : ((i + 1 : Nat) : Int) = (i : Int) + 1 := by omega
      rw [ei]
      exact zz
    · exact (t1 _ _ z2).keep fun o z => up it ne.symm o z
    · have lc : c < s.heap.objs.size := by
        rcases (by simpa using hc : c = e ∨ c = it) with rfl | rfl
        · exact le
        · exact li
      rw [upd_ne (Nat.ne_of_lt lc)]
      exact (hf c hc).1
  done := by
    rintro X rfl rfl rfl calm i pins s σ H E I hf ⟨⟨u, q1⟩, q2⟩ ⟨xs, sa, en⟩
    obtain ⟨_, us, ra, _, da⟩ := sq_draws I sa
    obtain ⟨st, D, s1, t1⟩ := da (w := X.w) (A := X.A.in1) X.prog it (I.ok.hd calm) na
    rw [ra.length] at en
    subst en
    exact wpAny_pyNext_enum_endD D q1 (s1 _ q2) fun g kp => ⟨rfl, I.turnedL (t' := s.toks) (ch := [e, it]) (fun c o hc z => kp c o (fun y => hc (by simp [y])) z) hf⟩
  self := fun A i s Q E q hQ => by
    obtain ⟨⟨u, q1⟩, _⟩ := q
    exact wpAny_pyIter_enum q1 hQ
def iNum (K : PySem.W.Frag) (ta : TA) : TI := fun σ H R => ta σ H fun vs H1 => ∃ a k xs, vs = [.ref a] ∧ SqE K k H1 a xs ∧ R (ItN K k a) H1
theorem pi_num {X : Cx} {e : Expr} {ta : TA} {p pos tpos : Pos} {elts : List Expr} {kk : Nat} (hg : Gl X "enumerate") (hm : X.mg "enumerate" = none) (ha : PA X [e] ta) (hs : starEach [e] X.env = [(false, eval e X.env)] := by rfl) :
    PI X (.Tuple elts kk tpos) (.Call (.Name "enumerate" p) [e] [] pos) (iNum X.K ta) :=
  ⟨fun pins s σ H R I m => Call_ (ld_blt I hg hm boot_enumerate (PyProof.Rows.callWith_type1 (thn (ha.run pos pins s σ H _ I m) fun us t ⟨vs, H1, I1, r1, o⟩ => by
    obtain ⟨a, k, xs, rfl, sa, o⟩ := o
    cases r1 with
    | cons ru rr =>
      cases rr
      cases ru
      obtain ⟨la, _, _, ⟨ha0, hb0, B1⟩, _⟩ := sq_draws I1 sa
      refine enum_new B1 hb0 fun g z1 z2 kp => wpAny_pyIter_enum z1 ?_
      have I2 : Inv X pins σ H1 { t with heap := g } := I1.kept (t' := t.toks) kp
      refine ⟨_, [t.heap.objs.size + 1, t.heap.objs.size], _, _, H1, rfl, I2, turn_num (k := k) (Nat.succ_ne_self _) (Nat.ne_of_lt la) (Nat.ne_of_gt (Nat.lt_succ_of_lt la)), ⟨⟨.none, z1⟩, newI_at k z2⟩, fun c hc => ?_, o⟩
      have : t.heap.objs.size ≤ c := by
        rcases (by simpa using hc : c = t.heap.objs.size + 1 ∨ c = t.heap.objs.size) with rfl | rfl
        · exact Nat.le_add_right _ _
        · exact Nat.le_refl _
      exact I1.fpOk this (I1.hok.fresh this)) hs rfl))⟩
end Lt
namespace Lt
open PySem PySem.Spec PyProof.Rows L2
@[simp] def pairP (x y : PV) : PV := .tup [x, y]
@[simp] def zipS : List PV → HS → R Src
  | [x, y], h => match seqOf h x, seqOf h y with
    | some xs, some ys => .ok ⟨List.zipWith pairP xs ys, fun h' => seqOf h' x = some xs ∧ seqOf h' y = some ys⟩ h
    | _, _ => .no
  | _, _ => .no
@[simp] def isL : PV → Bool
  | .ref _ => true
  | _ => false
section
variable {X : Cx} {W : WX} {m : List Addr} {H : Hp} {h : HS} {K : PySem.W.Frag} {mg : Str → Option Value}
/-- a row's value is a list or a tuple down there -/
theorem sq_of (s : Sim K mg m h H) {x : PV} {v : V} {xs : List PV} (r : RV m H x v) (e : seqOf h x = some xs) : ∃ a ys, v = .ref a ∧ SqE K (isL x) H a ys ∧ RVs m H xs ys := by
  cases r with
  | ref g =>
    obtain ⟨ys, q, rr⟩ := refOf_at s g e
    exact ⟨_, ys, rfl, q, rr⟩
  | tup g rr =>
    cases e
    exact ⟨_, _, rfl, SqT.of g, rr⟩
  | _ => cases e
theorem zip_get {xs ys : List PV} {i : Nat} {z : PV} (e : (List.zipWith pairP xs ys)[i]? = some z) : ∃ x y, xs[i]? = some x ∧ ys[i]? = some y ∧ z = .tup [x, y] := by
  rw [List.getElem?_zipWith] at e
  cases hx : xs[i]? with
  | none => rw [hx] at e; cases e
  | some x =>
    cases hy : ys[i]? with
    | none => rw [hx, hy] at e; cases e
    | some y =>
      rw [hx, hy] at e
      exact ⟨x, y, rfl, rfl, (Option.some.inj e).symm⟩
theorem le_pair {T : Addr} {x y : PV} {v w : V} (s : Sim K mg m h H) (hT : H T = none) (rx : RV m H x v) (ry : RV m H y w) : Le m H m (upd H T (.tup [v, w])) ∧ Sim K mg m h (upd H T (.tup [v, w])) ∧ RV m (upd H T (.tup [v, w])) (.tup [x, y]) (.ref T) :=
  ⟨le_new hT _, s.junk hT _, .tup upd_same (.cons (rx.le (le_new hT _)) (.cons (ry.le (le_new hT _)) .nil))⟩
theorem ri_both {x y : PV} {a b : Addr} {xs ys : List PV} (rx : RV m H x (.ref a)) (ry : RV m H y (.ref b)) :
    RI K mg m H ⟨List.zipWith pairP xs ys, fun h' => seqOf h' x = some xs ∧ seqOf h' y = some ys⟩ (ItP K (isL x) (isL y) a b) := fun i m2 h2 H2 l2 s2 ⟨g1, g2⟩ => by
  obtain ⟨_, vs, e1, q1, r1⟩ := sq_of s2 (rx.le l2) g1
  obtain ⟨_, ws, e2, q2, r2⟩ := sq_of s2 (ry.le l2) g2
  cases e1
  cases e2
  refine ⟨fun z hz => ?_, fun hl => ⟨vs, ws, q1, q2, ?_⟩⟩
  · obtain ⟨x', y', e1, e2, rfl⟩ := zip_get hz
    obtain ⟨v, ev, rv⟩ := r1.get e1
    obtain ⟨w, ew, rw'⟩ := r2.get e2
    refine ⟨⟨vs, ws, v, w, q1, q2, ev, ew⟩, fun u H' ⟨T, x2, y2, eu, hT, eH, f1, f2⟩ => ?_⟩
    have e3 := f1 _ q1
    have e4 := f2 _ q2
    rw [ev] at e3
    rw [ew] at e4
    cases e3
    cases e4
    subst eu eH
    exact le_pair s2 hT rv rw'
  · simp only [List.length_zipWith] at hl
    rw [r1.length, r2.length] at hl
    omega
theorem im_zip {e e2 : Expr} {ma : Mi (List PV)} {p pos tpos : Pos} {elts : List Expr} {kk : Nat} (hm : X.mg "zip" = none) (ha : PAm X W [e, e2] ma) (hg : Gl X "zip" := by rfl)
    (hs : starEach [e, e2] X.env = (false, eval e X.env) :: starEach [e2] X.env := by rfl) (hpl : (backTo pos (starEach [e2] X.env)).any (·.1) = false := by rfl) : PIm X W (.Tuple elts kk tpos) (.Call (.Name "zip" p) [e, e2] [] pos) (m1 zipS ma) :=
  wkI (pi_both hg hm ha hs hpl) fun σ H R ⟨m, ρ, h, s, rs, o⟩ => ⟨m, ρ, h, s, rs, o.bind.mono fun vs H1 ⟨m1, h1, av, l1, s1, r1, o1⟩ => by
    have inv : ∃ x y xs ys, av = [x, y] ∧ seqOf h1 x = some xs ∧ seqOf h1 y = some ys ∧ zipS av h1 = .ok ⟨List.zipWith pairP xs ys, fun h' => seqOf h' x = some xs ∧ seqOf h' y = some ys⟩ h1 := by
      revert o1
      unfold zipS
      intro o1
      split at o1
      · split at o1
        · exact ⟨_, _, _, _, rfl, by assumption, by assumption, rfl⟩
        · exact o1.elim
      · exact o1.elim
    obtain ⟨x, y, xs, ys, rfl, e1, e2, ez⟩ := inv
    rw [ez] at o1
    obtain ⟨v, w, rfl, rx, ry⟩ := r1.two
    obtain ⟨a, vs, rfl, qa, _⟩ := sq_of s1 rx e1
    obtain ⟨b, ws, rfl, qb, _⟩ := sq_of s1 ry e2
    exact ⟨a, b, _, _, vs, ws, rfl, qa, qb, o1 m1 H1 _ .refl s1 (ri_both rx ry)⟩⟩
/-! ### enumerate -/
def enumP (i : Nat) : List PV → List PV
  | [] => []
  | x :: xs => .tup [.int (i : Int), x] :: enumP (i + 1) xs
theorem enum_get : ∀ {xs : List PV} {i k : Nat} {z : PV}, (enumP k xs)[i]? = some z → ∃ x, xs[i]? = some x ∧ z = .tup [.int ((k + i : Nat) : Int), x]
  | [], i, k, z, e => by cases e
  | x :: xs, 0, k, z, e => ⟨x, rfl, (Option.some.inj e).symm⟩
  | x :: xs, i + 1, k, z, e => by
    obtain ⟨y, h1, h2⟩ := enum_get (xs := xs) (i := i) (k := k + 1) e
    refine ⟨y, h1, ?_⟩
    rw [h2, show k + 1 + i = k + (i + 1) by omega]
theorem enum_len : ∀ (xs : List PV) (k : Nat), (enumP k xs).length = xs.length
  | [], _ => rfl
  | x :: xs, k => by
    show (enumP (k + 1) xs).length + 1 = xs.length + 1
    rw [enum_len xs]
@[simp] def enumS : List PV → HS → R Src
  | [x], h => match seqOf h x with
    | some xs => .ok ⟨enumP 0 xs, fun h' => seqOf h' x = some xs⟩ h
    | _ => .no
  | _, _ => .no
theorem im_enum {e : Expr} {ma : Mi (List PV)} {p pos tpos : Pos} {elts : List Expr} {kk : Nat} (hm : X.mg "enumerate" = none) (ha : PAm X W [e] ma) (hg : Gl X "enumerate" := by rfl)
    (hs : starEach [e] X.env = [(false, eval e X.env)] := by rfl) : PIm X W (.Tuple elts kk tpos) (.Call (.Name "enumerate" p) [e] [] pos) (m1 enumS ma) :=
  wkI (pi_num hg hm ha hs) fun σ H R ⟨m, ρ, h, s, rs, o⟩ => ⟨m, ρ, h, s, rs, o.bind.mono fun vs H1 ⟨m1, h1, av, l1, s1, r1, o1⟩ => by
    have inv : ∃ x xs, av = [x] ∧ seqOf h1 x = some xs ∧ enumS av h1 = .ok ⟨enumP 0 xs, fun h' => seqOf h' x = some xs⟩ h1 := by
      revert o1
      unfold enumS
      intro o1
      split at o1
      · split at o1
        · exact ⟨_, _, rfl, by assumption, rfl⟩
        · exact o1.elim
      · exact o1.elim
    obtain ⟨x, xs, rfl, e1, ez⟩ := inv
    rw [ez] at o1
    obtain ⟨v, rfl, rx⟩ := r1.one
    obtain ⟨a, vs, rfl, qa, _⟩ := sq_of s1 rx e1
    refine ⟨a, _, vs, rfl, qa, o1 m1 H1 _ .refl s1 fun i m2 h2 H2 l2 s2 g1 => ?_⟩
    obtain ⟨_, vs, e3, q1, r1⟩ := sq_of s2 (rx.le l2) g1
    cases e3
    refine ⟨fun z hz => ?_, fun hl => ⟨vs, q1, by rw [enum_len] at hl; rw [← r1.length]; exact hl⟩⟩
    obtain ⟨x', e3, rfl⟩ := enum_get hz
    obtain ⟨v, ev, rv⟩ := r1.get e3
    refine ⟨⟨vs, v, q1, ev⟩, fun u H' ⟨T, x2, eu, hT, eH, f1⟩ => ?_⟩
    have e4 := f1 _ q1
    rw [ev] at e4
    cases e4
    subst eu eH
    rw [Nat.zero_add]
    exact le_pair s2 hT (.int _) rv⟩
end
end Lt
namespace Lt
open PySem PySem.Spec PyProof.Rows L2
/-! ### a law's own beginning -/
def stDic (c : Nat) (t : Int) : HB := .dic [(Sum.inr "cells", .ref c), (Sum.inr "turn", .int t)]
def spBegin (K : PySem.W.Frag) : Sp := fun vs H Q _ => ∃ (a : Addr) (ns : List Int), vs = [.ref a] ∧ SqL K H a (ns.map V.int) ∧ ns.length ≤ 63 ∧
  ∀ H' pc pd (cs : List Int), cs ≠ [] → cs.length ≤ 63 → pc ≠ pd → H' pc = some (.lst (cs.map V.int)) → H' pd = some (.dK [(Sum.inr "cells", .ref pc), (Sum.inr "turn", .int 0)]) → Q (.ref pd) H'
def BeginOk (b : Ms) : Prop := ∀ cs0 : List Int, ∃ n h' c cs, b [none, some (.ref 0)] [.lst (cs0.map PV.int)] = .rt (.ref n) h' ∧ h'[n]? = some (stDic c 0) ∧ h'[c]? = some (.lst (cs.map PV.int)) ∧ cs ≠ [] ∧ (cs0.length ≤ 63 → cs.length ≤ 63)
theorem cutV_ints (ns : List Int) (lo hi : Option Int) : ∃ cs : List Int, cutV (ns.map V.int) lo hi = cs.map V.int ∧ cs.length ≤ ns.length := by
  refine ⟨(ns.drop (HT.sIx ns.length 0 lo)).take (HT.sIx ns.length ns.length hi - HT.sIx ns.length 0 lo), ?_, ?_⟩
  · unfold cutV
    rw [List.length_map, List.map_take, List.map_drop]
  · rw [List.length_take, List.length_drop]
    omega
theorem begin_read {K : PySem.W.Frag} {mg : Str → Option Value} {W : WX} {a : Addr} {ns : List Int} {H : Hp} {Q : VK} {b : Ms} (hb : BeginOk b) (hS : SqL K H a (ns.map V.int)) (hl : ns.length ≤ 63)
    (q : ∀ H' pc pd (cs : List Int), cs ≠ [] → cs.length ≤ 63 → pc ≠ pd → H' pc = some (.lst (cs.map V.int)) → H' pd = some (.dK [(Sum.inr "cells", .ref pc), (Sum.inr "turn", .int 0)]) → Q (.ref pd) H') :
    tSeq (tAsg (tCB (fun xs H Q => ∃ p ys, xs = [.ref p] ∧ (SqL K H p ys ∨ SqT K H p ys) ∧ ∀ l, H l = none → Q (.ref l) (upd H l (.lst ys))) (tCons (tSl (rSlL K) (tVar 0) tNoPart (tPart (tC (.int 63)))) tNil)) (gName 1)) (tMS K mg W b) { nx := fun _ H' => Q .non H', rt := Q } [some (.ref a), none] H := by
  refine ⟨.ref a, rfl, 63, rfl, a, ns.map V.int, rfl, hS, fun p hp => ?_⟩
  refine ⟨p, _, rfl, .inl (SqL.of upd_same), fun l hl2 => ?_⟩
  obtain ⟨cs0, e0, hl0⟩ := cutV_ints ns none (some 63)
  rw [e0]
  obtain ⟨n, h', c, cs, eb, en, ec, hne, hlen⟩ := hb cs0
  refine ⟨[l], [none, some (.ref 0)], [.lst (cs0.map PV.int)], ⟨rfl, fun i o a' e1 e2 => ?_, fun i j a' oi oj e1 e2 e3 e4 => ?_⟩, .cons (.any _) (.cons (.val (.ref rfl)) .nil), ?_⟩
  · cases i with
    | zero =>
      cases e1
      cases e2
      exact ⟨_, upd_same, RVs.ints cs0⟩
    | succ i => simp at e1
  · cases i with
    | zero =>
      cases j with
      | zero => rfl
      | succ j => simp at e2
    | succ i => simp at e1
  · rw [eb]
    intro m' H' w l' s' r'
    cases r' with
    | ref g =>
      obtain ⟨vs, g1, rk⟩ := s'.obj _ _ _ en g
      cases rk with
      | cons r1 t1 =>
        cases t1 with
        | cons r2 t2 =>
          cases t2
          cases r1 with
          | ref g2 =>
            cases r2
            obtain ⟨ys, g3, rr⟩ := s'.obj _ _ _ ec g2
            have ey : ys = cs.map V.int := intsOf_at rr (by
              clear hne hlen ec en eb rr g3
              induction cs with
              | nil => rfl
              | cons x r ih => simp only [List.map_cons, intsOf, ih, Option.map_some])
            subst ey
            exact q H' _ _ cs hne (hlen (by omega)) (ne_of g3 g1 fun z => by cases z) g3 g1
/-- the state at the law's second statement -/
def LawOk (n : Nat) (b : Ms) : Prop := ∀ cs : List Int, cs ≠ [] → cs.length ≤ 63 → ∃ h', b (none :: some (.ref 1) :: List.replicate n none) [.lst (cs.map PV.int), stDic 0 0] = .rt (.bl true) h'
def spLaw (K : PySem.W.Frag) : Sp := fun vs H Q _ => ∃ (a : Addr) (ns : List Int), vs = [.ref a] ∧ SqL K H a (ns.map V.int) ∧ ns.length ≤ 63 ∧ ∀ H', Q (.bl true) H'
theorem law_read {K : PySem.W.Frag} {mg : Str → Option Value} {W : WX} {H : Hp} {Q : VK} {b : Ms} {n : Nat} {pc pd : Addr} {cs : List Int} {v0 : Option V} (hb : LawOk n b) (h1 : cs ≠ []) (h2 : cs.length ≤ 63) (hne : pc ≠ pd) (g1 : H pc = some (.lst (cs.map V.int)))
    (g2 : H pd = some (.dK [(Sum.inr "cells", .ref pc), (Sum.inr "turn", .int 0)])) (q : ∀ H', Q (.bl true) H') {D : Ends} (hD : D.rt = Q) : tMS K mg W b D (v0 :: some (.ref pd) :: List.replicate n none) H := by
  obtain ⟨h', eb⟩ := hb cs h1 h2
  refine ⟨[pc, pd], _, _, ⟨rfl, fun i o a' e1 e2 => ?_, fun i j a' oi oj e1 e2 e3 e4 => ?_⟩, ?_, by rw [eb]; exact fun m' H' w l s r => by cases r; rw [hD]; exact q H'⟩
  · cases i with
    | zero =>
      cases e1
      cases e2
      exact ⟨_, g1, RVs.ints cs⟩
    | succ i =>
      cases i with
      | zero =>
        cases e1
        cases e2
        exact ⟨_, g2, .cons (.ref rfl) (.cons (.int 0) .nil)⟩
      | succ i => simp at e1
  · have hi : i = 0 ∨ i = 1 := by
      have := (List.getElem?_eq_some_iff.mp e1).1
      simp only [List.length_cons, List.length_nil] at this
      omega
    have hj : j = 0 ∨ j = 1 := by
      have := (List.getElem?_eq_some_iff.mp e2).1
      simp only [List.length_cons, List.length_nil] at this
      omega
    rcases hi with rfl | rfl <;> rcases hj with rfl | rfl
    · rfl
    · cases e3
      cases e4
      exact absurd rfl hne
    · cases e3
      cases e4
      exact absurd rfl hne
    · rfl
  · refine .cons (.any _) (.cons (.val (.ref rfl)) ?_)
    induction n with
    | zero => exact .nil
    | succ n ih => exact .cons (.any _) (RS.le .refl (by
        clear ih eb hb
        induction n with
        | zero => exact .nil
        | succ n ih => exact .cons (.any _) ih))
/-! ### the defs as they stand behind the top -/
def Stands (K : PySem.W.Frag) (x : Str) (st : Stmt) : Prop := ∃ (f : Addr) (oc : Value) (od : Option Addr) (kV dc pm : Value) (an : Option Addr) (cd ct : Value) (sl : Array (Option Value)),
  PySem.W.nsIn K mainGlobals x = some (some (.ref f)) ∧ K.lookup f = some ⟨oc, od, .func (PySem.W.fnOf x x (defArgs st) (defBody st) (defScope st) .none kV dc pm an cd ct), sl⟩ ∧ PySem.W.codeIn K cd x = true ∧ PySem.W.keepIn K (.ref f) = true
theorem Stands.mk' {K : PySem.W.Frag} {x : Str} {st : Stmt} {f : Addr} {oc : Value} {od : Option Addr} {kV dc pm : Value} {an : Option Addr} {cd ct : Value} {sl : Array (Option Value)}
    (a : PySem.W.nsIn K mainGlobals x = some (some (.ref f))) (l : K.lookup f = some ⟨oc, od, .func (PySem.W.fnOf x x (defArgs st) (defBody st) (defScope st) .none kV dc pm an cd ct), sl⟩) (c : PySem.W.codeIn K cd x = true) (k : PySem.W.keepIn K (.ref f) = true) : Stands K x st :=
  ⟨f, oc, od, kV, dc, pm, an, cd, ct, sl, a, l, c, k⟩
theorem Stands.get {K : PySem.W.Frag} {x : Str} {st : Stmt} {h : Heap} {mg : Str → Option Value} (X : K.In h) (G : h.Ns mainGlobals mg) (S : Stands K x st) : ∃ f fd, Fun K x x st f fd ∧ mg x = some (.ref f) ∧ ∃ (kV dc pm : Value) (an : Option Addr) (cd ct : Value), fd = PySem.W.fnOf x x (defArgs st) (defBody st) (defScope st) .none kV dc pm an cd ct := by
  obtain ⟨f, oc, od, kV, dc, pm, an, cd, ct, sl, a, l, c, k⟩ := S
  exact ⟨f, _, fun_mk (st := st) l c k, PySem.W.mg_of X G a, kV, dc, pm, an, cd, ct, rfl⟩
theorem cx_false {P : Program} {w : World} {H : Hp} {s s' : Shared} {e : Value} (h : L2.CX P w [] H s (fun _ _ _ => False) e s') : False := by
  obtain ⟨_, _, _, _, _, _, _, _, _, _, _, _, z⟩ := h
  exact z.elim
end Lt
namespace Lt
open PySem L2
/-! ### what holds at the end -/
def W {α : Type} (r : R α) (Q : α → HS → Prop) (E : PX → HS → Prop) : Prop := match r with
  | .ok a h => Q a h
  | .ex e h => E e h
  | .no => False
structure Po where
  nx : Pn → HS → Prop := fun _ _ => False
  rt : PV → HS → Prop := fun _ _ => False
  bk : Pn → HS → Prop := fun _ _ => False
  ct : Pn → HS → Prop := fun _ _ => False
  ex : PX → HS → Prop := fun _ _ => False
def SW (r : SR) (D : Po) : Prop := match r with
  | .nx ρ h => D.nx ρ h
  | .rt v h => D.rt v h
  | .bk ρ h => D.bk ρ h
  | .ct ρ h => D.ct ρ h
  | .ex e _ h => D.ex e h
  | .no => False
def OW {β : Type} (r : Option β) (Q : β → Prop) : Prop := match r with
  | some z => Q z
  | none => False
section
variable {α β : Type} {Q : α → HS → Prop} {E : PX → HS → Prop} {D : Po}
@[simp] theorem W_ok (a : α) (h : HS) : W (.ok a h) Q E = Q a h := rfl
@[simp] theorem W_ex (e : PX) (h : HS) : W (.ex e h) Q E = E e h := rfl
@[simp] theorem W_no : W .no Q E = False := rfl
@[simp] theorem W_bind (r : R β) (f : β → HS → R α) : W (r.bind f) Q E = W r (fun a h => W (f a h) Q E) E := by cases r <;> rfl
@[simp] theorem W_thenR (r : R β) (f : β → HS → R α) : W (r.thenR f) Q E = W r (fun a h => W (f a h) Q E) (fun _ _ => False) := by cases r <;> rfl
@[simp] theorem W_ite {c : Prop} [Decidable c] (a b : R α) : W (if c then a else b) Q E = if c then W a Q E else W b Q E := by split <;> rfl
@[simp] theorem W_ret (r : SR) {Q : PV → HS → Prop} : W r.ret Q E = SW r { nx := fun _ h => Q .non h, rt := Q, ex := E } := by cases r <;> rfl
@[simp] theorem SW_nx (ρ : Pn) (h : HS) : SW (.nx ρ h) D = D.nx ρ h := rfl
@[simp] theorem SW_rt (v : PV) (h : HS) : SW (.rt v h) D = D.rt v h := rfl
@[simp] theorem SW_bk (ρ : Pn) (h : HS) : SW (.bk ρ h) D = D.bk ρ h := rfl
@[simp] theorem SW_ct (ρ : Pn) (h : HS) : SW (.ct ρ h) D = D.ct ρ h := rfl
@[simp] theorem SW_ex (e : PX) (ρ : Pn) (h : HS) : SW (.ex e ρ h) D = D.ex e h := rfl
@[simp] theorem SW_no : SW .no D = False := rfl
@[simp] theorem SW_ite {c : Prop} [Decidable c] (a b : SR) : SW (if c then a else b) D = if c then SW a D else SW b D := by split <;> rfl
@[simp] theorem SW_bindS (r : R α) (ρ : Pn) (f : α → HS → SR) : SW (r.bindS ρ f) D = W r (fun a h => SW (f a h) D) D.ex := by cases r <;> rfl
@[simp] theorem SW_thenS (r : R α) (f : α → HS → SR) : SW (r.thenS f) D = W r (fun a h => SW (f a h) D) (fun _ _ => False) := by cases r <;> rfl
@[simp] theorem SW_seq (r : SR) (b : Ms) : SW (r.seq b) D = SW r { nx := fun ρ h => SW (b ρ h) D, rt := D.rt, bk := D.bk, ct := D.ct, ex := D.ex } := by cases r <;> rfl
@[simp] theorem SW_loop (r : SR) (b : Ms) : SW (r.loop b) D = SW r { nx := fun ρ h => SW (b ρ h) D, rt := D.rt, bk := D.nx, ct := fun ρ h => SW (b ρ h) D, ex := D.ex } := by cases r <;> rfl
@[simp] theorem OW_thenO (r : R α) (f : α → HS → Option β) {Q : β → Prop} : OW (r.thenO f) Q = W r (fun a h => OW (f a h) Q) (fun _ _ => False) := by cases r <;> rfl
@[simp] theorem OW_some (a : β) {Q : β → Prop} : OW (some a) Q = Q a := rfl
@[simp] theorem OW_ite {c : Prop} [Decidable c] (a b : Option β) {Q : β → Prop} : OW (if c then a else b) Q = if c then OW a Q else OW b Q := by split <;> rfl
theorem OW_map {γ : Type} (r : Option γ) (f : γ → β) {Q : β → Prop} : OW (r.map f) Q = OW r (fun a => Q (f a)) := by cases r <;> rfl
theorem W_end (r : Option (List PV × HS)) {Q : PV → HS → Prop} : W (lcEnd r) Q E = OW r (fun a => W (dLst a.1 a.2) Q E) := by cases r <;> rfl
theorem W.mono {r : R α} {Q' : α → HS → Prop} {E' : PX → HS → Prop} (w : W r Q E) (q : ∀ a h, Q a h → Q' a h) (e : ∀ a h, E a h → E' a h) : W r Q' E' := by
  cases r with
  | ok a h => exact q a h w
  | ex a h => exact e a h w
  | no => exact w
theorem W.of {r : R α} {a : α} {h : HS} (e : r = .ok a h) (q : Q a h) : W r Q E := by rw [e]; exact q
theorem W.get {r : R α} (w : W r Q (fun _ _ => False)) : ∃ a h, r = .ok a h ∧ Q a h := by
  cases r with
  | ok a h => exact ⟨a, h, rfl, w⟩
  | ex a h => exact w.elim
  | no => exact w.elim
theorem OW.get {r : Option β} {Q : β → Prop} (w : OW r Q) : ∃ a, r = some a ∧ Q a := by
  cases r with
  | some a => exact ⟨a, rfl, w⟩
  | none => exact w.elim
theorem OW.mono {r : Option β} {Q Q' : β → Prop} (w : OW r Q) (q : ∀ a, Q a → Q' a) : OW r Q' := by
  cases r with
  | some a => exact q a w
  | none => exact w
theorem SW.mono {r : SR} {D D' : Po} (w : SW r D) (h1 : ∀ ρ h, D.nx ρ h → D'.nx ρ h) (h2 : ∀ v h, D.rt v h → D'.rt v h) (h3 : ∀ ρ h, D.bk ρ h → D'.bk ρ h) (h4 : ∀ ρ h, D.ct ρ h → D'.ct ρ h) (h5 : ∀ e h, D.ex e h → D'.ex e h) : SW r D' := by
  cases r with
  | nx ρ h => exact h1 _ _ w
  | rt v h => exact h2 _ _ w
  | bk ρ h => exact h3 _ _ w
  | ct ρ h => exact h4 _ _ w
  | ex e ρ h => exact h5 _ _ w
  | no => exact w
end
/-! ### what is still to come, as a name -/
abbrev Qs (α : Type) := α → HS → Prop
abbrev Es := PX → HS → Prop
def kF : Es := fun _ _ => False
@[simp] theorem kF_eq (e : PX) (h : HS) : kF e h = False := rfl
section
variable {α β γ δ : Type}
@[simp] def k1 (f : α → HS → R β) (Q : Qs β) (E : Es) (x : α) (h : HS) : Prop := W (f x h) Q E
@[simp] def k3 (f : α → β → HS → R γ) (x : α) (Q : Qs γ) (E : Es) (y : β) (h : HS) : Prop := W (f x y h) Q E
@[simp] def k2 (f : α → β → HS → R γ) (b : Mi β) (ρ : Pn) (Q : Qs γ) (E : Es) (x : α) (h : HS) : Prop := W (b ρ h) (k3 f x Q E) E
@[simp] def k4 (f : α → β → γ → HS → R δ) (b : Mi β) (c : Mi γ) (ρ : Pn) (Q : Qs δ) (E : Es) (x : α) (h : HS) : Prop := W (b ρ h) (k2 (f x) c ρ Q E) E
@[simp] def kIf (a b : Mi α) (ρ : Pn) (Q : Qs α) (E : Es) (c : Bool) (h : HS) : Prop := if c = true then W (a ρ h) Q E else W (b ρ h) Q E
@[simp] def kNot (Q : Qs Bool) (c : Bool) (h : HS) : Prop := Q (!c) h
@[simp] def kAndW (x : PV) (b : Mi PV) (ρ : Pn) (Q : Qs PV) (E : Es) (c : Bool) (h : HS) : Prop := if c = true then W (b ρ h) Q E else Q x h
@[simp] def kOrW (x : PV) (b : Mi PV) (ρ : Pn) (Q : Qs PV) (E : Es) (c : Bool) (h : HS) : Prop := if c = true then Q x h else W (b ρ h) Q E
@[simp] def kAndV (b : Mi PV) (ρ : Pn) (Q : Qs PV) (E : Es) (x : PV) (h : HS) : Prop := W (truth x h) (kAndW x b ρ Q E) E
@[simp] def kOrV (b : Mi PV) (ρ : Pn) (Q : Qs PV) (E : Es) (x : PV) (h : HS) : Prop := W (truth x h) (kOrW x b ρ Q E) E
@[simp] def kNotW (Q : Qs PV) (c : Bool) (h : HS) : Prop := Q (.bl (!c)) h
@[simp] def kNotV (Q : Qs PV) (E : Es) (x : PV) (h : HS) : Prop := W (truth x h) (kNotW Q) E
@[simp] def kVB (Q : Qs PV) (c : Bool) (h : HS) : Prop := Q (.bl c) h
@[simp] def kC2 (x : PV) (Q : Qs (List PV)) (xs : List PV) (h : HS) : Prop := Q (x :: xs) h
@[simp] def kC (b : Mi (List PV)) (ρ : Pn) (Q : Qs (List PV)) (E : Es) (x : PV) (h : HS) : Prop := W (b ρ h) (kC2 x Q) E
@[simp] def kCh4 (g : PV → PV → HS → R PV) (y : PV) (Q : Qs PV) (E : Es) (w : PV) (h : HS) : Prop := W (g y w h) Q E
@[simp] def kCh3 (g : PV → PV → HS → R PV) (y : PV) (mc : Mi PV) (ρ : Pn) (Q : Qs PV) (E : Es) (z : PV) (h : HS) : Prop := W (asB z h) (fun k h4 => if k = true then W (mc ρ h4) (kCh4 g y Q E) E else Q (.bl false) h4) E
@[simp] def kCh2 (f g : PV → PV → HS → R PV) (x : PV) (mc : Mi PV) (ρ : Pn) (Q : Qs PV) (E : Es) (y : PV) (h : HS) : Prop := W (f x y h) (kCh3 g y mc ρ Q E) E
@[simp] def kCh1 (f g : PV → PV → HS → R PV) (mb mc : Mi PV) (ρ : Pn) (Q : Qs PV) (E : Es) (x : PV) (h : HS) : Prop := W (mb ρ h) (kCh2 f g x mc ρ Q E) E
@[simp] def kP3 (x y : PV) (Q : Qs (List (PV × PV))) (xs : List (PV × PV)) (h : HS) : Prop := Q ((x, y) :: xs) h
@[simp] def kP2 (x : PV) (r : List (Mi PV × Mi PV)) (ρ : Pn) (Q : Qs (List (PV × PV))) (E : Es) (y : PV) (h : HS) : Prop := W (evalPs r ρ h) (kP3 x y Q) E
@[simp] def kP1 (b : Mi PV) (r : List (Mi PV × Mi PV)) (ρ : Pn) (Q : Qs (List (PV × PV))) (E : Es) (x : PV) (h : HS) : Prop := W (b ρ h) (kP2 x r ρ Q E) E
@[simp] def kMeth (T : PV → HS → Bool) (f : PV → List PV → HS → R PV) (as : Mi (List PV)) (ρ : Pn) (Q : Qs PV) (E : Es) (x : PV) (h : HS) : Prop := if T x h = true then W (as ρ h) (k1 (f x) Q E) E else False
@[simp] def kEnd (Q : Qs PV) (E : Es) (a : List PV × HS) : Prop := W (dLst a.1 a.2) Q E
@[simp] def kLc (is : List Nat) (g : Mg) (t : Mi Bool) (e : Mi PV) (ρ : Pn) (Q : Qs PV) (E : Es) (src : Src) (h : HS) : Prop := OW (lcGo src.guard g t e (wipeP ρ is) src.items h) (kEnd Q E)
variable {ρ : Pn} {h : HS} {E : Es}
@[simp] theorem W_m1 {f : α → HS → R β} {a : Mi α} {Q : Qs β} : W (m1 f a ρ h) Q E = W (a ρ h) (k1 f Q E) E := W_bind _ _
@[simp] theorem W_m2 {f : α → β → HS → R γ} {a : Mi α} {b : Mi β} {Q : Qs γ} : W (m2 f a b ρ h) Q E = W (a ρ h) (k2 f b ρ Q E) E := by
  unfold m2
  rw [W_bind]
  congr 1
  funext x h1
  exact W_bind _ _
@[simp] theorem W_m3 {f : α → β → γ → HS → R δ} {a : Mi α} {b : Mi β} {c : Mi γ} {Q : Qs δ} : W (m3 f a b c ρ h) Q E = W (a ρ h) (k4 f b c ρ Q E) E := by
  unfold m3
  rw [W_bind]
  congr 1
  funext x h1
  rw [W_bind]
  unfold k4
  congr 1
  funext y h2
  exact W_bind _ _
@[simp] theorem W_mIf {t : Mi Bool} {a b : Mi α} {Q : Qs α} : W (mIf t a b ρ h) Q E = W (t ρ h) (kIf a b ρ Q E) E := by
  unfold mIf
  rw [W_bind]
  congr 1
  funext x h1
  exact W_ite _ _
@[simp] theorem W_mAnd {a b : Mi Bool} {Q : Qs Bool} : W (mAnd a b ρ h) Q E = W (a ρ h) (kIf b (fun _ h => .ok false h) ρ Q E) E := by
  unfold mAnd
  rw [W_bind]
  congr 1
  funext x h1
  exact W_ite _ _
@[simp] theorem W_mOr {a b : Mi Bool} {Q : Qs Bool} : W (mOr a b ρ h) Q E = W (a ρ h) (kIf (fun _ h => .ok true h) b ρ Q E) E := by
  unfold mOr
  rw [W_bind]
  congr 1
  funext x h1
  exact W_ite _ _
@[simp] theorem W_mNot {a : Mi Bool} {Q : Qs Bool} : W (mNot a ρ h) Q E = W (a ρ h) (kNot Q) E := by
  unfold mNot
  rw [W_bind]
  rfl
@[simp] theorem W_mAndV {a b : Mi PV} {Q : Qs PV} : W (mAndV a b ρ h) Q E = W (a ρ h) (kAndV b ρ Q E) E := by
  unfold mAndV
  rw [W_bind]
  congr 1
  funext x h1
  rw [W_bind]
  unfold kAndV
  congr 1
  funext y h2
  exact W_ite _ _
@[simp] theorem W_mOrV {a b : Mi PV} {Q : Qs PV} : W (mOrV a b ρ h) Q E = W (a ρ h) (kOrV b ρ Q E) E := by
  unfold mOrV
  rw [W_bind]
  congr 1
  funext x h1
  rw [W_bind]
  unfold kOrV
  congr 1
  funext y h2
  exact W_ite _ _
@[simp] theorem W_mNotV {a : Mi PV} {Q : Qs PV} : W (mNotV a ρ h) Q E = W (a ρ h) (kNotV Q E) E := by
  unfold mNotV
  rw [W_bind]
  congr 1
  funext x h1
  rw [W_bind]
  rfl
@[simp] theorem W_mTru {a : Mi PV} {Q : Qs Bool} : W (mTru a ρ h) Q E = W (a ρ h) (k1 truth Q E) E := W_bind _ _
@[simp] theorem W_mVB {a : Mi Bool} {Q : Qs PV} : W (mVB a ρ h) Q E = W (a ρ h) (kVB Q) E := by
  unfold mVB
  rw [W_m1]
  rfl
@[simp] theorem W_mCons {a : Mi PV} {b : Mi (List PV)} {Q : Qs (List PV)} : W (mCons a b ρ h) Q E = W (a ρ h) (kC b ρ Q E) E := by
  unfold mCons
  rw [W_m2]
  rfl
@[simp] theorem W_mChain {f g : PV → PV → HS → R PV} {ma mb mc : Mi PV} {Q : Qs PV} : W (mChain f g ma mb mc ρ h) Q E = W (ma ρ h) (kCh1 f g mb mc ρ Q E) E := by
  unfold mChain
  simp only [W_bind, W_ite]
  rfl
@[simp] theorem W_evalPs_nil {Q : Qs (List (PV × PV))} : W (evalPs [] ρ h) Q E = Q [] h := rfl
@[simp] theorem W_evalPs_cons {a b : Mi PV} {r : List (Mi PV × Mi PV)} {Q : Qs (List (PV × PV))} : W (evalPs ((a, b) :: r) ρ h) Q E = W (a ρ h) (kP1 b r ρ Q E) E := by
  simp only [evalPs, W_bind]
  rfl
@[simp] theorem W_mDict {ps : List (Mi PV × Mi PV)} {Q : Qs PV} : W (mDict ps ρ h) Q E = W (evalPs ps ρ h) (k1 dDic Q E) E := W_bind _ _
@[simp] theorem W_mMeth {T : PV → HS → Bool} {f : PV → List PV → HS → R PV} {a : Mi PV} {as : Mi (List PV)} {Q : Qs PV} : W (mMeth T f a as ρ h) Q E = W (a ρ h) (kMeth T f as ρ Q E) E := by
  unfold mMeth
  simp only [W_bind, W_ite, W_no]
  rfl
@[simp] theorem W_mLc {it : Mi Src} {is : List Nat} {g : Mg} {t : Mi Bool} {e : Mi PV} {Q : Qs PV} : W (mLc it is g t e ρ h) Q E = W (it ρ h) (kLc is g t e ρ Q E) E := by
  unfold mLc
  simp only [W_bind, W_end]
  rfl
@[simp] def kgC (gs : Mgs) (r : List PV) (Q : Qs Pn) (E : Es) (ρ : Pn) (h : HS) : Prop := W (gs r ρ h) Q E
@[simp] theorem W_gC {g : Mg} {gs : Mgs} {v : PV} {r : List PV} {Q : Qs Pn} : W (gC g gs (v :: r) ρ h) Q E = W (g v ρ h) (kgC gs r Q E) kF := by
  unfold gC
  simp only [W_thenR]
  rfl
@[simp] def kSb2 (x v : PV) (ρ : Pn) (Q : Qs Pn) (y : PV) (h : HS) : Prop := match setV x y v h with
  | some h3 => Q ρ h3
  | none => False
@[simp] def kSb1 (b : Mi PV) (v : PV) (ρ : Pn) (Q : Qs Pn) (x : PV) (h : HS) : Prop := W (b ρ h) (kSb2 x v ρ Q) kF
@[simp] theorem W_gSb {a b : Mi PV} {v : PV} {Q : Qs Pn} : W (gSb a b v ρ h) Q E = W (a ρ h) (kSb1 b v ρ Q) kF := by
  unfold gSb
  simp only [W_thenR]
  congr 1
  funext x h1
  unfold kSb1
  congr 1
  funext y h2
  unfold kSb2
  cases setV x y v h2 <;> rfl
variable {D : Po}
def Po.sq (D : Po) (b : Ms) : Po := { D with nx := fun ρ h => SW (b ρ h) D }
@[simp] theorem Po.sq_nx {b : Ms} : (D.sq b).nx ρ h = SW (b ρ h) D := rfl
@[simp] theorem Po.sq_rt {b : Ms} : (D.sq b).rt = D.rt := rfl
@[simp] theorem Po.sq_bk {b : Ms} : (D.sq b).bk = D.bk := rfl
@[simp] theorem Po.sq_ct {b : Ms} : (D.sq b).ct = D.ct := rfl
@[simp] theorem Po.sq_ex {b : Ms} : (D.sq b).ex = D.ex := rfl
def kDef (Q : Qs PV) (E : Es) : Po := { nx := fun _ h => Q .non h, rt := Q, ex := E }
@[simp] theorem kDef_nx {Q : Qs PV} : (kDef Q E).nx ρ h = Q .non h := rfl
@[simp] theorem kDef_rt {Q : Qs PV} : (kDef Q E).rt = Q := rfl
@[simp] theorem kDef_ex {Q : Qs PV} : (kDef Q E).ex = E := rfl
@[simp] theorem kDef_bk {Q : Qs PV} : (kDef Q E).bk ρ h = False := rfl
@[simp] theorem kDef_ct {Q : Qs PV} : (kDef Q E).ct ρ h = False := rfl
@[simp] def kDrop (ρ : Pn) (D : Po) (_x : PV) (h : HS) : Prop := D.nx ρ h
@[simp] def kIfS (a b : Ms) (ρ : Pn) (D : Po) (c : Bool) (h : HS) : Prop := if c = true then SW (a ρ h) D else SW (b ρ h) D
@[simp] def kAsg (g : Mg) (ρ : Pn) (D : Po) (v : PV) (h : HS) : Prop := W (g v ρ h) D.nx kF
@[simp] def kPar (i j : Nat) (ρ : Pn) (D : Po) (vs : List PV) (h : HS) : Prop := match vs with
  | [v, w] => D.nx ((ρ.set i (some v)).set j (some w)) h
  | _ => False
@[simp] def kPar3 (i j l : Nat) (ρ : Pn) (D : Po) (vs : List PV) (h : HS) : Prop := match vs with
  | [u, v, w] => D.nx (((ρ.set i (some u)).set j (some v)).set l (some w)) h
  | _ => False
@[simp] def kAug2 (i : Nat) (ρ : Pn) (D : Po) (z : PV) (h : HS) : Prop := D.nx (ρ.set i (some z)) h
@[simp] def kAug (x : PV) (f : PV → PV → HS → R PV) (i : Nat) (ρ : Pn) (D : Po) (y : PV) (h : HS) : Prop := W (f x y h) (kAug2 i ρ D) D.ex
@[simp] def kFor (g : Mg) (b : Ms) (ρ : Pn) (D : Po) (src : Src) (h : HS) : Prop := SW (forGo src.guard g b src.items ρ h) D
@[simp] theorem SW_mSeq {a b : Ms} : SW (mSeq a b ρ h) D = SW (a ρ h) (D.sq b) := SW_seq _ _
@[simp] theorem SW_mRet {a : Mi PV} : SW (mRet a ρ h) D = W (a ρ h) D.rt D.ex := SW_bindS _ _ _
@[simp] theorem SW_mDrop {a : Mi PV} : SW (mDrop a ρ h) D = W (a ρ h) (kDrop ρ D) D.ex := SW_bindS _ _ _
@[simp] theorem SW_mIfS {t : Mi Bool} {a b : Ms} : SW (mIfS t a b ρ h) D = W (t ρ h) (kIfS a b ρ D) D.ex := by
  unfold mIfS
  simp only [SW_bindS, SW_ite]
  rfl
@[simp] theorem SW_mAsg {a : Mi PV} {g : Mg} : SW (mAsg a g ρ h) D = W (a ρ h) (kAsg g ρ D) D.ex := by
  unfold mAsg
  simp only [SW_bindS, SW_thenS, SW_nx]
  rfl
@[simp] theorem SW_mPar {i j : Nat} {a : Mi (List PV)} : SW (mPar i j a ρ h) D = W (a ρ h) (kPar i j ρ D) D.ex := by
  unfold mPar
  rw [SW_bindS]
  congr 1
  funext vs h1
  rcases vs with _ | ⟨v, _ | ⟨w, _ | _⟩⟩ <;> rfl
@[simp] theorem SW_mPar3 {i j l : Nat} {a : Mi (List PV)} : SW (mPar3 i j l a ρ h) D = W (a ρ h) (kPar3 i j l ρ D) D.ex := by
  unfold mPar3
  rw [SW_bindS]
  congr 1
  funext vs h1
  rcases vs with _ | ⟨u, _ | ⟨v, _ | ⟨w, _ | _⟩⟩⟩ <;> rfl
@[simp] theorem SW_mAug {i : Nat} {f : PV → PV → HS → R PV} {a : Mi PV} : SW (mAug i f a ρ h) D = (match ρ[i]? with
    | some (some x) => W (a ρ h) (kAug x f i ρ D) D.ex
    | _ => False) := by
  unfold mAug
  cases hi : ρ[i]? with
  | none => rfl
  | some o =>
    cases o with
    | none => rfl
    | some x =>
      simp only [SW_bindS]
      rfl
@[simp] theorem SW_mFor {it : Mi Src} {g : Mg} {b : Ms} : SW (mFor it g b ρ h) D = W (it ρ h) (kFor g b ρ D) D.ex := SW_bindS _ _ _
@[simp] theorem W_mDef {n r : Nat} {b : Ms} {xs : List PV} {Q : Qs PV} : W (mDef n r b xs h) Q E = if xs.length = n then SW (b (xs.map some ++ List.replicate r none) h) (kDef Q E) else False := by
  unfold mDef
  rw [W_ite, W_ret]
  rfl
end
theorem W.eq {α : Type} {r : R α} {v : α} {h : HS} (w : W r (fun v' h' => v' = v ∧ h' = h) kF) : r = .ok v h := by
  cases r with
  | ok a h' => obtain ⟨rfl, rfl⟩ := w; rfl
  | ex a h => exact w.elim
  | no => exact w.elim
/-! ### loops -/
/-- a loop that goes on as long as P holds -/
theorem for_w {guard : HS → Prop} {g : Mg} {b : Ms} {D : Po} : ∀ {its : List PV} {ρ : Pn} {h : HS} (P : Nat → Pn → HS → Prop) (h0 : P 0 ρ h) (hg : ∀ i ρ h, P i ρ h → guard h)
    (step : ∀ i x ρ h, its[i]? = some x → P i ρ h → W (g x ρ h) (fun ρ1 h1 => SW (b ρ1 h1) { nx := P (i + 1), ct := P (i + 1), bk := D.nx, rt := D.rt, ex := D.ex }) (fun _ _ => False))
    (hq : ∀ ρ h, P its.length ρ h → D.nx ρ h), SW (forGo guard g b its ρ h) D
  | [], ρ, h, P, h0, hg, step, hq => by
    rw [forGo_nil (hg 0 ρ h h0)]
    exact hq ρ h h0
  | x :: its, ρ, h, P, h0, hg, step, hq => by
    rw [forGo_cons (hg 0 ρ h h0), SW_thenS]
    refine (step 0 x ρ h rfl h0).mono (fun ρ1 h1 w => ?_) (fun _ _ z => z)
    rw [SW_loop]
    have go : ∀ ρ2 h2, P 1 ρ2 h2 → SW (forGo guard g b its ρ2 h2) D := fun ρ2 h2 p => for_w (fun i => P (i + 1)) p (fun i => hg (i + 1)) (fun i x ρ h e p => step (i + 1) x ρ h (by simpa using e) p) (fun ρ h p => hq ρ h p)
    exact w.mono go (fun _ _ z => z) (fun _ _ z => z) go (fun _ _ z => z)
/-- a list made item by item -/
theorem lc_w {guard : HS → Prop} {g : Mg} {t : Mi Bool} {e : Mi PV} {ρ : Pn} : ∀ {its : List PV} {h : HS} {Q : List PV × HS → Prop} (P : Nat → List PV → HS → Prop) (h0 : P 0 [] h) (hg : ∀ i vs h, P i vs h → guard h)
    (step : ∀ i x vs h, its[i]? = some x → P i vs h → W (g x ρ h) (fun ρ1 h1 => W (t ρ1 h1) (fun c h2 => if c = true then W (e ρ1 h2) (fun v h3 => P (i + 1) (vs ++ [v]) h3) (fun _ _ => False) else P (i + 1) vs h2) (fun _ _ => False)) (fun _ _ => False))
    (hq : ∀ vs h, P its.length vs h → Q (vs, h)), OW (lcGo guard g t e ρ its h) Q
  | [], h, Q, P, h0, hg, step, hq => by
    rw [lcGo_nil (hg 0 [] h h0)]
    exact hq [] h h0
  | x :: its, h, Q, P, h0, hg, step, hq => by
    rw [lcGo_cons (hg 0 [] h h0), OW_thenO]
    refine (step 0 x [] h rfl h0).mono (fun ρ1 h1 w => ?_) (fun _ _ z => z)
    rw [OW_thenO]
    refine w.mono (fun c h2 w2 => ?_) (fun _ _ z => z)
    rw [OW_ite]
    split
    · rename_i hc
      rw [if_pos hc] at w2
      rw [OW_thenO]
      refine w2.mono (fun v h3 p => ?_) (fun _ _ z => z)
      rw [OW_map]
      exact lc_w (fun i vs h => P (i + 1) (v :: vs) h) p (fun i vs h => hg (i + 1) (v :: vs) h) (fun i x vs h e p => step (i + 1) x (v :: vs) h (by simpa using e) p) (fun vs h p => hq (v :: vs) h p)
    · rename_i hc
      rw [if_neg hc] at w2
      exact lc_w (fun i vs h => P (i + 1) vs h) w2 (fun i vs h => hg (i + 1) vs h) (fun i x vs h e p => step (i + 1) x vs h (by simpa using e) p) (fun vs h p => hq vs h p)
end Lt
namespace Lt
open PySem L2
/-! ### the law's own drawing -/
def kTakeB : Ms :=
    (mSeq (mAsg (m2 addV (m2 getV (mVar 0) (mC (.str "turn"))) (mC (.int 1))) (gNm 2))
    (mSeq (mAsg (mVar 2) (gSb (mVar 0) (mC (.str "turn"))))
    (mSeq (mAsg (m2 modV (mVar 2) (m1 (c1 lenV) (mCons (m2 getV (mVar 0) (mC (.str "cells"))) mNil))) (gNm 3))
    (mSeq (mAsg (m2 getV (m2 getV (mVar 0) (mC (.str "cells"))) (mVar 3)) (gNm 4))
    (mSeq (mIfS (m1 asB (m2 geV (mVar 4) (m2 powV (mC (.int 10)) (mC (.int 18)))))
    (mSeq (mAsg (m1 (c2 divmodV) (mCons (mVar 4) (mCons (mVar 1) mNil))) (gTp 2 (gC (gSb (m2 getV (mVar 0) (mC (.str "cells"))) (mVar 3)) (gC (gNm 5) gN0))))
    (mRet (mVar 5)))
    mSkip)
    (mSeq (mAsg (m2 modV (m2 mulV (m2 addV (m2 addV (m2 modV (mVar 4) (mC (.int 2147483629))) (m2 mulV (m2 mulV (mVar 2) (mVar 2)) (mC (.int 7919)))) (mC (.int 11))) (mC (.int 48271))) (mC (.int 2147483647))) (gNm 6))
    (mSeq (mAsg (m2 modV (m2 mulV (mVar 6) (mVar 6)) (mC (.int 2147483587))) (gNm 6))
    (mRet (m2 modV (m2 fdivV (m2 modV (m2 mulV (m2 addV (mVar 6) (m2 mulV (mVar 2) (mC (.int 104729)))) (mC (.int 69621))) (mC (.int 2147483629))) (mC (.int 64))) (mVar 1))))))))))
def kTake : List PV → HS → R PV := mDef 2 5 kTakeB
/-- the law's state ahead of everything else -/
def Sh (cs : List Int) (t : Int) (tl : HS) : HS := .lst (cs.map PV.int) :: stDic 0 t :: tl
structure Good (cs : List Int) (t : Int) : Prop where
  ne : cs ≠ []
  le : cs.length ≤ 63
  t0 : 0 ≤ t
  t1 : t < 2 ^ 60
theorem small_lt {i : Int} (h1 : -(2 ^ 200) < i) (h2 : i < 2 ^ 200) : small i := small_of (k := 200) (by omega) (by decide)
theorem atI_ints {cs : List Int} {i : Int} (h0 : 0 ≤ i) (h1 : i < cs.length) : ∃ c, atI (cs.map PV.int) i = some (.int c) ∧ ixN (cs.map PV.int).length i = some i.toNat := by
  have hl : i.toNat < cs.length := by omega
  refine ⟨cs[i.toNat], ?_, ?_⟩
  · unfold atI ixN
    rw [List.length_map, if_pos h0, if_pos h1]
    simp [hl]
  · unfold ixN
    rw [List.length_map, if_pos h0, if_pos h1]
theorem ks_ct : (Str.ofString "cells" = Str.ofString "turn") = False := by
  apply propext
  constructor
  · intro z
    exact absurd z (by decide +kernel)
  · exact False.elim
theorem ks_tc : (Str.ofString "turn" = Str.ofString "cells") = False := by
  apply propext
  constructor
  · intro z
    exact absurd z (by decide +kernel)
  · exact False.elim
def mix1 (c t : Int) : Int := (c % 2147483629 + t * t * 7919 + 11) * 48271 % 2147483647
def mix2 (x : Int) : Int := x * x % 2147483587
theorem kTake_eq {cs : List Int} {t many : Int} (tl : HS) (g : Good cs t) (h1 : 1 ≤ many) (h2 : many < 1073741824) :
    ∃ cs' d, kTake [.ref 1, .int many] (Sh cs t tl) = .ok (.int d) (Sh cs' (t + 1) tl) ∧ 0 ≤ d ∧ d < many ∧ cs' ≠ [] ∧ cs'.length ≤ 63 := by
  obtain ⟨hne, hle, ht0, ht1⟩ := g
  have hpos : 0 < (cs.length : Int) := by
    have := List.length_pos_iff.mpr hne
    omega
  have hm0 : 0 ≤ (t + 1) % (cs.length : Int) := Int.emod_nonneg _ (by omega)
  have hm1 : (t + 1) % (cs.length : Int) < cs.length := Int.emod_lt_of_pos _ hpos
  obtain ⟨c, hc, hix⟩ := atI_ints hm0 hm1
  rw [List.length_map] at hix
  have hp2 : 0 < cs.length := by omega
  have hm2 : 0 < many := by omega
  by_cases hb : 1000000000000000000 ≤ c
  · refine ⟨cs.set ((t + 1) % (cs.length : Int)).toNat (c / many), c % many, ?_, Int.emod_nonneg _ (by omega), Int.emod_lt_of_pos _ (by omega), ?_, by rw [List.length_set]; exact hle⟩
    · apply W.eq
      simp [kTake, kTakeB, Sh, stDic, valP, putP, List.find?_cons, hp2, hm2, hc, hix, hb, h1, h2, ks_ct, ks_tc, List.map_set]
      omega
    · intro z
      have := congrArg List.length z
      rw [List.length_set] at this
      simp at this
      exact hne this
  · refine ⟨cs, (mix2 (mix1 c (t + 1)) + (t + 1) * 104729) * 69621 % 2147483629 / 64 % many, ?_, Int.emod_nonneg _ (by omega), Int.emod_lt_of_pos _ (by omega), hne, hle⟩
    · have q0 : 0 ≤ (t + 1) * (t + 1) := Int.mul_nonneg (by omega) (by omega)
      have q1 : (t + 1) * (t + 1) ≤ 2 ^ 60 * 2 ^ 60 := Int.mul_le_mul (by omega) (by omega) (by omega) (by decide)
      have s1 : small (t + 1) := small_lt (by omega) (by omega)
      have s2 : small ((t + 1) * (t + 1)) := small_lt (by omega) (by omega)
      have s3 : small (c % 2147483629 + (t + 1) * (t + 1) * 7919 + 11) := small_lt (by omega) (by omega)
      have s4 : small ((c % 2147483629 + (t + 1) * (t + 1) * 7919 + 11) * 48271 % 2147483647) := small_lt (by omega) (by omega)
      have s5 : small ((c % 2147483629 + (t + 1) * (t + 1) * 7919 + 11) * 48271 % 2147483647 * ((c % 2147483629 + (t + 1) * (t + 1) * 7919 + 11) * 48271 % 2147483647) % 2147483587 + (t + 1) * 104729) := small_lt (by omega) (by omega)
      have k1 : small 7919 := small_lt (by decide) (by decide)
      have k2 : small 48271 := small_lt (by decide) (by decide)
      have k3 : small 104729 := small_lt (by decide) (by decide)
      have k4 : small 69621 := small_lt (by decide) (by decide)
      apply W.eq
      simp [kTake, kTakeB, Sh, stDic, valP, putP, List.find?_cons, hp2, hm2, hc, hix, hb, h1, h2, ks_ct, ks_tc, s1, s2, s3, s4, s5, k1, k2, k3, k4, mix1, mix2]
theorem Good.next {cs cs' : List Int} {t : Int} (g : Good cs t) (h1 : cs' ≠ []) (h2 : cs'.length ≤ 63) (h3 : t + 1 < 2 ^ 60) : Good cs' (t + 1) := ⟨h1, h2, by have := g.t0; omega, h3⟩
end Lt
namespace Lt
open PySem L2
/-! ### the heap behind the law's state -/
section
variable {cs : List Int} {t : Int} {tl g : HS}
@[simp] theorem Sh_len : (Sh cs t tl).length = tl.length + 2 := rfl
@[simp] theorem Sh_len' : List.length (Sh cs t tl) = tl.length + 2 := rfl
@[simp] theorem Sh_app : Sh cs t tl ++ g = Sh cs t (tl ++ g) := rfl
@[simp high] theorem Sh_get {n : Nat} : (Sh cs t tl)[n + 2]? = tl[n]? := rfl
@[simp] theorem Sh_set {n : Nat} {o : HB} : (Sh cs t tl).set (n + 2) o = Sh cs t (tl.set n o) := rfl
@[simp] theorem Sh_set' {n : Nat} {o : HB} : List.set (Sh cs t tl) (n + 2) o = Sh cs t (tl.set n o) := rfl
@[simp high] theorem Sh_last {o : HB} : (Sh cs t (tl ++ [o]))[tl.length + 2]? = some o := by
  show (tl ++ [o])[tl.length]? = some o
  simp
@[simp high] theorem Sh_last2 {o : HB} : (Sh cs t (tl ++ (g ++ [o])))[tl.length + g.length + 2]? = some o := by
  show (tl ++ (g ++ [o]))[tl.length + g.length]? = some o
  rw [List.getElem?_append_right (by omega), Nat.add_sub_cancel_left]
  simp
theorem Sh_app' (a b : HS) : Sh cs t (a ++ b) = Sh cs t a ++ b := rfl
end
/-- the row behind a value -/
def rd (tl : HS) : PV → Option (List PV)
  | .tup xs => some xs
  | .ref (n + 2) => match tl[n]? with
    | some (.lst xs) => some xs
    | _ => none
  | _ => none
theorem rd_seq {cs : List Int} {t : Int} {tl : HS} {v : PV} {xs : List PV} (h : rd tl v = some xs) : seqOf (Sh cs t tl) v = some xs := by
  unfold rd at h
  split at h
  · exact h
  · simp only [seqOf, Sh_get]
    exact h
  · cases h
theorem get_pre {tl tl' : HS} {n : Nat} {o : HB} (p : tl <+: tl') (h : tl[n]? = some o) : tl'[n]? = some o := by
  obtain ⟨g, rfl⟩ := p
  rw [List.getElem?_append_left (List.getElem?_eq_some_iff.mp h).1]
  exact h
theorem rd_pre {tl tl' : HS} {v : PV} {xs : List PV} (p : tl <+: tl') (h : rd tl v = some xs) : rd tl' v = some xs := by
  unfold rd at h ⊢
  split at h
  · exact h
  · split at h
    · rename_i e
      cases h
      simp only [get_pre p e]
    · cases h
  · cases h
/-! ### values that stand for data -/
mutual
inductive Rep (tl : HS) : PV → PyData → Prop
  | non : Rep tl .non .none
  | bl (b : Bool) : Rep tl (.bl b) (.bool b)
  | int (i : Int) : Rep tl (.int i) (.int i)
  | str (x : Str) : Rep tl (.str x) (.str x)
  | tup {vs : List PV} {ds : List PyData} (r : Reps tl vs ds) : Rep tl (.tup vs) (.tuple ds)
  | lst {n : Nat} {vs : List PV} {ds : List PyData} (h : tl[n]? = some (.lst vs)) (r : Reps tl vs ds) : Rep tl (.ref (n + 2)) (.list ds)
inductive Reps (tl : HS) : List PV → List PyData → Prop
  | nil : Reps tl [] []
  | cons {v : PV} {d : PyData} {vs : List PV} {ds : List PyData} (r : Rep tl v d) (t : Reps tl vs ds) : Reps tl (v :: vs) (d :: ds)
end
mutual
theorem Rep.pre {tl tl' : HS} (p : tl <+: tl') : ∀ {v : PV} {d : PyData}, Rep tl v d → Rep tl' v d
  | _, _, .non => .non
  | _, _, .bl b => .bl b
  | _, _, .int b => .int b
  | _, _, .str b => .str b
  | _, _, .tup r => .tup (Reps.pre p r)
  | _, _, .lst h r => .lst (get_pre p h) (Reps.pre p r)
theorem Reps.pre {tl tl' : HS} (p : tl <+: tl') : ∀ {v : List PV} {d : List PyData}, Reps tl v d → Reps tl' v d
  | _, _, .nil => .nil
  | _, _, .cons r t => .cons (Rep.pre p r) (Reps.pre p t)
end
theorem Reps.length {tl : HS} : ∀ {v : List PV} {d : List PyData}, Reps tl v d → v.length = d.length
  | _, _, .nil => rfl
  | _, _, .cons r t => by rw [List.length_cons, List.length_cons, Reps.length t]
theorem Reps.get {tl : HS} : ∀ {v : List PV} {d : List PyData} {i : Nat} {x : PV}, Reps tl v d → v[i]? = some x → ∃ y, d[i]? = some y ∧ Rep tl x y
  | _, _, _, _, .nil, e => by simp at e
  | _, _, 0, _, .cons r t, e => by simp at e; subst e; exact ⟨_, rfl, r⟩
  | _, _, i + 1, x, .cons r t, e => by
    obtain ⟨y, h1, h2⟩ := Reps.get (i := i) (x := x) t (by simpa using e)
    exact ⟨y, by simpa using h1, h2⟩
theorem Reps.app {tl : HS} : ∀ {v v' : List PV} {d d' : List PyData}, Reps tl v d → Reps tl v' d' → Reps tl (v ++ v') (d ++ d')
  | _, _, _, _, .nil, s => s
  | _, _, _, _, .cons r t, s => .cons r (Reps.app t s)
/-! ### the law's own likeness -/
noncomputable def kSameB (rec : List PV → HS → R PV) : Ms :=
    (mSeq (mIfS (mTru (m1 (c2 isinstV) (mCons (mVar 1) (mCons (m1 dTup (mCons (mC (.ty "list")) (mCons (mC (.ty "tuple")) mNil))) mNil))))
    (mSeq (mIfS (mOr (m1 asB (m2 neV (m1 (c2 isinstV) (mCons (mVar 0) (mCons (mC (.ty "list")) mNil))) (m1 (c2 isinstV) (mCons (mVar 1) (mCons (mC (.ty "list")) mNil))))) (m1 asB (m2 neV (m1 (c2 isinstV) (mCons (mVar 0) (mCons (mC (.ty "tuple")) mNil))) (m1 (c2 isinstV) (mCons (mVar 1) (mCons (mC (.ty "tuple")) mNil))))))
    (mRet (mC (.bl false)))
    mSkip)
    (mRet (mAndV (m2 eqV (m1 (c1 lenV) (mCons (mVar 0) mNil)) (m1 (c1 lenV) (mCons (mVar 1) mNil))) (m1 (c1 allV) (mCons (mLc (m1 zipS (mCons (mVar 0) (mCons (mVar 1) mNil))) [2, 3] (gTp 2 (gC (gNm 2) (gC (gNm 3) gN0))) mYes (m1 rec (mCons (mVar 2) (mCons (mVar 3) mNil)))) mNil)))))
    mSkip)
    (mSeq (mIfS (m1 asB (m2 isV (mVar 1) (mC .non)))
    (mRet (m2 isV (mVar 0) (mC .non)))
    mSkip)
    (mSeq (mIfS (mTru (m1 (c2 isinstV) (mCons (mVar 1) (mCons (mC (.ty "bool")) mNil))))
    (mRet (mAndV (m1 (c2 isinstV) (mCons (mVar 0) (mCons (mC (.ty "bool")) mNil))) (m2 eqV (mVar 0) (mVar 1))))
    mSkip)
    (mSeq (mIfS (mTru (m1 (c2 isinstV) (mCons (mVar 1) (mCons (mC (.ty "str")) mNil))))
    (mRet (mAndV (m1 (c2 isinstV) (mCons (mVar 0) (mCons (mC (.ty "str")) mNil))) (m2 eqV (mVar 0) (mVar 1))))
    mSkip)
    (mRet (mAndV (m1 (c2 isinstV) (mCons (mVar 0) (mCons (mC (.ty "int")) mNil))) (mAndV (mNotV (m1 (c2 isinstV) (mCons (mVar 0) (mCons (mC (.ty "bool")) mNil)))) (m2 eqV (mVar 0) (mVar 1)))))))))
theorem eqV_int (i j : Int) (h : HS) : eqV (.int i) (.int j) h = .ok (.bl (i == j)) h := by
  simp [eqV, eqB, dat, SeqAt.shaped, PyData.canLay0, PyData.depth, PyData.eqv]
theorem eqV_bl (i j : Bool) (h : HS) : eqV (.bl i) (.bl j) h = .ok (.bl (i == j)) h := by
  simp [eqV, eqB, dat, SeqAt.shaped, PyData.canLay0, PyData.depth, PyData.eqv]
theorem neV_bl (i j : Bool) (h : HS) : neV (.bl i) (.bl j) h = .ok (.bl (!(i == j))) h := by
  simp [neV, eqB, dat, SeqAt.shaped, PyData.canLay0, PyData.depth, PyData.eqv]
theorem neV_int (i j : Int) (h : HS) : neV (.int i) (.int j) h = .ok (.bl (!(i == j))) h := by
  simp [neV, eqB, dat, SeqAt.shaped, PyData.canLay0, PyData.depth, PyData.eqv]
theorem eqV_str (x : Str) (hx : PyData.canLay0 (.str x) = true) (h : HS) : eqV (.str x) (.str x) h = .ok (.bl true) h := by
  have hs : SeqAt.shaped (.str x) = true := by
    unfold SeqAt.shaped
    rw [hx]
    simp [PyData.depth]
  simp [eqV, eqB, dat, hs, PyData.eqv]
noncomputable def kSame : Nat → List PV → HS → R PV
  | 0 => fun _ _ => .no
  | k + 1 => mDef 2 2 (kSameB (kSame k))
/-- data of at most that depth -/
inductive Fine : Nat → PyData → Prop
  | non (n : Nat) : Fine (n + 1) .none
  | bl (n : Nat) (b : Bool) : Fine (n + 1) (.bool b)
  | int (n : Nat) (i : Int) : Fine (n + 1) (.int i)
  | str (n : Nat) (x : Str) (h : PyData.canLay0 (.str x) = true) : Fine (n + 1) (.str x)
  | tup {n : Nat} {ds : List PyData} (hl : ds.length ≤ 16777216) (h : ∀ d ∈ ds, Fine n d) : Fine (n + 1) (.tuple ds)
  | lst {n : Nat} {ds : List PyData} (hl : ds.length ≤ 16777216) (h : ∀ d ∈ ds, Fine n d) : Fine (n + 1) (.list ds)
@[simp] theorem blsOf_rep (n : Nat) : blsOf (List.replicate n (.bl true)) = some (List.replicate n true) := by
  induction n with
  | zero => rfl
  | succ n ih => simp [List.replicate_succ, ih]
@[simp] theorem all_rep (n : Nat) : (List.replicate n true).all id = true := by simp
theorem same_w {cs : List Int} {t : Int} : ∀ (n : Nat) {d : PyData} {v w : PV} {tl : HS} {Q : PV → HS → Prop} {E : PX → HS → Prop}, Fine n d → Rep tl v d → Rep tl w d → (∀ g, Q (.bl true) (Sh cs t (tl ++ g))) → W (kSame n [v, w] (Sh cs t tl)) Q E := by
  intro n
  induction n with
  | zero => intro d v w tl Q E f; cases f
  | succ n ih =>
    intro d v w tl Q E f rv rw' q
    have q0 := q []
    rw [List.append_nil] at q0
    have lc : ∀ {ds : List PyData} {vs ws : List PV} {Q : List PV × HS → Prop} {ρ : Pn} {v w : PV} {guard : HS → Prop}, ρ = [some v, some w, none, none] → ds.length ≤ 16777216 → (∀ d ∈ ds, Fine n d) → Reps tl vs ds → Reps tl ws ds → (∀ tl', tl <+: tl' → guard (Sh cs t tl')) → (∀ g, Q (List.replicate ds.length (.bl true), Sh cs t (tl ++ g))) →
        OW (lcGo guard (gTp 2 (gC (gNm 2) (gC (gNm 3) gN0))) mYes (m1 (kSame n) (mCons (mVar 2) (mCons (mVar 3) mNil))) ρ (List.zipWith pairP vs ws) (Sh cs t tl)) Q := by
      intro ds vs ws Q ρ v w guard hρ hl hf ra rb ev q
      subst hρ
      refine lc_w (fun i us h => us = List.replicate i (.bl true) ∧ ∃ g, h = Sh cs t (tl ++ g)) ⟨rfl, [], by rw [List.append_nil]⟩ (fun i us h ⟨_, g, e⟩ => by rw [e]; exact ev _ (List.prefix_append _ _)) ?_ ?_
      · rintro i x us h ex ⟨e1, g, e2⟩
        obtain ⟨a, b, ea, eb, rfl⟩ := zip_get ex
        obtain ⟨d, ed, ra'⟩ := ra.get ea
        obtain ⟨d', ed', rb'⟩ := rb.get eb
        rw [ed] at ed'
        cases ed'
        subst e1 e2
        simp
        refine ih (hf d (List.mem_of_getElem? ed)) (ra'.pre (List.prefix_append _ _)) (rb'.pre (List.prefix_append _ _)) fun g' => ?_
        exact ⟨by rw [List.replicate_succ'], g ++ g', by rw [List.append_assoc]⟩
      · rintro us h ⟨e1, g, e2⟩
        subst e1 e2
        have hz : (List.zipWith pairP vs ws).length = ds.length := by simp [ra.length, rb.length]
        rw [hz]
        exact q g
    cases f with
    | non =>
      cases rv; cases rw'
      simp [kSame, kSameB, isTy, okTy, q0]
    | bl b =>
      cases rv; cases rw'
      simp [kSame, kSameB, isTy, okTy, eqV_bl, q0]
    | int b =>
      cases rv; cases rw'
      simp [kSame, kSameB, isTy, okTy, eqV_int, q0]
    | str _ x hx =>
      cases rv; cases rw'
      simp [kSame, kSameB, isTy, okTy, eqV_str _ hx, q0]
    | tup hl hf =>
      cases rv with
      | tup ra =>
        cases rw' with
        | tup rb =>
          rename_i ds vs ws
          have hlv := ra.length
          have hlw := rb.length
          simp [kSame, kSameB, isTy, okTy, eqV_int, neV_bl, hlv, hlw]
          refine lc rfl hl hf ra rb (fun _ _ => by simp) fun g => ?_
          have q1 := q (g ++ [.lst (List.replicate ds.length (.bl true))])
          simp [dLst, hl, q1]
    | lst hl hf =>
      cases rv with
      | lst ga ra =>
        cases rw' with
        | lst gb rb =>
          rename_i ds n1 vs n2 ws
          have hlv := ra.length
          have hlw := rb.length
          simp [kSame, kSameB, isTy, okTy, eqV_int, neV_bl, hlv, hlw, ga, gb]
          refine lc rfl hl hf ra rb (fun tl' p => by simp [get_pre p ga, get_pre p gb]) fun g => ?_
          have q1 := q (g ++ [.lst (List.replicate ds.length (.bl true))])
          simp [dLst, hl, q1]
end Lt
namespace Lt
open PySem L2
/-! ### what the law's own helpers answer -/
/-- the state allows so many more draws -/
structure Gd (b : Int) (cs : List Int) (t : Int) : Prop where
  ne : cs ≠ []
  le : cs.length ≤ 63
  t0 : 0 ≤ t
  t1 : t + b < 2 ^ 60
theorem Gd.less {b b' : Int} {cs : List Int} {t : Int} (g : Gd b cs t) (h : b' ≤ b) : Gd b' cs t := ⟨g.ne, g.le, g.t0, by have := g.t1; omega⟩
theorem take_w {b : Int} {cs : List Int} {t many : Int} {tl : HS} {Q : PV → HS → Prop} {E : PX → HS → Prop} (g : Gd b cs t) (hb : 1 ≤ b) (h1 : 1 ≤ many) (h2 : many < 1073741824)
    (q : ∀ cs' t' d, Gd (b - 1) cs' t' → 0 ≤ d → d < many → Q (.int d) (Sh cs' t' tl)) : W (kTake [.ref 1, .int many] (Sh cs t tl)) Q E := by
  have g1 := g.t1
  obtain ⟨cs', d, e, p1, p2, p3, p4⟩ := kTake_eq tl (many := many) ⟨g.ne, g.le, g.t0, by omega⟩ h1 h2
  exact W.of e (q cs' _ d ⟨p3, p4, by have := g.t0; omega, by omega⟩ p1 p2)
def en : Option Int → PV
  | none => .non
  | some i => .int i
@[simp] theorem en_none : en none = .non := rfl
@[simp] theorem en_some (i : Int) : en (some i) = .int i := rfl
/-- an entry of less than so much either way -/
def EB (n : Int) (o : Option Int) : Prop := ∀ i, o = some i → -n < i ∧ i < n
theorem EB.none {n : Int} : EB n none := fun i e => by cases e
theorem EB.some {n i : Int} (h1 : -n < i) (h2 : i < n) : EB n (some i) := fun j e => by cases e; exact ⟨h1, h2⟩
@[simp high] theorem Sh_one (cs : List Int) (t : Int) (tl : HS) : (Sh cs t tl)[1]? = some (stDic 0 t) := rfl
@[simp high] theorem Sh_nil (cs : List Int) (t : Int) (tl : HS) : (Sh cs t tl)[0]? = some (.lst (cs.map PV.int)) := rfl
@[simp] theorem atI_zero (xs : List PV) : atI xs 0 = xs[0]? := by
  unfold atI ixN
  cases xs <;> simp
theorem atI_lit (xs : List PV) (n : Nat) : atI xs (OfNat.ofNat n) = xs[(OfNat.ofNat n : Nat)]? := by
  unfold atI ixN
  have e : (OfNat.ofNat n : Int) = (n : Int) := rfl
  have e2 : (OfNat.ofNat n : Nat) = n := rfl
  rw [e, e2, if_pos (by omega)]
  by_cases h : n < xs.length
  · rw [if_pos (by omega)]
    rfl
  · rw [if_neg (by omega), List.getElem?_eq_none (by omega)]
    rfl
@[simp] theorem atI_one (xs : List PV) : atI xs 1 = xs[1]? := atI_lit xs 1
@[simp] theorem atI_2 (xs : List PV) : atI xs 2 = xs[2]? := atI_lit xs 2
@[simp] theorem atI_3 (xs : List PV) : atI xs 3 = xs[3]? := atI_lit xs 3
@[simp] theorem atI_4 (xs : List PV) : atI xs 4 = xs[4]? := atI_lit xs 4
@[simp] theorem atI_5 (xs : List PV) : atI xs 5 = xs[5]? := atI_lit xs 5
@[simp] theorem atI_6 (xs : List PV) : atI xs 6 = xs[6]? := atI_lit xs 6
@[simp] theorem atI_7 (xs : List PV) : atI xs 7 = xs[7]? := atI_lit xs 7
@[simp] theorem atI_8 (xs : List PV) : atI xs 8 = xs[8]? := atI_lit xs 8
@[simp] theorem atI_9 (xs : List PV) : atI xs 9 = xs[9]? := atI_lit xs 9
@[simp] theorem atI_10 (xs : List PV) : atI xs 10 = xs[10]? := atI_lit xs 10
@[simp] theorem atI_11 (xs : List PV) : atI xs 11 = xs[11]? := atI_lit xs 11
@[simp] theorem atI_12 (xs : List PV) : atI xs 12 = xs[12]? := atI_lit xs 12
@[simp] theorem small_is {i : Int} (h1 : -1000000000000000000000000000000000000000000000000000 < i) (h2 : i < 1000000000000000000000000000000000000000000000000000) : small i = True := by
  have := small_lt (i := i) (by omega) (by omega)
  simp [this]
theorem small_big {i : Int} (h1 : -10 ^ 500 < i) (h2 : i < 10 ^ 500) : small i :=
  small_of (k := 2000) (i := i) (by
    have : (10 : Int) ^ 500 ≤ 2 ^ 2000 := by decide +kernel
    omega) (by decide)
@[simp] theorem rngP_len (lo : Int) (n : Nat) : (rngP lo n).length = n := by simp [rngP]
theorem rngP_get {lo : Int} {n i : Nat} {x : PV} (e : (rngP lo n)[i]? = some x) : i < n ∧ x = .int (lo + (i : Int)) := by
  have hlen : i < n := by
    have := (List.getElem?_eq_some_iff.mp e).1
    simpa [rngP] using this
  refine ⟨hlen, ?_⟩
  simp only [rngP, List.getElem?_map, List.getElem?_range hlen, Option.map_some, Option.some.injEq] at e
  exact e.symm
def dn : Option Int → PyData
  | none => .none
  | some i => .int i
theorem Rep.en {tl : HS} : ∀ (o : Option Int), Rep tl (en o) (dn o)
  | none => .non
  | some i => .int i
theorem Fine.dn (n : Nat) : ∀ (o : Option Int), Fine (n + 1) (dn o)
  | none => .non n
  | some i => .int n i
inductive En : PV → Prop
  | non : En .non
  | int (i : Int) : En (.int i)
theorem En.en : ∀ (o : Option Int), En (en o)
  | none => .non
  | some i => .int i
theorem En.get {v : PV} (h : En v) : ∃ o, v = Lt.en o := by
  cases h with
  | non => exact ⟨none, rfl⟩
  | int i => exact ⟨some i, rfl⟩
end Lt
namespace Lt
open PySem L2
/-! ### likeness of data, told by == -/
theorem fine_all : ∀ (n : Nat) {d : PyData}, Fine n d → d.canLay0 = true ∧ d.depth ≤ n
  | 0, d, f => by cases f
  | n + 1, d, f => by
    have all : ∀ ds : List PyData, (∀ d ∈ ds, Fine n d) → PyData.canLayAll0 ds = true ∧ PyData.depthAll ds ≤ n := by
      intro ds
      induction ds with
      | nil => intro _; exact ⟨rfl, Nat.zero_le _⟩
      | cons d ds ih =>
        intro hf
        obtain ⟨a, b⟩ := fine_all n (hf d (.head _))
        obtain ⟨a', b'⟩ := ih fun d hd => hf d (.tail _ hd)
        simp [PyData.canLayAll0, PyData.depthAll, a, a']
        omega
    cases f with
    | non => simp [PyData.canLay0, PyData.depth]
    | bl b => simp [PyData.canLay0, PyData.depth]
    | int i => simp [PyData.canLay0, PyData.depth]
    | str _ x h => exact ⟨h, by simp [PyData.depth]⟩
    | tup hl hf =>
      obtain ⟨a, b⟩ := all _ hf
      exact ⟨by simp [PyData.canLay0, a], by simp [PyData.depth]; omega⟩
    | lst hl hf =>
      obtain ⟨a, b⟩ := all _ hf
      exact ⟨by simp [PyData.canLay0, a], by simp [PyData.depth]; omega⟩
theorem Fine.shaped {n : Nat} {d : PyData} (f : Fine n d) (hn : n ≤ 64) : SeqAt.shaped d = true := by
  obtain ⟨a, b⟩ := fine_all n f
  unfold SeqAt.shaped
  rw [a]
  simp
  omega
theorem dat_rep {cs : List Int} {t : Int} {tl : HS} : ∀ (n : Nat) {v : PV} {d : PyData}, Fine n d → Rep tl v d → dat n (Sh cs t tl) v = some d
  | 0, v, d, f, _ => by cases f
  | n + 1, v, d, f, r => by
    have all : ∀ {ds : List PyData} {vs : List PV}, (∀ d ∈ ds, Fine n d) → Reps tl vs ds → datL (dat n (Sh cs t tl)) vs = some ds := by
      intro ds
      induction ds with
      | nil => intro vs _ r; cases r; rfl
      | cons d ds ih =>
        intro vs hf r
        cases r with
        | cons r rs =>
          unfold datL
          rw [dat_rep n (hf d (.head _)) r, ih (fun d hd => hf d (.tail _ hd)) rs]
    cases f with
    | non => cases r; rfl
    | bl b => cases r; rfl
    | int i => cases r; rfl
    | str _ x h => cases r; rfl
    | tup hl hf =>
      cases r with
      | tup rs =>
        unfold dat
        rw [all hf rs]
        rfl
    | lst hl hf =>
      cases r with
      | lst g rs =>
        unfold dat
        rw [Sh_get, g]
        dsimp only
        rw [all hf rs]
        rfl
theorem eqB_rep {cs : List Int} {t : Int} {tl : HS} {v w : PV} {d e : PyData} (fd : Fine 8 d) (fe : Fine 8 e) (rv : Rep tl v d) (rw' : Rep tl w e) : eqB v w (Sh cs t tl) = some (PyData.eqv d e) := by
  unfold eqB
  rw [dat_rep 8 fd rv, dat_rep 8 fe rw']
  simp [fd.shaped, fe.shaped]
theorem eqV_rep {cs : List Int} {t : Int} {tl : HS} {v w : PV} {d e : PyData} (fd : Fine 8 d) (fe : Fine 8 e) (rv : Rep tl v d) (rw' : Rep tl w e) : eqV v w (Sh cs t tl) = .ok (.bl (PyData.eqv d e)) (Sh cs t tl) := by
  unfold eqV
  rw [eqB_rep fd fe rv rw']
theorem neV_rep {cs : List Int} {t : Int} {tl : HS} {v w : PV} {d e : PyData} (fd : Fine 8 d) (fe : Fine 8 e) (rv : Rep tl v d) (rw' : Rep tl w e) : neV v w (Sh cs t tl) = .ok (.bl (!PyData.eqv d e)) (Sh cs t tl) := by
  unfold neV
  rw [eqB_rep fd fe rv rw']
/-! ### a law's two ends -/
theorem law_of {n : Nat} {b : Ms} (k : ∀ (cs : List Int) (Q : PV → HS → Prop), cs ≠ [] → cs.length ≤ 63 → (∀ h, Q (.bl true) h) → SW (b (none :: some (.ref 1) :: List.replicate n none) (Sh cs 0 [])) (kDef Q kF)) : LawOk n b := by
  intro cs h1 h2
  have w := k cs (fun v _ => v = .bl true) h1 h2 (fun _ => rfl)
  show ∃ h', b (none :: some (.ref 1) :: List.replicate n none) (Sh cs 0 []) = .rt (.bl true) h'
  cases e : b (none :: some (.ref 1) :: List.replicate n none) (Sh cs 0 []) with
  | rt v h' =>
    rw [e] at w
    have w : v = .bl true := w
    exact ⟨h', by rw [w]⟩
  | nx ρ h => rw [e] at w; exact nomatch (show PV.non = PV.bl true from w)
  | bk ρ h => rw [e] at w; exact w.elim
  | ct ρ h => rw [e] at w; exact w.elim
  | ex c ρ h => rw [e] at w; exact w.elim
  | no => rw [e] at w; exact w.elim
theorem datL_ints (n : Nat) (h : HS) : ∀ cs : List Int, datL (dat n h) (cs.map PV.int) = some (cs.map PyData.int)
  | [] => rfl
  | c :: cs => by
    unfold datL
    rw [List.map_cons]
    dsimp only
    rw [datL_ints n h cs]
    cases n <;> rfl
theorem lay_ints : ∀ cs : List Int, PyData.canLayAll0 (cs.map PyData.int) = true ∧ PyData.depthAll (cs.map PyData.int) = 0
  | [] => ⟨rfl, rfl⟩
  | c :: cs => by
    obtain ⟨a, b⟩ := lay_ints cs
    simp [PyData.canLayAll0, PyData.depthAll, PyData.canLay0, PyData.depth, a, b]
def kBeginB : Ms :=
    (mSeq (mIfS (m1 asB (m2 eqV (mVar 1) (m1 dLst mNil)))
    (mAsg (m1 dLst (mCons (mC (.int 11)) mNil)) (gNm 1))
    mSkip)
    (mRet (mDict [((mC (.str "cells")), (mVar 1)), ((mC (.str "turn")), (mC (.int 0)))])))
theorem kBegin_eq (cs0 : List Int) : eqV (.ref 0) (.ref 1) [.lst (cs0.map PV.int), .lst []] = .ok (.bl (decide (cs0 = []))) [.lst (cs0.map PV.int), .lst []] := by
  obtain ⟨a, b⟩ := lay_ints cs0
  have e1 : dat 8 [.lst (cs0.map PV.int), .lst []] (.ref 0) = some (.list (cs0.map PyData.int)) := by
    unfold dat
    simp [datL_ints]
  have e2 : dat 8 [.lst (cs0.map PV.int), .lst []] (.ref 1) = some (.list []) := by
    unfold dat
    simp [datL]
  have s1 : SeqAt.shaped (.list (cs0.map PyData.int)) = true := by
    unfold SeqAt.shaped
    simp [PyData.canLay0, PyData.depth, a, b]
  have s2 : SeqAt.shaped (.list []) = true := by
    unfold SeqAt.shaped
    simp [PyData.canLay0, PyData.depth, PyData.canLayAll0, PyData.depthAll]
  unfold eqV eqB
  rw [e1, e2]
  simp only [s1, s2, and_self, if_true]
  cases cs0 with
  | nil => rfl
  | cons c cs => simp [PyData.eqv, PyData.eqvAll]
theorem kBegin_ok : BeginOk kBeginB := by
  intro cs0
  have w : SW (kBeginB [none, some (.ref 0)] [.lst (cs0.map PV.int)]) { rt := fun v h' => ∃ n c cs, v = .ref n ∧ h'[n]? = some (stDic c 0) ∧ h'[c]? = some (.lst (cs.map PV.int)) ∧ cs ≠ [] ∧ (cs0.length ≤ 63 → cs.length ≤ 63) } := by
    by_cases hc : cs0 = []
    · have e := kBegin_eq []
      rw [List.map_nil] at e
      simp [kBeginB, dLst, e, hc, dDic, stDic, putP, ks_ct, ks_tc]
      exact ⟨[11], rfl, by simp, by simp⟩
    · simp [kBeginB, dLst, kBegin_eq, hc, dDic, stDic, putP, ks_ct, ks_tc]
      exact ⟨cs0, rfl, hc, id⟩
  cases e : kBeginB [none, some (.ref 0)] [.lst (cs0.map PV.int)] with
  | rt v h' =>
    rw [e] at w
    obtain ⟨n, c, cs, rfl, w⟩ := w
    exact ⟨n, h', c, cs, rfl, w⟩
  | nx ρ h => rw [e] at w; exact w.elim
  | bk ρ h => rw [e] at w; exact w.elim
  | ct ρ h => rw [e] at w; exact w.elim
  | ex c ρ h => rw [e] at w; exact w.elim
  | no => rw [e] at w; exact w.elim
end Lt
namespace Lt
open PySem L2
/-! ### trees of data, and how they lie in a plain heap: some lists owned, some lent -/
inductive D where
  | non | bl (b : Bool) | int (i : Int) | str (x : Str) | ty (n : String)
  | tup (xs : List D) | lst (xs : List D) | dic (kvs : List (Key × D)) | stt
mutual
inductive Ow (h : HS) (B : Nat → Prop) : PV → D → List Nat → Prop
  | non : Ow h B .non .non []
  | bl (b : Bool) : Ow h B (.bl b) (.bl b) []
  | int (i : Int) : Ow h B (.int i) (.int i) []
  | str (x : Str) : Ow h B (.str x) (.str x) []
  | ty (x : String) : Ow h B (.ty x) (.ty x) []
  | stt : Ow h B (.ref 1) .stt []
  | tup {vs : List PV} {ds : List D} {F : List Nat} (r : Ows h B vs ds F) : Ow h B (.tup vs) (.tup ds) F
  | bor {n : Nat} {vs : List PV} {ds : List D} (h2 : 2 ≤ n) (e : h[n]? = some (.lst vs)) (r : Ows h B vs ds []) (b : B n) : Ow h B (.ref n) (.lst ds) []
  | own {n : Nat} {vs : List PV} {ds : List D} {F : List Nat} (h2 : 2 ≤ n) (e : h[n]? = some (.lst vs)) (r : Ows h B vs ds F) : Ow h B (.ref n) (.lst ds) (n :: F)
  | borD {n : Nat} {vs : List (Key × PV)} {ds : List (Key × D)} (h2 : 2 ≤ n) (e : h[n]? = some (.dic vs)) (r : OwK h B vs ds []) (b : B n) : Ow h B (.ref n) (.dic ds) []
  | ownD {n : Nat} {vs : List (Key × PV)} {ds : List (Key × D)} {F : List Nat} (h2 : 2 ≤ n) (e : h[n]? = some (.dic vs)) (r : OwK h B vs ds F) : Ow h B (.ref n) (.dic ds) (n :: F)
inductive Ows (h : HS) (B : Nat → Prop) : List PV → List D → List Nat → Prop
  | nil : Ows h B [] [] []
  | cons {v : PV} {d : D} {vs : List PV} {ds : List D} {F G : List Nat} (r : Ow h B v d F) (t : Ows h B vs ds G) : Ows h B (v :: vs) (d :: ds) (F ++ G)
inductive OwK (h : HS) (B : Nat → Prop) : List (Key × PV) → List (Key × D) → List Nat → Prop
  | nil : OwK h B [] [] []
  | cons {k : Key} {v : PV} {d : D} {vs : List (Key × PV)} {ds : List (Key × D)} {F G : List Nat} (r : Ow h B v d F) (t : OwK h B vs ds G) : OwK h B ((k, v) :: vs) ((k, d) :: ds) (F ++ G)
end
abbrev BT : Nat → Prop := fun _ => True
abbrev BF : Nat → Prop := fun _ => False
/-- nothing that was there is changed, but the law's state -/
structure Kp (h h' : HS) : Prop where
  le : h.length ≤ h'.length
  eq : ∀ n, 2 ≤ n → n < h.length → h'[n]? = h[n]?
theorem Kp.refl {h : HS} : Kp h h := ⟨Nat.le_refl _, fun _ _ _ => rfl⟩
theorem Kp.trans {a b c : HS} (x : Kp a b) (y : Kp b c) : Kp a c := ⟨Nat.le_trans x.le y.le, fun n h2 hl => by rw [y.eq n h2 (Nat.lt_of_lt_of_le hl x.le), x.eq n h2 hl]⟩
theorem Kp.app {h g : HS} : Kp h (h ++ g) := ⟨by simp, fun n _ hl => by rw [List.getElem?_append_left hl]⟩
theorem get_lt {h : HS} {n : Nat} {o : HB} (e : h[n]? = some o) : n < h.length := (List.getElem?_eq_some_iff.mp e).1
/-! how what lies so may be told otherwise -/
mutual
theorem Ow.mv {h h' : HS} {B B' : Nat → Prop} : ∀ {v : PV} {d : D} {F : List Nat}, Ow h B v d F → (∀ n o, 2 ≤ n → h[n]? = some o → (B n ∨ n ∈ F) → h'[n]? = some o) → (∀ n, B n → B' n) → Ow h' B' v d F
  | _, _, _, .non, _, _ => .non
  | _, _, _, .bl b, _, _ => .bl b
  | _, _, _, .int b, _, _ => .int b
  | _, _, _, .str b, _, _ => .str b
  | _, _, _, .ty b, _, _ => .ty b
  | _, _, _, .stt, _, _ => .stt
  | _, _, _, .tup r, k, b => .tup (Ows.mv r k b)
  | _, _, _, .bor h2 e r q, k, b => .bor h2 (k _ _ h2 e (.inl q)) (Ows.mv r k b) (b _ q)
  | _, _, _, .own h2 e r, k, b => .own h2 (k _ _ h2 e (.inr (.head _))) (Ows.mv r (fun n o x y z => k n o x y (z.elim .inl fun z => .inr (.tail _ z))) b)
  | _, _, _, .borD h2 e r q, k, b => .borD h2 (k _ _ h2 e (.inl q)) (OwK.mv r k b) (b _ q)
  | _, _, _, .ownD h2 e r, k, b => .ownD h2 (k _ _ h2 e (.inr (.head _))) (OwK.mv r (fun n o x y z => k n o x y (z.elim .inl fun z => .inr (.tail _ z))) b)
theorem Ows.mv {h h' : HS} {B B' : Nat → Prop} : ∀ {v : List PV} {d : List D} {F : List Nat}, Ows h B v d F → (∀ n o, 2 ≤ n → h[n]? = some o → (B n ∨ n ∈ F) → h'[n]? = some o) → (∀ n, B n → B' n) → Ows h' B' v d F
  | _, _, _, .nil, _, _ => .nil
  | _, _, _, .cons r t, k, b => .cons (Ow.mv r (fun n o x y z => k n o x y (z.elim .inl fun z => .inr (List.mem_append_left _ z))) b) (Ows.mv t (fun n o x y z => k n o x y (z.elim .inl fun z => .inr (List.mem_append_right _ z))) b)
theorem OwK.mv {h h' : HS} {B B' : Nat → Prop} : ∀ {v : List (Key × PV)} {d : List (Key × D)} {F : List Nat}, OwK h B v d F → (∀ n o, 2 ≤ n → h[n]? = some o → (B n ∨ n ∈ F) → h'[n]? = some o) → (∀ n, B n → B' n) → OwK h' B' v d F
  | _, _, _, .nil, _, _ => .nil
  | _, _, _, .cons r t, k, b => .cons (Ow.mv r (fun n o x y z => k n o x y (z.elim .inl fun z => .inr (List.mem_append_left _ z))) b) (OwK.mv t (fun n o x y z => k n o x y (z.elim .inl fun z => .inr (List.mem_append_right _ z))) b)
end
section
variable {h h' : HS} {B B' : Nat → Prop} {v : PV} {d : D} {vs : List PV} {ds : List D} {kvs : List (Key × PV)} {kds : List (Key × D)} {F : List Nat}
theorem Ow.kp (r : Ow h B v d F) (k : Kp h h') : Ow h' B v d F := r.mv (fun n o h2 e _ => by rw [k.eq n h2 (get_lt e)]; exact e) fun _ z => z
theorem Ows.kp (r : Ows h B vs ds F) (k : Kp h h') : Ows h' B vs ds F := r.mv (fun n o h2 e _ => by rw [k.eq n h2 (get_lt e)]; exact e) fun _ z => z
theorem Ow.up (r : Ow h B v d F) (b : ∀ n, B n → B' n) : Ow h B' v d F := r.mv (fun _ _ _ e _ => e) b
theorem Ows.up (r : Ows h B vs ds F) (b : ∀ n, B n → B' n) : Ows h B' vs ds F := r.mv (fun _ _ _ e _ => e) b
end
mutual
theorem Ow.lend {h : HS} {B B' : Nat → Prop} : ∀ {v : PV} {d : D} {F : List Nat}, Ow h B v d F → (∀ n, B n → B' n) → (∀ n ∈ F, B' n) → Ow h B' v d []
  | _, _, _, .non, _, _ => .non
  | _, _, _, .bl b, _, _ => .bl b
  | _, _, _, .int b, _, _ => .int b
  | _, _, _, .str b, _, _ => .str b
  | _, _, _, .ty b, _, _ => .ty b
  | _, _, _, .stt, _, _ => .stt
  | _, _, _, .tup r, k, b => .tup (Ows.lend r k b)
  | _, _, _, .bor h2 e r q, k, b => .bor h2 e (Ows.lend r k (fun _ z => absurd z List.not_mem_nil)) (k _ q)
  | _, _, _, .own h2 e r, k, b => .bor h2 e (Ows.lend r k fun n z => b n (.tail _ z)) (b _ (.head _))
  | _, _, _, .borD h2 e r q, k, b => .borD h2 e (OwK.lend r k (fun _ z => absurd z List.not_mem_nil)) (k _ q)
  | _, _, _, .ownD h2 e r, k, b => .borD h2 e (OwK.lend r k fun n z => b n (.tail _ z)) (b _ (.head _))
theorem Ows.lend {h : HS} {B B' : Nat → Prop} : ∀ {v : List PV} {d : List D} {F : List Nat}, Ows h B v d F → (∀ n, B n → B' n) → (∀ n ∈ F, B' n) → Ows h B' v d []
  | _, _, _, .nil, _, _ => .nil
  | _, _, _, .cons r t, k, b => .cons (F := []) (Ow.lend r k fun n z => b n (List.mem_append_left _ z)) (Ows.lend t k fun n z => b n (List.mem_append_right _ z))
theorem OwK.lend {h : HS} {B B' : Nat → Prop} : ∀ {v : List (Key × PV)} {d : List (Key × D)} {F : List Nat}, OwK h B v d F → (∀ n, B n → B' n) → (∀ n ∈ F, B' n) → OwK h B' v d []
  | _, _, _, .nil, _, _ => .nil
  | _, _, _, .cons r t, k, b => .cons (F := []) (Ow.lend r k fun n z => b n (List.mem_append_left _ z)) (OwK.lend t k fun n z => b n (List.mem_append_right _ z))
end
theorem Ow.rd {h : HS} {B : Nat → Prop} {v : PV} {d : D} {F : List Nat} (r : Ow h B v d F) : Ow h BT v d [] := r.lend (fun _ _ => trivial) fun _ _ => trivial
theorem Ows.rd {h : HS} {B : Nat → Prop} {v : List PV} {d : List D} {F : List Nat} (r : Ows h B v d F) : Ows h BT v d [] := r.lend (fun _ _ => trivial) fun _ _ => trivial
mutual
@[simp] def D.flat : D → Bool
  | .tup xs => D.flats xs
  | .lst _ => false
  | .dic _ => false
  | .stt => false
  | _ => true
@[simp] def D.flats : List D → Bool
  | [] => true
  | x :: xs => x.flat && D.flats xs
end
mutual
theorem Ow.flat {h : HS} {B : Nat → Prop} (h' : HS) (B' : Nat → Prop) : ∀ {v : PV} {d : D} {F : List Nat}, Ow h B v d F → d.flat = true → Ow h' B' v d []
  | _, _, _, .non, _ => .non
  | _, _, _, .bl b, _ => .bl b
  | _, _, _, .int b, _ => .int b
  | _, _, _, .str b, _ => .str b
  | _, _, _, .ty b, _ => .ty b
  | _, _, _, .tup r, e => .tup (Ows.flat h' B' r (by simpa [D.flat] using e))
  | _, _, _, .stt, e => by simp [D.flat] at e
  | _, _, _, .bor .., e => by simp [D.flat] at e
  | _, _, _, .own .., e => by simp [D.flat] at e
  | _, _, _, .borD .., e => by simp [D.flat] at e
  | _, _, _, .ownD .., e => by simp [D.flat] at e
theorem Ows.flat {h : HS} {B : Nat → Prop} (h' : HS) (B' : Nat → Prop) : ∀ {v : List PV} {d : List D} {F : List Nat}, Ows h B v d F → D.flats d = true → Ows h' B' v d []
  | _, _, _, .nil, _ => .nil
  | _, _, _, .cons r t, e => by
    simp only [D.flats, Bool.and_eq_true] at e
    exact .cons (F := []) (Ow.flat h' B' r e.1) (Ows.flat h' B' t e.2)
end
/-- owned by less: nothing more, nothing twice -/
structure Sb (F G : List Nat) : Prop where
  sub : ∀ n ∈ F, n ∈ G
  nd : G.Nodup → F.Nodup
theorem Sb.refl (F : List Nat) : Sb F F := ⟨fun _ h => h, id⟩
theorem Sb.of {F G : List Nat} (s : F.Sublist G) : Sb F G := ⟨fun n h => s.subset h, fun h => h.sublist s⟩
theorem Sb.trans {F G H : List Nat} (a : Sb F G) (b : Sb G H) : Sb F H := ⟨fun n h => b.sub n (a.sub n h), fun h => a.nd (b.nd h)⟩
theorem Sb.app {F G F' G' : List Nat} (a : Sb F F') (b : Sb G G') : Sb (F ++ G) (F' ++ G') := ⟨fun n h => by
  rcases List.mem_append.mp h with h | h
  · exact List.mem_append_left _ (a.sub n h)
  · exact List.mem_append_right _ (b.sub n h), fun h => by
  obtain ⟨h1, h2, h3⟩ := List.nodup_append.mp h
  exact List.nodup_append.mpr ⟨a.nd h1, b.nd h2, fun x hx y hy => h3 x (a.sub x hx) y (b.sub y hy)⟩⟩
theorem Sb.swap (F G : List Nat) : Sb (F ++ G) (G ++ F) := ⟨fun n h => by simp at h ⊢; exact h.symm, fun h => (List.perm_append_comm.nodup_iff).mp h⟩
section
variable {h : HS} {B : Nat → Prop} {v : PV} {d : D} {vs ws : List PV} {ds es : List D} {F G : List Nat}
theorem Ows.length : ∀ {vs : List PV} {ds : List D} {F : List Nat}, Ows h B vs ds F → vs.length = ds.length
  | _, _, _, .nil => rfl
  | _, _, _, .cons r t => by rw [List.length_cons, List.length_cons, Ows.length t]
theorem Ows.one (r : Ow h B v d F) : Ows h B [v] [d] F := by
  have := Ows.cons r .nil
  rwa [List.append_nil] at this
theorem Ows.app : ∀ {vs : List PV} {ds : List D} {F : List Nat}, Ows h B vs ds F → Ows h B ws es G → Ows h B (vs ++ ws) (ds ++ es) (F ++ G)
  | _, _, _, .nil, q => q
  | _, _, _, .cons r t, q => by
    rw [List.append_assoc]
    exact .cons r (Ows.app t q)
theorem Ows.get : ∀ {vs : List PV} {ds : List D} {F : List Nat} {i : Nat} {v : PV}, Ows h B vs ds F → vs[i]? = some v → ∃ d G, ds[i]? = some d ∧ Ow h B v d G ∧ G.Sublist F
  | _, _, _, _, _, .nil, e => by simp at e
  | _, _, _, 0, _, .cons r t, e => by simp at e; subst e; exact ⟨_, _, rfl, r, List.sublist_append_left _ _⟩
  | _, _, _, i + 1, x, .cons r t, e => by
    obtain ⟨y, G, h1, h2, h3⟩ := Ows.get (i := i) (v := x) t (by simpa using e)
    exact ⟨y, G, by simpa using h1, h2, h3.trans (List.sublist_append_right _ _)⟩
theorem Ows.getD {i : Nat} {d : D} (r : Ows h B vs ds F) (e : ds[i]? = some d) : ∃ v G, vs[i]? = some v ∧ Ow h B v d G ∧ G.Sublist F := by
  have hl : i < vs.length := by rw [r.length]; exact (List.getElem?_eq_some_iff.mp e).1
  obtain ⟨d', G, h1, h2, h3⟩ := r.get (List.getElem?_eq_getElem hl)
  rw [e] at h1
  cases h1
  exact ⟨_, G, List.getElem?_eq_getElem hl, h2, h3⟩
theorem Ows.take : ∀ {vs : List PV} {ds : List D} {F : List Nat} (n : Nat), Ows h B vs ds F → ∃ G, Ows h B (vs.take n) (ds.take n) G ∧ G.Sublist F
  | _, _, _, 0, _ => ⟨[], .nil, List.nil_sublist _⟩
  | _, _, _, n + 1, .nil => ⟨[], .nil, List.nil_sublist _⟩
  | _, _, _, n + 1, .cons r t => by
    obtain ⟨G, h1, h2⟩ := Ows.take n t
    exact ⟨_, .cons r h1, h2.append_left _⟩
theorem Ows.drop : ∀ {vs : List PV} {ds : List D} {F : List Nat} (n : Nat), Ows h B vs ds F → ∃ G, Ows h B (vs.drop n) (ds.drop n) G ∧ G.Sublist F
  | _, _, _, 0, r => ⟨_, r, List.Sublist.refl _⟩
  | _, _, _, n + 1, .nil => ⟨[], .nil, List.nil_sublist _⟩
  | _, _, _, n + 1, .cons r t => by
    obtain ⟨G, h1, h2⟩ := Ows.drop n t
    exact ⟨_, h1, h2.trans (List.sublist_append_right _ _)⟩
theorem Ows.rev : ∀ {vs : List PV} {ds : List D} {F : List Nat}, Ows h B vs ds F → ∃ G, Ows h B vs.reverse ds.reverse G ∧ Sb G F
  | _, _, _, .nil => ⟨[], .nil, .refl _⟩
  | _, _, _, .cons r t => by
    obtain ⟨G, h1, h2⟩ := Ows.rev t
    rw [List.reverse_cons, List.reverse_cons]
    exact ⟨_, h1.app (.one r), (h2.app (.refl _)).trans (.swap _ _)⟩
theorem Ows.set (q : Ow h B v d G) : ∀ {vs : List PV} {ds : List D} {F : List Nat} (i : Nat), Ows h B vs ds F → ∃ F', Ows h B (vs.set i v) (ds.set i d) F' ∧ Sb F' (F ++ G)
  | _, _, _, _, .nil => ⟨[], .nil, .of (List.nil_sublist _)⟩
  | _, _, _, 0, .cons (F := F1) (G := F2) r t => ⟨_, .cons q t, (Sb.swap _ _).trans (.of ((List.sublist_append_right F1 F2).append_right G))⟩
  | _, _, _, i + 1, .cons r t => by
    obtain ⟨F', h1, h2⟩ := Ows.set q i t
    exact ⟨_, .cons r h1, by rw [List.append_assoc]; exact (Sb.refl _).app h2⟩
theorem Ows.dropLast (r : Ows h B vs ds F) : ∃ G, Ows h B vs.dropLast ds.dropLast G ∧ G.Sublist F := by
  rw [List.dropLast_eq_take, List.dropLast_eq_take, r.length]
  exact r.take _
theorem Ows.snoc (r : Ows h B vs ds F) (q : Ow h B v d G) : Ows h B (vs ++ [v]) (ds ++ [d]) (F ++ G) := r.app (.one q)
end
mutual
theorem Ow.lt {h : HS} {B : Nat → Prop} : ∀ {v : PV} {d : D} {F : List Nat}, Ow h B v d F → ∀ n ∈ F, 2 ≤ n ∧ n < h.length
  | _, _, _, .tup r, n, z => Ows.lt r n z
  | _, _, _, .own h2 e r, n, z => (List.mem_cons.mp z).elim (fun z => by rw [z]; exact ⟨h2, get_lt e⟩) (Ows.lt r n)
  | _, _, _, .ownD h2 e r, n, z => (List.mem_cons.mp z).elim (fun z => by rw [z]; exact ⟨h2, get_lt e⟩) (OwK.lt r n)
  | _, _, _, .bor .., n, z => absurd z List.not_mem_nil
  | _, _, _, .borD .., n, z => absurd z List.not_mem_nil
  | _, _, _, .non, n, z => absurd z List.not_mem_nil
  | _, _, _, .bl _, n, z => absurd z List.not_mem_nil
  | _, _, _, .int _, n, z => absurd z List.not_mem_nil
  | _, _, _, .str _, n, z => absurd z List.not_mem_nil
  | _, _, _, .ty _, n, z => absurd z List.not_mem_nil
  | _, _, _, .stt, n, z => absurd z List.not_mem_nil
theorem Ows.lt {h : HS} {B : Nat → Prop} : ∀ {v : List PV} {d : List D} {F : List Nat}, Ows h B v d F → ∀ n ∈ F, 2 ≤ n ∧ n < h.length
  | _, _, _, .nil, n, z => absurd z List.not_mem_nil
  | _, _, _, .cons r t, n, z => (List.mem_append.mp z).elim (Ow.lt r n) (Ows.lt t n)
theorem OwK.lt {h : HS} {B : Nat → Prop} : ∀ {v : List (Key × PV)} {d : List (Key × D)} {F : List Nat}, OwK h B v d F → ∀ n ∈ F, 2 ≤ n ∧ n < h.length
  | _, _, _, .nil, n, z => absurd z List.not_mem_nil
  | _, _, _, .cons r t, n, z => (List.mem_append.mp z).elim (Ow.lt r n) (OwK.lt t n)
end
/-- a row's items -/
def D.seq : D → Option (List D)
  | .tup xs => some xs
  | .lst xs => some xs
  | _ => none
@[simp] theorem D.seq_tup (xs : List D) : (D.tup xs).seq = some xs := rfl
@[simp] theorem D.seq_lst (xs : List D) : (D.lst xs).seq = some xs := rfl
theorem Ow.seq {h : HS} {B : Nat → Prop} {v : PV} {d : D} {ds : List D} {F : List Nat} (r : Ow h B v d F) (e : d.seq = some ds) : ∃ vs G, seqOf h v = some vs ∧ Ows h B vs ds G ∧ G.Sublist F := by
  cases r with
  | tup r => cases e; exact ⟨_, _, rfl, r, List.Sublist.refl _⟩
  | bor h2 g r b => cases e; exact ⟨_, _, by simp [g], r, List.Sublist.refl _⟩
  | own h2 g r => cases e; exact ⟨_, _, by simp [g], r, List.sublist_cons_self _ _⟩
  | _ => cases e
end Lt
namespace Lt
open PySem L2
/-! ### the plain side: data and the law's state, no heap -/
structure G where
  cs : List Int
  t : Int
def GR (g : G) (h : HS) : Prop := h[0]? = some (.lst (g.cs.map PV.int)) ∧ h[1]? = some (stDic 0 g.t)
structure DX where
  cls : Str
  fs : Option (List (Str × D))
inductive Rd (α : Type) where
  | ok (a : α) (g : G) | ex (e : DX) (g : G) | no
def Rd.bind {α β : Type} (r : Rd α) (f : α → G → Rd β) : Rd β := match r with
  | .ok a g => f a g
  | .ex e g => .ex e g
  | .no => .no
inductive SD where
  | nx (η : List (Option D)) (g : G) | rt (d : D) (g : G) | bk (η : List (Option D)) (g : G) | ct (η : List (Option D)) (g : G) | ex (e : DX) (g : G) | no
abbrev Dn := List (Option D)
abbrev Di (α : Type) := Dn → G → Rd α
abbrev Ds := Dn → G → SD
/-- the fields of what is raised -/
inductive XF (h : HS) : List (Str × PV) → List (Str × D) → Prop
  | nil : XF h [] []
  | cons {k : Str} {v : PV} {d : D} {vs : List (Str × PV)} {ds : List (Str × D)} (r : Ow h BT v d []) (t : XF h vs ds) : XF h ((k, v) :: vs) ((k, d) :: ds)
def XR (h : HS) (e : PX) (c : DX) : Prop := e.cls = c.cls ∧ match e.fs, c.fs with
  | none, none => True
  | some vs, some ds => XF h vs ds
  | _, _ => False
theorem XF.kp {h h' : HS} (k : Kp h h') {vs : List (Str × PV)} {ds : List (Str × D)} (x : XF h vs ds) : XF h' vs ds := by
  induction x with
  | nil => exact .nil
  | cons r t ih => exact .cons (r.kp k) ih
theorem GR.two {g : G} {h : HS} (r : GR g h) : 2 ≤ h.length := by
  have := get_lt r.2
  omega
theorem GR.app {g : G} {h k : HS} (r : GR g h) : GR g (h ++ k) := ⟨by rw [List.getElem?_append_left (get_lt r.1)]; exact r.1, by rw [List.getElem?_append_left (get_lt r.2)]; exact r.2⟩
/-! ### what a step on values does -/
/-- behind a step: what is lent, what is owned by what it tells -/
structure Aft (g' : G) (Bl : Nat → Prop) (S : Nat → Prop) (h h' : HS) (P : HS → (Nat → Prop) → List Nat → Prop) (Bl' : Nat → Prop) (F : List Nat) : Prop where
  kp : Kp h h'
  gr : GR g' h'
  up : ∀ n, Bl n → Bl' n
  dn : ∀ n, Bl' n → Bl n ∨ (h.length ≤ n ∧ n < h'.length)
  nd : F.Nodup
  nb : ∀ n ∈ F, ¬ Bl' n
  fr : ∀ n ∈ F, S n ∨ h.length ≤ n
  val : P h' Bl' F
abbrev Rel (α β : Type) := α → β → HS → (Nat → Prop) → List Nat → Prop
section
variable {α β α' β' γ γ' : Type}
def Op (P : Rel α α') (Q : Rel β β') (k : α → HS → R β) (f : α' → G → Rd β') : Prop :=
  ∀ (a : α) (b : α') (g : G) (h : HS) (Bl : Nat → Prop) (F : List Nat), GR g h → P a b h Bl F → F.Nodup → (∀ n ∈ F, ¬ Bl n) → (∀ n, Bl n → n < h.length) → match f b g with
    | .ok c g' => ∃ v h', k a h = .ok v h' ∧ ∃ Bl' F', Aft g' Bl (· ∈ F) h h' (Q v c) Bl' F'
    | .ex c g' => ∃ c' h', k a h = .ex c' h' ∧ Kp h h' ∧ GR g' h' ∧ XR h' c' c
    | .no => True
/-! kinds of slots -/
inductive Kd where
  | im | tr | sp | lk | rk | xx
  deriving DecidableEq
inductive Sl (h : HS) (Pt Bl : Nat → Prop) : Kd → Option D → List Nat → Option PV → Prop
  | un (k : Kd) (y : Option PV) : Sl h Pt Bl k none [] y
  | im {v : PV} {d : D} (r : Ow h Bl v d []) : Sl h Pt Bl .im (some d) [] (some v)
  | tr {v : PV} {d : D} {F : List Nat} (r : Ow h BF v d F) : Sl h Pt Bl .tr (some d) F (some v)
  | sp {v : PV} {d : D} {F : List Nat} (r : Ow h Bl v d F) (o : ∀ ds, d = .lst ds → ∃ n G, v = .ref n ∧ F = n :: G) : Sl h Pt Bl .sp (some d) F (some v)
  | lk {v : PV} {d : D} (r : Ow h Pt v d []) : Sl h Pt Bl .lk (some d) [] (some v)
  | rk {v : PV} {d : D} (r : Ow h BT v d []) : Sl h Pt Bl .rk (some d) [] (some v)
  | xx (d : Option D) (y : Option PV) : Sl h Pt Bl .xx d [] y
inductive Sls (h : HS) (Pt Bl : Nat → Prop) : List Kd → Dn → List (List Nat) → Pn → Prop
  | nil : Sls h Pt Bl [] [] [] []
  | cons {k : Kd} {x : Option D} {F : List Nat} {y : Option PV} {κ : List Kd} {η : Dn} {Fs : List (List Nat)} {ρ : Pn} (s : Sl h Pt Bl k x F y) (t : Sls h Pt Bl κ η Fs ρ) : Sls h Pt Bl (k :: κ) (x :: η) (F :: Fs) (y :: ρ)
structure Stt (Bz : Nat → Prop) (κ : List Kd) (η : Dn) (g : G) (Pt Bl : Nat → Prop) (Fs : List (List Nat)) (ρ : Pn) (h : HS) : Prop where
  gr : GR g h
  sl : Sls h Pt Bl κ η Fs ρ
  nd : Fs.flatten.Nodup
  fl : ∀ n ∈ Fs.flatten, ¬ Pt n
  pt : ∀ n, Pt n → n < h.length
  bl : ∀ n, Bl n → Pt n ∧ Bz n
  bz : ∀ n, ¬ Pt n → Bz n
theorem Sl.up {h h' : HS} {Pt Pt' Bl Bl' : Nat → Prop} {k : Kd} {x : Option D} {F : List Nat} {y : Option PV} (s : Sl h Pt Bl k x F y) (kp : Kp h h') (p : ∀ n, Pt n → Pt' n) (b : ∀ n, Bl n → Bl' n) : Sl h' Pt' Bl' k x F y := by
  cases s with
  | un => exact .un _ _
  | im r => exact .im ((r.kp kp).up b)
  | tr r => exact .tr (r.kp kp)
  | sp r o => exact .sp ((r.kp kp).up b) o
  | lk r => exact .lk ((r.kp kp).up p)
  | rk r => exact .rk (r.kp kp)
  | xx => exact .xx _ _
theorem Sls.up {h h' : HS} {Pt Pt' Bl Bl' : Nat → Prop} {κ : List Kd} {η : Dn} {Fs : List (List Nat)} {ρ : Pn} (s : Sls h Pt Bl κ η Fs ρ) (kp : Kp h h') (p : ∀ n, Pt n → Pt' n) (b : ∀ n, Bl n → Bl' n) : Sls h' Pt' Bl' κ η Fs ρ := by
  induction s with
  | nil => exact .nil
  | cons s t ih => exact .cons (s.up kp p b) ih
theorem Sl.lt {h : HS} {Pt Bl : Nat → Prop} {k : Kd} {x : Option D} {F : List Nat} {y : Option PV} (s : Sl h Pt Bl k x F y) : ∀ n ∈ F, 2 ≤ n ∧ n < h.length := by
  cases s with
  | tr r => exact r.lt
  | sp r o => exact r.lt
  | _ => exact fun n z => absurd z List.not_mem_nil
theorem Sls.lt {h : HS} {Pt Bl : Nat → Prop} {κ : List Kd} {η : Dn} {Fs : List (List Nat)} {ρ : Pn} (s : Sls h Pt Bl κ η Fs ρ) : ∀ n ∈ Fs.flatten, 2 ≤ n ∧ n < h.length := by
  induction s with
  | nil => exact fun n z => absurd z List.not_mem_nil
  | cons s t ih =>
    intro n z
    rw [List.flatten_cons] at z
    exact (List.mem_append.mp z).elim (s.lt n) (ih n)
/-- the state behind a step -/
theorem Stt.step {Bz : Nat → Prop} {κ : List Kd} {η : Dn} {g g' : G} {Pt Bl S Bl' : Nat → Prop} {Fs : List (List Nat)} {F : List Nat} {ρ : Pn} {h h' : HS} {P : HS → (Nat → Prop) → List Nat → Prop} (s : Stt Bz κ η g Pt Bl Fs ρ h) (a : Aft g' Bl S h h' P Bl' F) :
    Stt Bz κ η g' (fun n => Pt n ∨ Bl' n) Bl' Fs ρ h' where
  gr := a.gr
  sl := s.sl.up a.kp (fun _ => .inl) a.up
  nd := s.nd
  fl := fun n hn z => by
    rcases z with z | z
    · exact s.fl n hn z
    · rcases a.dn n z with z | z
      · exact s.fl n hn (s.bl n z).1
      · have := (s.sl.lt n hn).2
        omega
  pt := fun n z => by
    rcases z with z | z
    · exact Nat.lt_of_lt_of_le (s.pt n z) a.kp.le
    · rcases a.dn n z with z | z
      · exact Nat.lt_of_lt_of_le (s.pt n (s.bl n z).1) a.kp.le
      · exact z.2
  bl := fun n z => ⟨.inr z, (a.dn n z).elim (fun z => (s.bl n z).2) fun z => s.bz n fun q => by have := s.pt n q; omega⟩
  bz := fun n z => s.bz n fun q => z (.inl q)
/-! ### the rule of expressions -/
def sown (Fs : List (List Nat)) (S : List Nat) (n : Nat) : Prop := ∃ i ∈ S, n ∈ Fs.getD i []
structure PuX (κ : List Kd) (S : List Nat) (e : Mi α) (f : Di α') (P : Rel α α') : Prop where
  run : ∀ {Bz : Nat → Prop} {η : Dn} {g : G} {Pt Bl : Nat → Prop} {Fs : List (List Nat)} {ρ : Pn} {h : HS}, Stt Bz κ η g Pt Bl Fs ρ h → match f η g with
    | .ok c g' => ∃ v h', e ρ h = .ok v h' ∧ ∃ Bl' F', Aft g' Bl (sown Fs S) h h' (P v c) Bl' F'
    | .ex c g' => ∃ c' h', e ρ h = .ex c' h' ∧ Kp h h' ∧ GR g' h' ∧ XR h' c' c
    | .no => True
def d1 (k : α → G → Rd β) (f : Di α) (η : Dn) (g : G) : Rd β := (f η g).bind k
def dPair (a : Di α) (b : Di β) (η : Dn) (g : G) : Rd (α × β) := (a η g).bind fun x g1 => (b η g1).bind fun y g2 => .ok (x, y) g2
def mPair (a : Mi α) (b : Mi β) (ρ : Pn) (h : HS) : R (α × β) := (a ρ h).bind fun x h1 => (b ρ h1).bind fun y h2 => .ok (x, y) h2
/-- a value's relation goes on -/
def Mon (P : Rel α α') : Prop := ∀ {a : α} {b : α'} {h h' : HS} {B B' : Nat → Prop} {F : List Nat}, P a b h B F → Kp h h' → (∀ n, B n → B' n) → P a b h' B' F ∧ ∀ n ∈ F, n < h.length
def RPair (P : Rel α α') (Q : Rel β β') : Rel (α × β) (α' × β') := fun a b h B F => ∃ F1 F2, F = F1 ++ F2 ∧ P a.1 b.1 h B F1 ∧ Q a.2 b.2 h B F2
theorem PuX.map {κ : List Kd} {S : List Nat} {e : Mi α} {f : Di α'} {P : Rel α α'} {Q : Rel β β'} {k : α → HS → R β} {fk : α' → G → Rd β'} (ha : PuX κ S e f P) (ho : Op P Q k fk) : PuX κ S (m1 k e) (d1 fk f) Q := by
  refine ⟨fun {Bz η g Pt Bl Fs ρ h} s => ?_⟩
  have h1 := ha.run s
  unfold d1 m1
  cases e1 : f η g with
  | no => trivial
  | ex c g' =>
    rw [e1] at h1
    obtain ⟨c', h', e2, k1, k2, k3⟩ := h1
    exact ⟨c', h', by rw [e2]; rfl, k1, k2, k3⟩
  | ok c g1 =>
    rw [e1] at h1
    obtain ⟨v, h1', e2, Bl1, F1, a1⟩ := h1
    have s1 := s.step a1
    have h2 := ho v c g1 h1' Bl1 F1 a1.gr a1.val a1.nd a1.nb fun n z => s1.pt n (.inr z)
    simp only [Rd.bind]
    rw [e2]
    simp only [R.bind_ok]
    cases e3 : fk c g1 with
    | no => trivial
    | ex c g' =>
      rw [e3] at h2
      obtain ⟨c', h', e4, k1, k2, k3⟩ := h2
      exact ⟨c', h', e4, a1.kp.trans k1, k2, k3⟩
    | ok c2 g2 =>
      rw [e3] at h2
      obtain ⟨w, h2', e4, Bl2, F2, a2⟩ := h2
      refine ⟨w, h2', e4, Bl2, F2, a1.kp.trans a2.kp, a2.gr, fun n z => a2.up n (a1.up n z), fun n z => ?_, a2.nd, a2.nb, fun n z => ?_, a2.val⟩
      · rcases a2.dn n z with z | z
        · rcases a1.dn n z with z | z
          · exact .inl z
          · exact .inr ⟨z.1, Nat.lt_of_lt_of_le z.2 a2.kp.le⟩
        · exact .inr ⟨Nat.le_trans a1.kp.le z.1, z.2⟩
      · rcases a2.fr n z with z | z
        · exact a1.fr n z
        · exact .inr (Nat.le_trans a1.kp.le z)
theorem flat_dis {Fs : List (List Nat)} (nd : Fs.flatten.Nodup) : ∀ {i j n : Nat}, n ∈ Fs.getD i [] → n ∈ Fs.getD j [] → i = j := by
  induction Fs with
  | nil => intro i j n a; simp at a
  | cons F Fs ih =>
    rw [List.flatten_cons] at nd
    obtain ⟨n1, n2, n3⟩ := List.nodup_append.mp nd
    have sub : ∀ {i n : Nat}, n ∈ Fs.getD i [] → n ∈ Fs.flatten := fun {i n} a => by
      rw [List.getD_eq_getElem?_getD] at a
      cases e : Fs[i]? with
      | none => rw [e] at a; simp at a
      | some X =>
        rw [e] at a
        exact List.mem_flatten.mpr ⟨X, List.mem_of_getElem? e, a⟩
    intro i j n a b
    cases i with
    | zero =>
      cases j with
      | zero => rfl
      | succ j => exact absurd rfl (n3 n (by simpa using a) n (sub (by simpa using b)))
    | succ i =>
      cases j with
      | zero => exact absurd rfl (n3 n (by simpa using b) n (sub (by simpa using a)))
      | succ j =>
        have := ih n2 (i := i) (j := j) (n := n) (by simpa using a) (by simpa using b)
        rw [this]
theorem PuX.pair {κ : List Kd} {S T : List Nat} {a : Mi α} {fa : Di α'} {P : Rel α α'} {b : Mi β} {fb : Di β'} {Q : Rel β β'} (ha : PuX κ S a fa P) (mp : Mon P) (hb : PuX κ T b fb Q) (dis : ∀ i ∈ S, i ∉ T := by decide) : PuX κ (S ++ T) (mPair a b) (dPair fa fb) (RPair P Q) := by
  refine ⟨fun {Bz η g Pt Bl Fs ρ h} s => ?_⟩
  have h1 := ha.run s
  unfold dPair mPair
  cases e1 : fa η g with
  | no => trivial
  | ex c g' =>
    rw [e1] at h1
    obtain ⟨c', h', e2, k1, k2, k3⟩ := h1
    exact ⟨c', h', by rw [e2]; rfl, k1, k2, k3⟩
  | ok c g1 =>
    rw [e1] at h1
    obtain ⟨v, h1', e2, Bl1, F1, a1⟩ := h1
    have s1 := s.step a1
    have h2 := hb.run s1
    simp only [Rd.bind]
    rw [e2]
    simp only [R.bind_ok]
    cases e3 : fb η g1 with
    | no => trivial
    | ex c g' =>
      rw [e3] at h2
      obtain ⟨c', h', e4, k1, k2, k3⟩ := h2
      exact ⟨c', h', by rw [e4]; rfl, a1.kp.trans k1, k2, k3⟩
    | ok c2 g2 =>
      rw [e3] at h2
      obtain ⟨w, h2', e4, Bl2, F2, a2⟩ := h2
      obtain ⟨p1, p2⟩ := mp a1.val a2.kp a2.up
      refine ⟨(v, w), h2', by rw [e4]; rfl, Bl2, F1 ++ F2, a1.kp.trans a2.kp, a2.gr, fun n z => a2.up n (a1.up n z), fun n z => ?_, List.nodup_append.mpr ⟨a1.nd, a2.nd, fun x hx y hy e => ?_⟩, fun n z q => ?_, fun n z => ?_, F1, F2, rfl, p1, a2.val⟩
      · rcases a2.dn n z with z | z
        · rcases a1.dn n z with z | z
          · exact .inl z
          · exact .inr ⟨z.1, Nat.lt_of_lt_of_le z.2 a2.kp.le⟩
        · exact .inr ⟨Nat.le_trans a1.kp.le z.1, z.2⟩
      · subst e
        rcases a2.fr x hy with ⟨i, hi, mi⟩ | z
        · rcases a1.fr x hx with ⟨j, hj, mj⟩ | z
          · have := flat_dis s.nd mi mj
            subst this
            exact dis i hj hi
          · have hm : x ∈ Fs.flatten := by
              rw [List.getD_eq_getElem?_getD] at mi
              cases e : Fs[i]? with
              | none => rw [e] at mi; simp at mi
              | some X =>
                rw [e] at mi
                exact List.mem_flatten.mpr ⟨X, List.mem_of_getElem? e, mi⟩
            have := (s.sl.lt x hm).2
            omega
        · have := p2 x hx
          omega
      · rcases List.mem_append.mp z with z | z
        · rcases a2.dn n q with q | q
          · exact a1.nb n z q
          · have := p2 n z
            omega
        · exact a2.nb n z q
      · rcases List.mem_append.mp z with z | z
        · exact (a1.fr n z).imp (fun ⟨i, hi, mi⟩ => ⟨i, List.mem_append_left _ hi, mi⟩) id
        · exact (a2.fr n z).imp (fun ⟨i, hi, mi⟩ => ⟨i, List.mem_append_right _ hi, mi⟩) fun z => Nat.le_trans a1.kp.le z
end
end Lt
namespace Lt
open PySem L2
/-! ### values told by an expression: to be read, lent, owned by nobody else -/
inductive Md where
  | rd | bo | fr
  deriving DecidableEq
def BM : Md → (Nat → Prop) → Nat → Prop
  | .rd, _ => BT
  | .bo, B => B
  | .fr, _ => BF
def PR (m : Md) : Rel PV D := fun v d h B F => Ow h (BM m B) v d F ∧ (m = .rd → F = [])
def PL (m : Md) : Rel (List PV) (List D) := fun v d h B F => Ows h (BM m B) v d F ∧ (m = .rd → F = [])
def PE {α : Type} : Rel α α := fun a b _ _ F => a = b ∧ F = []
theorem BM.up {m : Md} {B B' : Nat → Prop} (b : ∀ n, B n → B' n) : ∀ n, BM m B n → BM m B' n := by
  cases m with
  | rd => exact fun n z => z
  | bo => exact b
  | fr => exact fun n z => z
theorem PR.mon {m : Md} : Mon (PR m) := fun ⟨r, e⟩ k b => ⟨⟨(r.kp k).up (BM.up b), e⟩, fun n z => (r.lt n z).2⟩
theorem PL.mon {m : Md} : Mon (PL m) := fun ⟨r, e⟩ k b => ⟨⟨(r.kp k).up (BM.up b), e⟩, fun n z => (r.lt n z).2⟩
theorem PE.mon {α : Type} : Mon (PE (α := α)) := fun ⟨r, e⟩ k b => ⟨⟨r, e⟩, fun n z => by rw [e] at z; exact absurd z List.not_mem_nil⟩
section
variable {α β γ α' β' γ' : Type} {κ : List Kd} {S T : List Nat} {e a : Mi α} {f : Di α'} {P : Rel α α'} {Q : Rel β β'}
/-! turning one relation to another -/
theorem Op.id_of {P Q : Rel α α'} (k : ∀ a b h (Bl : Nat → Prop) F, P a b h Bl F → (∀ n, Bl n → n < h.length) → F.Nodup → (∀ n ∈ F, ¬ Bl n) → ∃ F', Q a b h Bl F' ∧ Sb F' F) : Op P Q (fun a h => .ok a h) (fun b g => .ok b g) := by
  intro a b g h Bl F gr p nd nb lt
  obtain ⟨F', q, s⟩ := k a b h Bl F p lt nd nb
  exact ⟨a, h, rfl, Bl, F', .refl, gr, fun _ z => z, fun _ z => .inl z, s.nd nd, fun n z => nb n (s.sub n z), fun n z => .inl (s.sub n z), q⟩
theorem m1_id (e : Mi α) : m1 (fun a h => R.ok a h) e = e := by
  funext ρ h
  unfold m1
  cases e ρ h <;> rfl
theorem d1_id (e : Di α) : d1 (fun a g => Rd.ok a g) e = e := by
  funext ρ h
  unfold d1
  cases e ρ h <;> rfl
theorem PuX.conv {P Q : Rel α α'} (h : PuX κ S e f P) (o : Op P Q (fun a h => .ok a h) (fun b g => .ok b g)) : PuX κ S e f Q := by
  have := h.map o
  rwa [m1_id, d1_id] at this
theorem PuX.rd {e : Mi PV} {f : Di D} {m : Md} (h : PuX κ S e f (PR m)) : PuX κ S e f (PR .rd) := h.conv (Op.id_of fun a b h Bl F p _ _ _ => ⟨[], ⟨p.1.rd, fun _ => rfl⟩, .of (List.nil_sublist _)⟩)
theorem PuX.rds {e : Mi (List PV)} {f : Di (List D)} {m : Md} (h : PuX κ S e f (PL m)) : PuX κ S e f (PL .rd) := h.conv (Op.id_of fun a b h Bl F p _ _ _ => ⟨[], ⟨p.1.rd, fun _ => rfl⟩, .of (List.nil_sublist _)⟩)
theorem PuX.bo {e : Mi PV} {f : Di D} (h : PuX κ S e f (PR .fr)) : PuX κ S e f (PR .bo) := h.conv (Op.id_of fun a b h Bl F p _ _ _ => ⟨F, ⟨p.1.up fun _ z => z.elim, fun z => nomatch z⟩, .refl _⟩)
/-- what is told is lent -/
theorem PuX.lent {e : Mi PV} {f : Di D} {m : Md} (h : PuX κ [] e f (PR m)) (hm : m ≠ .rd := by decide) : PuX κ [] e f (fun v d h B F => Ow h B v d [] ∧ F = []) := by
  refine ⟨fun {Bz η g Pt Bl Fs ρ h0} s => ?_⟩
  have h1 := h.run s
  cases e1 : f η g with
  | no => trivial
  | ex c g' => rw [e1] at h1; exact h1
  | ok c g' =>
    rw [e1] at h1
    obtain ⟨v, h', e2, Bl', F, a⟩ := h1
    refine ⟨v, h', e2, fun n => Bl' n ∨ n ∈ F, [], a.kp, a.gr, fun n z => .inl (a.up n z), fun n z => ?_, List.nodup_nil, fun n z => absurd z List.not_mem_nil, fun n z => absurd z List.not_mem_nil, ?_, rfl⟩
    · rcases z with z | z
      · exact a.dn n z
      · rcases a.fr n z with ⟨i, hi, _⟩ | q
        · exact absurd hi List.not_mem_nil
        · exact .inr ⟨q, (a.val.1.lt n z).2⟩
    · refine a.val.1.lend (fun n z => ?_) fun n z => .inr z
      cases m with
      | rd => exact absurd rfl hm
      | bo => exact .inl z
      | fr => exact z.elim
theorem PuX.lentR {e : Mi PV} {f : Di D} {m : Md} (h : PuX κ [] e f (PR m)) (hm : m ≠ .rd := by decide) : PuX κ [] e f (PR .bo) := (h.lent hm).conv (Op.id_of fun a b h Bl F p _ _ _ => ⟨[], ⟨p.1, fun z => nomatch z⟩, .of (List.nil_sublist _)⟩)
/-! constants, slots -/
def mCx (v : PV) : Mi PV := mC v
def dC (d : D) : Di D := fun _ g => .ok d g
theorem pe_cst {v : PV} {d : D} (r : ∀ h, Ow h BF v d []) : PuX κ [] (mC v) (dC d) (PR .fr) := by
  refine ⟨fun {Bz η g Pt Bl Fs ρ h} s => ?_⟩
  exact ⟨v, h, rfl, Bl, [], .refl, s.gr, fun _ z => z, fun _ z => .inl z, List.nodup_nil, fun n z => absurd z List.not_mem_nil, fun n z => absurd z List.not_mem_nil, r h, fun _ => rfl⟩
theorem pe_int {i : Int} : PuX κ [] (mC (.int i)) (dC (.int i)) (PR .fr) := pe_cst fun _ => .int i
theorem pe_bl {i : Bool} : PuX κ [] (mC (.bl i)) (dC (.bl i)) (PR .fr) := pe_cst fun _ => .bl i
theorem pe_non : PuX κ [] (mC .non) (dC .non) (PR .fr) := pe_cst fun _ => .non
theorem pe_str {i : Str} : PuX κ [] (mC (.str i)) (dC (.str i)) (PR .fr) := pe_cst fun _ => .str i
theorem pe_ty {i : String} : PuX κ [] (mC (.ty i)) (dC (.ty i)) (PR .fr) := pe_cst fun _ => .ty i
def dVar (i : Nat) : Di D := fun η g => match η[i]? with
  | some (some d) => .ok d g
  | _ => .no
theorem Sls.get {h : HS} {Pt Bl : Nat → Prop} {κ : List Kd} {η : Dn} {Fs : List (List Nat)} {ρ : Pn} (s : Sls h Pt Bl κ η Fs ρ) : ∀ {i : Nat} {k : Kd} {d : D}, κ[i]? = some k → η[i]? = some (some d) → k ≠ .xx → ∃ v, ρ[i]? = some (some v) ∧ Sl h Pt Bl k (some d) (Fs.getD i []) (some v) := by
  induction s with
  | nil => intro i k d e; simp at e
  | cons s t ih =>
    intro i k d e1 e2 hk
    cases i with
    | zero =>
      simp at e1 e2
      subst e1 e2
      cases s with
      | xx => exact absurd rfl hk
      | im r => exact ⟨_, rfl, .im r⟩
      | tr r => exact ⟨_, rfl, .tr r⟩
      | sp r o => exact ⟨_, rfl, .sp r o⟩
      | lk r => exact ⟨_, rfl, .lk r⟩
      | rk r => exact ⟨_, rfl, .rk r⟩
    | succ i => exact ih (by simpa using e1) (by simpa using e2) hk
theorem pe_slot {i : Nat} {k : Kd} {m : Md} {S : List Nat} (hk : κ[i]? = some k) (hx : k ≠ .xx) (q : ∀ {h Pt Bl v d F}, Sl h Pt Bl k (some d) F (some v) → ∃ G, PR m v d h Bl G ∧ (G = [] ∨ G = F ∧ i ∈ S)) :
    PuX κ S (mVar i) (dVar i) (PR m) := by
  refine ⟨fun {Bz η g Pt Bl Fs ρ h} s => ?_⟩
  unfold dVar
  cases e2 : η[i]? with
  | none => trivial
  | some x =>
    cases x with
    | none => trivial
    | some d =>
      obtain ⟨v, e3, sl⟩ := s.sl.get hk e2 hx
      obtain ⟨G, p, hg⟩ := q sl
      refine ⟨v, h, by simp [mVar, e3], Bl, G, .refl, s.gr, fun _ z => z, fun _ z => .inl z, ?_, ?_, ?_, p⟩
      · rcases hg with rfl | ⟨rfl, _⟩
        · exact List.nodup_nil
        · rw [List.getD_eq_getElem?_getD]
          cases e4 : Fs[i]? with
          | none => exact List.nodup_nil
          | some X => exact (List.pairwise_flatten.mp s.nd).1 X (List.mem_of_getElem? e4)
      · rcases hg with rfl | ⟨rfl, _⟩
        · exact fun n z => absurd z List.not_mem_nil
        · intro n z b
          refine s.fl n ?_ (s.bl n b).1
          rw [List.getD_eq_getElem?_getD] at z
          cases e4 : Fs[i]? with
          | none => rw [e4] at z; exact absurd z List.not_mem_nil
          | some X => rw [e4] at z; exact List.mem_flatten.mpr ⟨X, List.mem_of_getElem? e4, z⟩
      · rcases hg with rfl | ⟨rfl, hi⟩
        · exact fun n z => absurd z List.not_mem_nil
        · exact fun n z => .inl ⟨i, hi, z⟩
theorem pe_var {i : Nat} (hk : κ[i]? = some .im := by rfl) : PuX κ [] (mVar i) (dVar i) (PR .bo) :=
  pe_slot hk (by decide) fun s => by
    cases s with
    | im r => exact ⟨[], ⟨r, fun z => nomatch z⟩, .inl rfl⟩
theorem pe_varR {i : Nat} {k : Kd} (hk : κ[i]? = some k := by rfl) (hx : k ≠ .xx := by decide) : PuX κ [] (mVar i) (dVar i) (PR .rd) :=
  pe_slot hk hx fun s => by
    refine ⟨[], ⟨?_, fun _ => rfl⟩, .inl rfl⟩
    cases s with
    | im r => exact r.rd
    | tr r => exact r.rd
    | sp r o => exact r.rd
    | lk r => exact r.rd
    | rk r => exact r.rd
    | xx => exact absurd rfl hx
theorem pe_take {i : Nat} (hk : κ[i]? = some .tr := by rfl) : PuX κ [i] (mVar i) (dVar i) (PR .fr) :=
  pe_slot hk (by decide) fun s => by
    cases s with
    | tr r => exact ⟨_, ⟨r, fun z => nomatch z⟩, .inr ⟨rfl, .head _⟩⟩
theorem pe_takeB {i : Nat} (hk : κ[i]? = some .sp := by rfl) : PuX κ [i] (mVar i) (dVar i) (PR .bo) :=
  pe_slot hk (by decide) fun s => by
    cases s with
    | sp r o => exact ⟨_, ⟨r, fun z => nomatch z⟩, .inr ⟨rfl, .head _⟩⟩
/-! operators -/
def dO (f : α' → Option β') (b : α') (g : G) : Rd β' := match f b with
  | some d => .ok d g
  | none => .no
/-- a step that changes nothing and tells part of what it is given -/
theorem op_same {m : Md} {k : α → HS → R PV} {f : α' → Option D} (hk : ∀ a b h (B : Nat → Prop) F d, P a b h B F → f b = some d → ∃ v G, k a h = .ok v h ∧ PR m v d h B G ∧ Sb G F) : Op P (PR m) k (dO f) := by
  intro a b g h Bl F gr p nd nb lt
  unfold dO
  cases e : f b with
  | none => trivial
  | some d =>
    obtain ⟨v, G, e1, q, s⟩ := hk a b h Bl F d p e
    exact ⟨v, h, e1, Bl, G, .refl, gr, fun _ z => z, fun _ z => .inl z, s.nd nd, fun n z => nb n (s.sub n z), fun n z => .inl (s.sub n z), q⟩
theorem op_flat {k : α → HS → R PV} {f : α' → Option D} (hk : ∀ a b h (B : Nat → Prop) F d, P a b h B F → f b = some d → ∃ v, k a h = .ok v h ∧ Ow h BF v d []) : Op P (PR .fr) k (dO f) :=
  op_same fun a b h B F d p e => by
    obtain ⟨v, e1, r⟩ := hk a b h B F d p e
    exact ⟨v, [], e1, ⟨r, fun _ => rfl⟩, .of (List.nil_sublist _)⟩
theorem op_bool {k : α → HS → R Bool} {f : α' → Option Bool} (hk : ∀ a b h (B : Nat → Prop) F d, P a b h B F → f b = some d → k a h = .ok d h) : Op P PE k (dO f) := by
  intro a b g h Bl F gr p nd nb lt
  unfold dO
  cases e : f b with
  | none => trivial
  | some d => exact ⟨d, h, hk a b h Bl F d p e, Bl, [], .refl, gr, fun _ z => z, fun _ z => .inl z, List.nodup_nil, fun n z => absurd z List.not_mem_nil, fun n z => absurd z List.not_mem_nil, rfl, rfl⟩
theorem owk_old {h g : HS} {B : Nat → Prop} {vs : List PV} {ds : List D} {F : List Nat} (r : Ows h B vs ds F) : Ows (h ++ g) B vs ds F := r.kp .app
/-- a list of its own, whatever it holds -/
def PN (m : Md) : Rel PV D := fun v d h B F => PR m v d h B F ∧ ∃ n G, v = .ref n ∧ F = n :: G
theorem PuX.pr {e : Mi PV} {f : Di D} {m : Md} (h : PuX κ S e f (PN m)) : PuX κ S e f (PR m) := h.conv (Op.id_of fun a b h Bl F p _ _ _ => ⟨F, p.1, .refl _⟩)
/-- a step that makes a new list -/
theorem op_newN {m : Md} {k : α → HS → R PV} {f : α' → Option (List D)} (hm : m ≠ .rd) (hk : ∀ a b h (B : Nat → Prop) F ds, P a b h B F → f b = some ds → ∃ vs G, k a h = .ok (.ref h.length) (h ++ [.lst vs]) ∧ Ows h (BM m B) vs ds G ∧ Sb G F) :
    Op P (PN m) k (dO fun b => (f b).map .lst) := by
  intro a b g h Bl F gr p nd nb lt
  unfold dO
  cases e : f b with
  | none => simp only [e, Option.map]
  | some ds =>
    simp only [e, Option.map]
    obtain ⟨vs, G, e1, q, s⟩ := hk a b h Bl F ds p e
    have two := gr.two
    refine ⟨_, _, e1, Bl, h.length :: G, .app, gr.app, fun _ z => z, fun _ z => .inl z, List.nodup_cons.mpr ⟨fun z => ?_, s.nd nd⟩, fun n z => ?_, fun n z => ?_, ⟨.own two (by simp) (owk_old q), fun z => absurd z hm⟩, _, _, rfl, rfl⟩
    · have := (q.lt _ z).2
      omega
    · rcases List.mem_cons.mp z with rfl | z
      · intro q
        have := lt _ q
        omega
      · exact nb n (s.sub n z)
    · rcases List.mem_cons.mp z with rfl | z
      · exact .inr (Nat.le_refl _)
      · exact .inl (s.sub n z)
theorem Op.pr {m : Md} {k : α → HS → R PV} {f : α' → G → Rd D} (o : Op P (PN m) k f) : Op P (PR m) k f := by
  intro a b g h Bl F gr p nd nb lt
  have h1 := o a b g h Bl F gr p nd nb lt
  cases e : f b g with
  | no => trivial
  | ex c g' => rw [e] at h1; exact h1
  | ok d g' =>
    rw [e] at h1
    obtain ⟨v, h', e1, Bl', F', a⟩ := h1
    exact ⟨v, h', e1, Bl', F', a.kp, a.gr, a.up, a.dn, a.nd, a.nb, a.fr, a.val.1⟩
theorem op_new {m : Md} {k : α → HS → R PV} {f : α' → Option (List D)} (hm : m ≠ .rd) (hk : ∀ a b h (B : Nat → Prop) F ds, P a b h B F → f b = some ds → ∃ vs G, k a h = .ok (.ref h.length) (h ++ [.lst vs]) ∧ Ows h (BM m B) vs ds G ∧ Sb G F) :
    Op P (PR m) k (dO fun b => (f b).map .lst) := (op_newN hm hk).pr
end
end Lt
namespace Lt
open PySem L2
/-! ### the operators on data -/
def d2 {α β γ : Type} (f : α → β → G → Rd γ) (a : Di α) (b : Di β) (η : Dn) (g : G) : Rd γ := (a η g).bind fun x g1 => (b η g1).bind fun y g2 => f x y g2
def d3 {α β γ δ : Type} (f : α → β → γ → G → Rd δ) (a : Di α) (b : Di β) (c : Di γ) (η : Dn) (g : G) : Rd δ := (a η g).bind fun x g1 => (b η g1).bind fun y g2 => (c η g2).bind fun z g3 => f x y z g3
section
variable {α β γ δ α' β' γ' δ' : Type} {κ : List Kd} {S T U : List Nat}
theorem PuX.map2 {a : Mi α} {fa : Di α'} {b : Mi β} {fb : Di β'} {P : Rel α α'} {Q : Rel β β'} {Rr : Rel γ γ'} {k : α → β → HS → R γ} {f : α' → β' → G → Rd γ'} (mp : Mon P) (o : Op (RPair P Q) Rr (fun p => k p.1 p.2) (fun p => f p.1 p.2)) (ha : PuX κ S a fa P) (hb : PuX κ T b fb Q) (dis : ∀ i ∈ S, i ∉ T := by decide) : PuX κ (S ++ T) (m2 k a b) (d2 f fa fb) Rr := by
  have e1 : m1 (fun p : α × β => k p.1 p.2) (mPair a b) = m2 k a b := by
    funext ρ h
    unfold m1 m2 mPair
    cases a ρ h with
    | ok x h1 =>
      simp only [R.bind_ok]
      cases b ρ h1 <;> rfl
    | ex _ _ => rfl
    | no => rfl
  have e2 : d1 (fun p : α' × β' => f p.1 p.2) (dPair fa fb) = d2 f fa fb := by
    funext ρ h
    unfold d1 d2 dPair
    cases fa ρ h with
    | ok x h1 =>
      simp only [Rd.bind]
      cases fb ρ h1 <;> rfl
    | ex _ _ => rfl
    | no => rfl
  have := (ha.pair mp hb dis).map o
  rwa [e1, e2] at this
theorem Mon.pair {P : Rel α α'} {Q : Rel β β'} (mp : Mon P) (mq : Mon Q) : Mon (RPair P Q) := fun {a b h h' B B' F} ⟨F1, F2, e, p, q⟩ k u => by
  obtain ⟨p1, p2⟩ := mp p k u
  obtain ⟨q1, q2⟩ := mq q k u
  exact ⟨⟨F1, F2, e, p1, q1⟩, fun n z => by rw [e] at z; exact (List.mem_append.mp z).elim (p2 n) (q2 n)⟩
theorem PuX.map3 {a : Mi α} {fa : Di α'} {b : Mi β} {fb : Di β'} {c : Mi γ} {fc : Di γ'} {P : Rel α α'} {Q : Rel β β'} {O : Rel γ γ'} {Rr : Rel δ δ'} {k : α → β → γ → HS → R δ} {f : α' → β' → γ' → G → Rd δ'} (mp : Mon P) (mq : Mon Q) (o : Op (RPair P (RPair Q O)) Rr (fun p => k p.1 p.2.1 p.2.2) (fun p => f p.1 p.2.1 p.2.2))
    (ha : PuX κ S a fa P) (hb : PuX κ T b fb Q) (hc : PuX κ U c fc O) (d1' : ∀ i ∈ S, i ∉ T ++ U := by decide) (d2' : ∀ i ∈ T, i ∉ U := by decide) : PuX κ (S ++ (T ++ U)) (m3 k a b c) (d3 f fa fb fc) Rr := by
  have e1 : m1 (fun p : α × β × γ => k p.1 p.2.1 p.2.2) (mPair a (mPair b c)) = m3 k a b c := by
    funext ρ h
    unfold m1 m3 mPair
    cases a ρ h with
    | ok x h1 =>
      simp only [R.bind_ok]
      cases b ρ h1 with
      | ok y h2 =>
        simp only [R.bind_ok]
        cases c ρ h2 <;> rfl
      | ex _ _ => rfl
      | no => rfl
    | ex _ _ => rfl
    | no => rfl
  have e2 : d1 (fun p : α' × β' × γ' => f p.1 p.2.1 p.2.2) (dPair fa (dPair fb fc)) = d3 f fa fb fc := by
    funext ρ h
    unfold d1 d3 dPair
    cases fa ρ h with
    | ok x h1 =>
      simp only [Rd.bind]
      cases fb ρ h1 with
      | ok y h2 =>
        simp only [Rd.bind]
        cases fc ρ h2 <;> rfl
      | ex _ _ => rfl
      | no => rfl
    | ex _ _ => rfl
    | no => rfl
  have := (ha.pair mp (hb.pair mq hc d2') d1').map o
  rwa [e1, e2] at this
end
theorem PL.nil_of {m : Md} {v : List PV} {h : HS} {B : Nat → Prop} {F : List Nat} (p : PL m v [] h B F) : v = [] ∧ F = [] := by
  obtain ⟨r, _⟩ := p
  cases r
  exact ⟨rfl, rfl⟩
/-! numbers -/
def arI (f : Int → Int → Option Int) : D → D → Option D
  | .int i, .int j => (f i j).map .int
  | _, _ => none
def cmI (f : Int → Int → Bool) : D → D → Option D
  | .int i, .int j => some (.bl (f i j))
  | _, _ => none
abbrev RR : Rel (PV × PV) (D × D) := RPair (PR .rd) (PR .rd)
theorem int_of {m : Md} {v : PV} {i : Int} {h : HS} {B : Nat → Prop} {F : List Nat} (p : PR m v (.int i) h B F) : v = .int i ∧ F = [] := by
  obtain ⟨r, _⟩ := p
  cases r
  exact ⟨rfl, rfl⟩
@[simp] def subD : D → D → G → Rd D := fun x y => dO (fun p : D × D => arI (fun i j => some (i - j)) p.1 p.2) (x, y)
theorem pp_sub : Op RR (PR .fr) (fun p => subV p.1 p.2) (fun p => subD p.1 p.2) := op_flat fun a b h B F d p e => by
  obtain ⟨F1, F2, _, p1, p2⟩ := p
  obtain ⟨x, y⟩ := b
  cases x <;> cases y <;> simp only [arI, Option.map] at e <;> try cases e
  rw [(int_of p1).1, (int_of p2).1]
  exact ⟨_, rfl, .int _⟩
@[simp] def ltD : D → D → G → Rd D := fun x y => dO (fun p : D × D => cmI (fun i j => decide (i < j)) p.1 p.2) (x, y)
@[simp] def leD : D → D → G → Rd D := fun x y => dO (fun p : D × D => cmI (fun i j => decide (i ≤ j)) p.1 p.2) (x, y)
@[simp] def gtD : D → D → G → Rd D := fun x y => dO (fun p : D × D => cmI (fun i j => decide (j < i)) p.1 p.2) (x, y)
@[simp] def geD : D → D → G → Rd D := fun x y => dO (fun p : D × D => cmI (fun i j => decide (j ≤ i)) p.1 p.2) (x, y)
theorem pp_cm (f : Int → Int → Bool) : Op RR (PR .fr) (fun p => cmpI f p.1 p.2) (fun p => dO (fun p : D × D => cmI f p.1 p.2) (p.1, p.2)) := op_flat fun a b h B F d p e => by
  obtain ⟨F1, F2, _, p1, p2⟩ := p
  obtain ⟨x, y⟩ := b
  cases x <;> cases y <;> simp only [cmI] at e <;> try cases e
  rw [(int_of p1).1, (int_of p2).1]
  exact ⟨_, rfl, .bl _⟩
theorem pp_lt : Op RR (PR .fr) (fun p => ltV p.1 p.2) (fun p => ltD p.1 p.2) := pp_cm _
theorem pp_le : Op RR (PR .fr) (fun p => leV p.1 p.2) (fun p => leD p.1 p.2) := pp_cm _
theorem pp_gt : Op RR (PR .fr) (fun p => gtV p.1 p.2) (fun p => gtD p.1 p.2) := pp_cm _
theorem pp_ge : Op RR (PR .fr) (fun p => geV p.1 p.2) (fun p => geD p.1 p.2) := pp_cm _
@[simp] def modD : D → D → G → Rd D := fun x y => dO (fun p : D × D => arI (fun i j => if 0 < j then some (i % j) else none) p.1 p.2) (x, y)
theorem pp_mod : Op RR (PR .fr) (fun p => modV p.1 p.2) (fun p => modD p.1 p.2) := op_flat fun a b h B F d p e => by
  obtain ⟨F1, F2, _, p1, p2⟩ := p
  obtain ⟨x, y⟩ := b
  cases x <;> cases y <;> simp only [arI] at e <;> try cases e
  split at e <;> cases e
  rw [(int_of p1).1, (int_of p2).1]
  exact ⟨_, by simp only [modV]; rw [if_pos (by assumption)], .int _⟩
@[simp] def fdivD : D → D → G → Rd D := fun x y => dO (fun p : D × D => arI (fun i j => if 0 < j ∧ j < 2 ^ 200 then some (i / j) else none) p.1 p.2) (x, y)
theorem pp_fdiv : Op RR (PR .fr) (fun p => fdivV p.1 p.2) (fun p => fdivD p.1 p.2) := op_flat fun a b h B F d p e => by
  obtain ⟨F1, F2, _, p1, p2⟩ := p
  obtain ⟨x, y⟩ := b
  cases x <;> cases y <;> simp only [arI] at e <;> try cases e
  split at e <;> cases e
  rw [(int_of p1).1, (int_of p2).1]
  exact ⟨_, by simp only [fdivV]; rw [if_pos (by assumption)], .int _⟩
@[simp] def powD : D → D → G → Rd D := fun x y => dO (fun p : D × D => arI (fun i j => if 0 ≤ j ∧ j ≤ 1000 ∧ i.natAbs < 2 ^ 250 then some (i ^ j.toNat) else none) p.1 p.2) (x, y)
theorem pp_pow : Op RR (PR .fr) (fun p => powV p.1 p.2) (fun p => powD p.1 p.2) := op_flat fun a b h B F d p e => by
  obtain ⟨F1, F2, _, p1, p2⟩ := p
  obtain ⟨x, y⟩ := b
  cases x <;> cases y <;> simp only [arI] at e <;> try cases e
  split at e <;> cases e
  rw [(int_of p1).1, (int_of p2).1]
  exact ⟨_, by simp only [powV]; rw [if_pos (by assumption)], .int _⟩
/-! lists and tuples of what is flat; sums of these -/
theorem seq_ref {h : HS} {B : Nat → Prop} {v : PV} {ds : List D} {F : List Nat} (r : Ow h B v (.lst ds) F) : ∃ n vs G, v = .ref n ∧ h[n]? = some (.lst vs) ∧ Ows h B vs ds G ∧ G.Sublist F := by
  cases r with
  | bor h2 g r b => exact ⟨_, _, _, rfl, g, r, List.Sublist.refl _⟩
  | own h2 g r => exact ⟨_, _, _, rfl, g, r, List.sublist_cons_self _ _⟩
theorem D.flats_app : ∀ {xs ys : List D}, D.flats (xs ++ ys) = (D.flats xs && D.flats ys)
  | [], ys => rfl
  | x :: xs, ys => by
    show (x.flat && D.flats (xs ++ ys)) = ((x.flat && D.flats xs) && D.flats ys)
    rw [D.flats_app, Bool.and_assoc]
theorem Ows.rd_flat {h : HS} {B : Nat → Prop} {vs : List PV} {ds : List D} {F : List Nat} (r : Ows h B vs ds F) (e : D.flats ds = true) : Ows h BF vs ds [] := r.flat h BF e
/-- what a step that may make a list does, by modes -/
theorem op_mk {α α' : Type} {P : Rel α α'} {m : Md} {k : α → HS → R PV} {f : α' → Option D} (hk : ∀ a b h (B : Nat → Prop) F d, P a b h B F → f b = some d → (∃ v G, k a h = .ok v h ∧ PR m v d h B G ∧ Sb G F) ∨ (m ≠ .rd ∧ ∃ vs ds G, d = .lst ds ∧ k a h = .ok (.ref h.length) (h ++ [.lst vs]) ∧ Ows h (BM m B) vs ds G ∧ Sb G F)) : Op P (PR m) k (dO f) := by
  intro a b g h Bl F gr p nd nb lt
  unfold dO
  cases e : f b with
  | none => trivial
  | some d =>
    rcases hk a b h Bl F d p e with ⟨v, G, e1, q, s⟩ | ⟨hm, vs, ds, G, rfl, e1, q, s⟩
    · exact ⟨v, h, e1, Bl, G, .refl, gr, fun _ z => z, fun _ z => .inl z, s.nd nd, fun n z => nb n (s.sub n z), fun n z => .inl (s.sub n z), q⟩
    · have two := gr.two
      refine ⟨_, _, e1, Bl, h.length :: G, .app, gr.app, fun _ z => z, fun _ z => .inl z, List.nodup_cons.mpr ⟨fun z => ?_, s.nd nd⟩, fun n z => ?_, fun n z => ?_, .own two (by simp) (owk_old q), fun z => absurd z hm⟩
      · have := (q.lt _ z).2
        omega
      · rcases List.mem_cons.mp z with rfl | z
        · intro q
          have := lt _ q
          omega
        · exact nb n (s.sub n z)
      · rcases List.mem_cons.mp z with rfl | z
        · exact .inr (Nat.le_refl _)
        · exact .inl (s.sub n z)
def addT : D → D → Option D
  | .int i, .int j => some (.int (i + j))
  | .str a, .str b => if a.length + b.length ≤ 16777216 then some (.str (a ++ b)) else none
  | .tup xs, .tup ys => if xs.length + ys.length ≤ 16777216 then some (.tup (xs ++ ys)) else none
  | .lst xs, .lst ys => if xs.length + ys.length ≤ 16777216 then some (.lst (xs ++ ys)) else none
  | _, _ => none
@[simp] def addD : D → D → G → Rd D := fun x y => dO (fun p : D × D => addT p.1 p.2) (x, y)
/-- flat, or a list of what is flat -/
@[simp] def D.flat1 : D → Bool
  | .lst xs => D.flats xs
  | d => d.flat
@[simp] def chk1 (d : Option D) : Option D := match d with
  | some d => if d.flat1 = true then some d else none
  | none => none
@[simp] def addC : D → D → G → Rd D := fun x y => dO (fun p : D × D => chk1 (addT p.1 p.2)) (x, y)
theorem addV_ok {m1 m2 : Md} {v w : PV} {x y d : D} {h : HS} {B : Nat → Prop} {F G : List Nat} (p : PR m1 v x h B F) (q : PR m2 w y h B G) (e : addT x y = some d) :
    (d.flat = true ∧ ∃ i, d = .int i ∧ addV v w h = .ok (.int i) h) ∨ (d.flat = true ∧ ∃ i, d = .str i ∧ addV v w h = .ok (.str i) h) ∨
    (∃ vs ds F1 ws es G1, d = .tup (ds ++ es) ∧ addV v w h = .ok (.tup (vs ++ ws)) h ∧ Ows h (BM m1 B) vs ds F1 ∧ Ows h (BM m2 B) ws es G1 ∧ F1.Sublist F ∧ G1.Sublist G) ∨
    (∃ vs ds F1 ws es G1, d = .lst (ds ++ es) ∧ addV v w h = .ok (.ref h.length) (h ++ [.lst (vs ++ ws)]) ∧ Ows h (BM m1 B) vs ds F1 ∧ Ows h (BM m2 B) ws es G1 ∧ F1.Sublist F ∧ G1.Sublist G) := by
  obtain ⟨r, _⟩ := p
  obtain ⟨r', _⟩ := q
  cases x <;> cases y <;> simp only [addT] at e <;> try cases e
  · cases r; cases r'
    exact .inl ⟨rfl, _, rfl, rfl⟩
  · split at e <;> cases e
    cases r; cases r'
    exact .inr (.inl ⟨rfl, _, rfl, by simp only [addV]; rw [if_pos (by assumption)]⟩)
  · split at e <;> cases e
    cases r with
    | tup r =>
      cases r' with
      | tup r' =>
        refine .inr (.inr (.inl ⟨_, _, _, _, _, _, rfl, ?_, r, r', List.Sublist.refl _, List.Sublist.refl _⟩))
        simp only [addV]
        rw [r.length, r'.length, if_pos (by assumption)]
  · split at e <;> cases e
    obtain ⟨n, vs, F1, rfl, g1, r1, s1⟩ := seq_ref r
    obtain ⟨k, ws, G1, rfl, g2, r2, s2⟩ := seq_ref r'
    refine .inr (.inr (.inr ⟨_, _, _, _, _, _, rfl, ?_, r1, r2, s1, s2⟩))
    simp only [addV, g1, g2]
    rw [r1.length, r2.length, if_pos (by assumption)]
theorem pp_add {m : Md} (hm : m ≠ .rd := by decide) : Op (RPair (PR m) (PR m)) (PR m) (fun p => addV p.1 p.2) (fun p => addD p.1 p.2) := op_mk fun a b h B F d p e => by
  obtain ⟨F1, F2, rfl, p1, p2⟩ := p
  rcases addV_ok p1 p2 e with ⟨_, i, rfl, ev⟩ | ⟨_, i, rfl, ev⟩ | ⟨vs, ds, G1, ws, es, G2, rfl, ev, r1, r2, s1, s2⟩ | ⟨vs, ds, G1, ws, es, G2, rfl, ev, r1, r2, s1, s2⟩
  · exact .inl ⟨_, [], ev, ⟨.int _, fun _ => rfl⟩, .of (List.nil_sublist _)⟩
  · exact .inl ⟨_, [], ev, ⟨.str _, fun _ => rfl⟩, .of (List.nil_sublist _)⟩
  · exact .inl ⟨_, _, ev, ⟨.tup (r1.app r2), fun z => absurd z hm⟩, .of (s1.append s2)⟩
  · exact .inr ⟨hm, _, _, _, rfl, ev, r1.app r2, .of (s1.append s2)⟩
theorem pp_addC : Op RR (PR .fr) (fun p => addV p.1 p.2) (fun p => addC p.1 p.2) := op_mk fun a b h B F d p e => by
  obtain ⟨F1, F2, rfl, p1, p2⟩ := p
  unfold chk1 at e
  split at e
  · rename_i d' e1
    split at e
    · rename_i hf
      cases e
      rcases addV_ok p1 p2 e1 with ⟨_, i, rfl, ev⟩ | ⟨_, i, rfl, ev⟩ | ⟨vs, ds, G1, ws, es, G2, rfl, ev, r1, r2, s1, s2⟩ | ⟨vs, ds, G1, ws, es, G2, rfl, ev, r1, r2, s1, s2⟩
      · exact .inl ⟨_, [], ev, ⟨.int _, fun _ => rfl⟩, .of (List.nil_sublist _)⟩
      · exact .inl ⟨_, [], ev, ⟨.str _, fun _ => rfl⟩, .of (List.nil_sublist _)⟩
      · exact .inl ⟨_, [], ev, ⟨.tup ((r1.app r2).rd_flat hf), fun _ => rfl⟩, .of (List.nil_sublist _)⟩
      · exact .inr ⟨by decide, _, _, [], rfl, ev, (r1.app r2).rd_flat hf, .of (List.nil_sublist _)⟩
    · cases e
  · cases e
/-! products: numbers, lists of what is flat -/
def mulT : D → D → Option D
  | .int i, .int j => if small i ∧ small j then some (.int (i * j)) else none
  | .lst xs, .int k => if 0 ≤ k ∧ k ≤ 16777216 ∧ xs.length * k.toNat ≤ 16777216 ∧ D.flats xs = true then some (.lst (List.replicate k.toNat xs).flatten) else none
  | _, _ => none
@[simp] def mulD : D → D → G → Rd D := fun x y => dO (fun p : D × D => mulT p.1 p.2) (x, y)
theorem Ows.rep {h : HS} {B : Nat → Prop} {vs : List PV} {ds : List D} (r : Ows h B vs ds []) : ∀ n, Ows h B (List.replicate n vs).flatten (List.replicate n ds).flatten []
  | 0 => .nil
  | n + 1 => by
    rw [List.replicate_succ, List.replicate_succ, List.flatten_cons, List.flatten_cons]
    exact r.app (G := []) (Ows.rep r n)
theorem pp_mul : Op RR (PR .fr) (fun p => mulV p.1 p.2) (fun p => mulD p.1 p.2) := op_mk fun a b h B F d p e => by
  obtain ⟨F1, F2, _, p1, p2⟩ := p
  obtain ⟨x, y⟩ := b
  obtain ⟨v, w⟩ := a
  cases x <;> cases y <;> simp only [mulT] at e <;> try cases e
  · split at e <;> cases e
    have e1 := (int_of p1).1
    have e2 := (int_of p2).1
    dsimp only at e1 e2
    subst e1 e2
    exact .inl ⟨_, [], by simp only [mulV]; rw [if_pos (by assumption)], ⟨.int _, fun _ => rfl⟩, .of (List.nil_sublist _)⟩
  · split at e <;> cases e
    rename_i hc
    have e2 := (int_of p2).1
    dsimp only at e2
    subst e2
    obtain ⟨n, vs, G1, e3, g1, r1, s1⟩ := seq_ref p1.1
    dsimp only at e3
    subst e3
    refine .inr ⟨by decide, _, _, [], rfl, ?_, (r1.rd_flat hc.2.2.2).rep _, .of (List.nil_sublist _)⟩
    simp only [mulV, g1]
    rw [r1.length, if_pos ⟨hc.1, hc.2.1, hc.2.2.1⟩]
end Lt
namespace Lt
open PySem L2
/-! ### likeness -/
def pyL (f : D → Option PyData) : List D → Option (List PyData)
  | [] => some []
  | x :: xs => match f x, pyL f xs with
    | some d, some ds => some (d :: ds)
    | _, _ => none
def pyD : Nat → D → Option PyData
  | _, .non => some .none
  | _, .bl b => some (.bool b)
  | _, .int i => some (.int i)
  | _, .str x => some (.str x)
  | n + 1, .tup xs => (pyL (pyD n) xs).map .tuple
  | n + 1, .lst xs => (pyL (pyD n) xs).map .list
  | _, _ => none
theorem dat_py {h : HS} {B : Nat → Prop} : ∀ (n : Nat) {v : PV} {d : D} {F : List Nat} {p : PyData}, Ow h B v d F → pyD n d = some p → dat n h v = some p := by
  intro n
  induction n with
  | zero =>
    intro v d F p r e
    cases r <;> simp only [pyD] at e <;> first | (cases e; rfl) | cases e
  | succ n ih =>
    have all : ∀ {vs : List PV} {ds : List D} {F : List Nat} {ps : List PyData}, Ows h B vs ds F → pyL (pyD n) ds = some ps → datL (dat n h) vs = some ps := by
      intro vs
      induction vs with
      | nil =>
        intro ds F ps r e
        cases r
        cases e
        rfl
      | cons v vs ih2 =>
        intro ds F ps r e
        cases r with
        | cons r t =>
          unfold pyL at e
          split at e
          · rename_i d' ds' e1 e2
            cases e
            unfold datL
            rw [ih r e1, ih2 t e2]
          · cases e
    intro v d F p r e
    cases r with
    | non => cases e; rfl
    | bl b => cases e; rfl
    | int i => cases e; rfl
    | str x => cases e; rfl
    | ty x => cases e
    | stt => cases e
    | tup r =>
      simp only [pyD, Option.map_eq_some_iff] at e
      obtain ⟨ps, e1, rfl⟩ := e
      unfold dat
      rw [all r e1]
      rfl
    | bor h2 g r b =>
      simp only [pyD, Option.map_eq_some_iff] at e
      obtain ⟨ps, e1, rfl⟩ := e
      unfold dat
      rw [g]
      dsimp only
      rw [all r e1]
      rfl
    | own h2 g r =>
      simp only [pyD, Option.map_eq_some_iff] at e
      obtain ⟨ps, e1, rfl⟩ := e
      unfold dat
      rw [g]
      dsimp only
      rw [all r e1]
      rfl
    | borD => cases e
    | ownD => cases e
def eqT (x y : D) : Option Bool := match pyD 8 x, pyD 8 y with
  | some d, some e => if SeqAt.shaped d = true ∧ SeqAt.shaped e = true then some (PyData.eqv d e) else none
  | _, _ => none
@[simp] def eqD : D → D → G → Rd D := fun x y => dO (fun p : D × D => (eqT p.1 p.2).map .bl) (x, y)
@[simp] def neD : D → D → G → Rd D := fun x y => dO (fun p : D × D => (eqT p.1 p.2).map fun b => .bl (!b)) (x, y)
theorem eqB_py {m1 m2 : Md} {v w : PV} {x y : D} {h : HS} {B : Nat → Prop} {F G : List Nat} {b : Bool} (p : PR m1 v x h B F) (q : PR m2 w y h B G) (e : eqT x y = some b) : eqB v w h = some b := by
  unfold eqT at e
  split at e
  · rename_i d e' e1 e2
    unfold eqB
    rw [dat_py 8 p.1 e1, dat_py 8 q.1 e2]
    exact e
  · cases e
theorem pp_eq : Op RR (PR .fr) (fun p => eqV p.1 p.2) (fun p => eqD p.1 p.2) := op_flat fun a b h B F d p e => by
  obtain ⟨F1, F2, _, p1, p2⟩ := p
  simp only [Option.map_eq_some_iff] at e
  obtain ⟨c, e1, rfl⟩ := e
  exact ⟨.bl c, by unfold eqV; rw [eqB_py p1 p2 e1], .bl _⟩
theorem pp_ne : Op RR (PR .fr) (fun p => neV p.1 p.2) (fun p => neD p.1 p.2) := op_flat fun a b h B F d p e => by
  obtain ⟨F1, F2, _, p1, p2⟩ := p
  simp only [Option.map_eq_some_iff] at e
  obtain ⟨c, e1, rfl⟩ := e
  exact ⟨.bl (!c), by unfold neV; rw [eqB_py p1 p2 e1], .bl _⟩
def D.isNon : D → Bool
  | .non => true
  | _ => false
def isT0 : D → D → Option D
  | x, .non => some (.bl x.isNon)
  | .bl a, .bl b => some (.bl (decide (a = b)))
  | _, _ => none
@[simp] def isD : D → D → G → Rd D := fun x y => dO (fun p : D × D => isT0 p.1 p.2) (x, y)
def isnotT : D → D → Option D
  | x, .non => some (.bl (!x.isNon))
  | .bl a, .bl b => some (.bl (!decide (a = b)))
  | _, _ => none
@[simp] def isnotD : D → D → G → Rd D := fun x y => dO (fun p : D × D => isnotT p.1 p.2) (x, y)
theorem isNon_of {h : HS} {B : Nat → Prop} {v : PV} {d : D} {F : List Nat} (r : Ow h B v d F) : isNon v = d.isNon := by
  cases r <;> rfl
theorem pp_is : Op RR (PR .fr) (fun p => isV p.1 p.2) (fun p => isD p.1 p.2) := op_flat fun a b h B F d p e => by
  obtain ⟨F1, F2, _, p1, p2⟩ := p
  obtain ⟨x, y⟩ := b
  obtain ⟨v, w⟩ := a
  obtain ⟨r1, _⟩ := p1
  obtain ⟨r2, _⟩ := p2
  dsimp only at r1 r2
  cases y with
  | non =>
    cases r2
    have e' : isT0 x .non = some d := e
    have : isT0 x .non = some (.bl (x.isNon)) := by cases x <;> rfl
    rw [this] at e'
    cases e'
    exact ⟨.bl (isNon v), by cases v <;> rfl, by rw [isNon_of r1]; exact .bl _⟩
  | bl c =>
    cases r2
    cases x <;> simp only [isT0] at e <;> cases e
    cases r1
    exact ⟨_, rfl, .bl _⟩
  | _ => cases x <;> simp only [isT0] at e <;> cases e
theorem pp_isnot : Op RR (PR .fr) (fun p => isnotV p.1 p.2) (fun p => isnotD p.1 p.2) := op_flat fun a b h B F d p e => by
  obtain ⟨F1, F2, _, p1, p2⟩ := p
  obtain ⟨x, y⟩ := b
  obtain ⟨v, w⟩ := a
  obtain ⟨r1, _⟩ := p1
  obtain ⟨r2, _⟩ := p2
  dsimp only at r1 r2
  cases y with
  | non =>
    cases r2
    have e' : isnotT x .non = some d := e
    have : isnotT x .non = some (.bl (!x.isNon)) := by cases x <;> rfl
    rw [this] at e'
    cases e'
    exact ⟨.bl (!isNon v), by cases v <;> rfl, by rw [isNon_of r1]; exact .bl _⟩
  | bl c =>
    cases r2
    cases x <;> simp only [isnotT] at e <;> cases e
    cases r1
    exact ⟨_, rfl, .bl _⟩
  | _ => cases x <;> simp only [isnotT] at e <;> cases e
/-! ### subscripts -/
def valD (kvs : List (Key × D)) (k : Key) : Option D := (kvs.find? fun kv => decide (kv.1 = k)).map (·.2)
def keyD : D → Option Key
  | .int i => some (.inl i)
  | .str x => some (.inr x)
  | _ => none
def getT : D → D → Option D
  | .tup xs, .int i => atI xs i
  | .lst xs, .int i => atI xs i
  | .dic kvs, k => (keyD k).bind (valD kvs)
  | .str z, .int i => if z.length ≤ 16777216 then (atI z.cps.toList i).map fun c => .str ⟨#[c]⟩ else none
  | _, _ => none
@[simp] def getD' : D → D → G → Rd D := fun x y => dO (fun p : D × D => getT p.1 p.2) (x, y)
/-- only what is flat -/
@[simp] def chk (d : Option D) : Option D := match d with
  | some d => if d.flat = true then some d else none
  | none => none
@[simp] def getC : D → D → G → Rd D := fun x y => dO (fun p : D × D => chk (getT p.1 p.2)) (x, y)
theorem Ows.at {h : HS} {B : Nat → Prop} {vs : List PV} {ds : List D} {F : List Nat} {i : Int} {d : D} (r : Ows h B vs ds F) (e : atI ds i = some d) : ∃ v G, atI vs i = some v ∧ Ow h B v d G ∧ G.Sublist F := by
  unfold atI at e ⊢
  rw [r.length]
  cases e1 : ixN ds.length i with
  | none => rw [e1] at e; cases e
  | some j =>
    rw [e1] at e
    exact r.getD e
theorem OwK.val {h : HS} {B : Nat → Prop} {vs : List (Key × PV)} {ds : List (Key × D)} {F : List Nat} {k : Key} {d : D} (r : OwK h B vs ds F) (e : valD ds k = some d) : ∃ v G, valP vs k = some v ∧ Ow h B v d G ∧ G.Sublist F := by
  revert r e
  induction vs generalizing ds F with
  | nil => intro r e; cases r; cases e
  | cons kv vs ih =>
    intro r e
    cases r with
    | @cons k' v d' _ ds F1 F2 r t =>
      by_cases hk : k' = k
      · subst hk
        simp only [valD, List.find?_cons, decide_true, Option.map] at e
        cases e
        exact ⟨v, F1, by simp [valP, List.find?_cons], r, List.sublist_append_left _ _⟩
      · have e2 : valD ds k = some d := by simpa [valD, List.find?_cons, hk] using e
        obtain ⟨v', G, h1, h2, h3⟩ := ih t e2
        exact ⟨v', G, by simpa [valP, List.find?_cons, hk] using h1, h2, h3.trans (List.sublist_append_right _ _)⟩
theorem key_of {m : Md} {v : PV} {d : D} {k : Key} {h : HS} {B : Nat → Prop} {F : List Nat} (p : PR m v d h B F) (e : keyD d = some k) : keyOf v = some k := by
  obtain ⟨r, _⟩ := p
  cases r <;> simp only [keyD] at e <;> cases e <;> rfl
theorem getV_ok {m1 m2 : Md} {v w : PV} {x y d : D} {h : HS} {B : Nat → Prop} {F G : List Nat} (p : PR m1 v x h B F) (q : PR m2 w y h B G) (e : getT x y = some d) : ∃ u F', getV v w h = .ok u h ∧ Ow h (BM m1 B) u d F' ∧ F'.Sublist F := by
  obtain ⟨r, _⟩ := p
  cases x <;> simp only [getT] at e <;> try cases e
  · cases y <;> simp only [] at e <;> try cases e
    have e2 := (int_of q).1
    subst e2
    split at e
    · rename_i hz
      simp only [Option.map_eq_some_iff] at e
      obtain ⟨c, e3, rfl⟩ := e
      cases r
      refine ⟨.str ⟨#[c]⟩, [], ?_, .str _, List.nil_sublist _⟩
      rw [getV_str, if_pos hz, e3]
    · cases e
  · cases y <;> simp only [] at e <;> try cases e
    have e2 := (int_of q).1
    subst e2
    cases r with
    | tup r =>
      obtain ⟨u, F', e3, r3, s3⟩ := r.at e
      exact ⟨u, F', by rw [getV_tup, e3], r3, s3⟩
  · cases y <;> simp only [] at e <;> try cases e
    have e2 := (int_of q).1
    subst e2
    obtain ⟨n, vs, F1, rfl, g1, r1, s1⟩ := seq_ref r
    obtain ⟨u, F', e3, r3, s3⟩ := r1.at e
    exact ⟨u, F', by rw [getV_seq (xs := vs) _ (by simp [g1]), e3], r3, s3.trans s1⟩
  · cases hk : keyD y with
    | none => rw [hk] at e; cases e
    | some k =>
      rw [hk] at e
      have e4 := key_of q hk
      cases r with
      | borD h2 g r b =>
        obtain ⟨u, F', e3, r3, s3⟩ := r.val e
        exact ⟨u, F', by simp only [getV_ref, seqOf_ref, g, dicOf]; rw [e4]; simp only [e3], r3, s3⟩
      | ownD h2 g r =>
        obtain ⟨u, F', e3, r3, s3⟩ := r.val e
        exact ⟨u, F', by simp only [getV_ref, seqOf_ref, g, dicOf]; rw [e4]; simp only [e3], r3, s3.trans (List.sublist_cons_self _ _)⟩
theorem pp_get {m : Md} : Op (RPair (PR m) (PR .rd)) (PR m) (fun p => getV p.1 p.2) (fun p => getD' p.1 p.2) := op_same fun a b h B F d p e => by
  obtain ⟨F1, F2, rfl, p1, p2⟩ := p
  obtain ⟨u, F', e1, r, s⟩ := getV_ok p1 p2 e
  exact ⟨u, F', e1, ⟨r, fun hm => by rw [p1.2 hm] at s; exact List.sublist_nil.mp s⟩, .of (s.trans (List.sublist_append_left _ _))⟩
theorem chk_some {o : Option D} {d : D} (e : chk o = some d) : o = some d ∧ d.flat = true := by
  unfold chk at e
  split at e
  · split at e
    · cases e
      exact ⟨rfl, by assumption⟩
    · cases e
  · cases e
theorem pp_getC : Op RR (PR .fr) (fun p => getV p.1 p.2) (fun p => getC p.1 p.2) := op_flat fun a b h B F d p e => by
  obtain ⟨F1, F2, rfl, p1, p2⟩ := p
  obtain ⟨e1, hf⟩ := chk_some e
  obtain ⟨u, F', e2, r, s⟩ := getV_ok p1 p2 e1
  exact ⟨u, e2, r.flat _ _ hf⟩
/-! ### slices -/
def cutD (xs : List D) (lo hi : Option Int) : List D := (xs.drop (HT.sIx xs.length 0 lo)).take (HT.sIx xs.length xs.length hi - HT.sIx xs.length 0 lo)
def sliceT : D → Option Int → Option Int → Option D
  | .tup xs, lo, hi => some (.tup (cutD xs lo hi))
  | .lst xs, lo, hi => some (.lst (cutD xs lo hi))
  | .str z, lo, hi => if z.length ≤ 16777216 then some (.str (cutS z lo hi)) else none
  | _, _, _ => none
@[simp] def sliceD : D → Option Int → Option Int → G → Rd D := fun x lo hi => dO (fun p : D × Option Int × Option Int => sliceT p.1 p.2.1 p.2.2) (x, lo, hi)
@[simp] def sliceC : D → Option Int → Option Int → G → Rd D := fun x lo hi => dO (fun p : D × Option Int × Option Int => chk1 (sliceT p.1 p.2.1 p.2.2)) (x, lo, hi)
theorem Ows.cut {h : HS} {B : Nat → Prop} {vs : List PV} {ds : List D} {F : List Nat} (r : Ows h B vs ds F) (lo hi : Option Int) : ∃ G, Ows h B (cutP vs lo hi) (cutD ds lo hi) G ∧ G.Sublist F := by
  unfold cutP cutD
  rw [r.length]
  obtain ⟨G, r1, s1⟩ := r.drop (HT.sIx ds.length 0 lo)
  obtain ⟨G2, r2, s2⟩ := r1.take (HT.sIx ds.length ds.length hi - HT.sIx ds.length 0 lo)
  exact ⟨G2, r2, s2.trans s1⟩
theorem sliceV_ok {m : Md} {v : PV} {x d : D} {lo hi : Option Int} {h : HS} {B : Nat → Prop} {F : List Nat} (p : PR m v x h B F) (e : sliceT x lo hi = some d) :
    (∃ i, d = .str i ∧ sliceV v lo hi h = .ok (.str i) h) ∨
    (∃ vs ds G, d = .tup ds ∧ sliceV v lo hi h = .ok (.tup vs) h ∧ Ows h (BM m B) vs ds G ∧ G.Sublist F) ∨
    (∃ vs ds G, d = .lst ds ∧ sliceV v lo hi h = .ok (.ref h.length) (h ++ [.lst vs]) ∧ Ows h (BM m B) vs ds G ∧ G.Sublist F) := by
  obtain ⟨r, _⟩ := p
  cases x <;> simp only [sliceT] at e <;> try cases e
  · split at e <;> cases e
    cases r
    exact .inl ⟨_, rfl, by simp only [sliceV]; rw [if_pos (by assumption)]⟩
  · cases r with
    | tup r =>
      obtain ⟨G, r1, s1⟩ := r.cut lo hi
      exact .inr (.inl ⟨_, _, G, rfl, rfl, r1, s1⟩)
  · obtain ⟨n, vs, F1, rfl, g1, r1, s1⟩ := seq_ref r
    obtain ⟨G, r2, s2⟩ := r1.cut lo hi
    exact .inr (.inr ⟨_, _, G, rfl, by simp only [sliceV, seqOf_ref, g1], r2, s2.trans s1⟩)
abbrev RO3 (m : Md) : Rel (PV × Option Int × Option Int) (D × Option Int × Option Int) := RPair (PR m) (RPair PE PE)
theorem pp_slice {m : Md} (hm : m ≠ .rd := by decide) : Op (RO3 m) (PR m) (fun p => sliceV p.1 p.2.1 p.2.2) (fun p => sliceD p.1 p.2.1 p.2.2) := op_mk fun a b h B F d p e => by
  obtain ⟨F1, F2, rfl, p1, F3, F4, rfl, ⟨q1, rfl⟩, ⟨q2, rfl⟩⟩ := p
  rw [q1, q2]
  rcases sliceV_ok p1 e with ⟨i, rfl, ev⟩ | ⟨vs, ds, G, rfl, ev, r, s⟩ | ⟨vs, ds, G, rfl, ev, r, s⟩
  · exact .inl ⟨_, [], ev, ⟨.str _, fun _ => rfl⟩, .of (List.nil_sublist _)⟩
  · exact .inl ⟨_, _, ev, ⟨.tup r, fun z => absurd z hm⟩, .of (s.trans (List.sublist_append_left _ _))⟩
  · exact .inr ⟨hm, _, _, _, rfl, ev, r, .of (s.trans (List.sublist_append_left _ _))⟩
theorem chk1_some {o : Option D} {d : D} (e : chk1 o = some d) : o = some d ∧ d.flat1 = true := by
  unfold chk1 at e
  split at e
  · split at e
    · cases e
      exact ⟨rfl, by assumption⟩
    · cases e
  · cases e
theorem pp_sliceC : Op (RO3 .rd) (PR .fr) (fun p => sliceV p.1 p.2.1 p.2.2) (fun p => sliceC p.1 p.2.1 p.2.2) := op_mk fun a b h B F d p e => by
  obtain ⟨F1, F2, rfl, p1, F3, F4, rfl, ⟨q1, rfl⟩, ⟨q2, rfl⟩⟩ := p
  obtain ⟨e1, hf⟩ := chk1_some e
  rw [q1, q2]
  rcases sliceV_ok p1 e1 with ⟨i, rfl, ev⟩ | ⟨vs, ds, G, rfl, ev, r, s⟩ | ⟨vs, ds, G, rfl, ev, r, s⟩
  · exact .inl ⟨_, [], ev, ⟨.str _, fun _ => rfl⟩, .of (List.nil_sublist _)⟩
  · exact .inl ⟨_, [], ev, ⟨.tup (r.rd_flat hf), fun _ => rfl⟩, .of (List.nil_sublist _)⟩
  · exact .inr ⟨by decide, _, _, [], rfl, ev, r.rd_flat hf, .of (List.nil_sublist _)⟩
def asID : D → Option (Option Int)
  | .int i => some (some i)
  | _ => none
theorem pp_asI : Op (PR .rd) PE asI (dO asID) := by
  intro a b g h Bl F gr p nd nb lt
  unfold dO
  cases b <;> simp only [asID]
  obtain ⟨rfl, rfl⟩ := int_of p
  exact ⟨_, h, rfl, Bl, [], .refl, gr, fun _ z => z, fun _ z => .inl z, List.nodup_nil, fun n z => absurd z List.not_mem_nil, fun n z => absurd z List.not_mem_nil, rfl, rfl⟩
/-! ### len, list, tuple, all .. -/
def lenT : D → Option D
  | .tup xs => some (.int xs.length)
  | .lst xs => some (.int xs.length)
  | .str z => if z.length ≤ 16777216 then some (.int z.length) else none
  | _ => none
theorem pp_len : Op (PR .rd) (PR .fr) lenV (dO lenT) := op_flat fun a b h B F d p e => by
  obtain ⟨r, _⟩ := p
  cases b <;> simp only [lenT] at e <;> try cases e
  · split at e <;> cases e
    cases r
    exact ⟨_, by simp only [lenV, seqOf_str]; rw [if_pos (by assumption)], .int _⟩
  · cases r with
    | tup r => exact ⟨_, by simp only [lenV, seqOf_tup]; rfl, by rw [r.length]; exact .int _⟩
  · obtain ⟨n, vs, F1, rfl, g1, r1, s1⟩ := seq_ref r
    exact ⟨_, by simp only [lenV, seqOf_ref, g1]; rfl, by rw [r1.length]; exact .int _⟩
def listT (d : D) : Option (List D) := d.seq
def listC (d : D) : Option (List D) := match d.seq with
  | some ds => if D.flats ds = true then some ds else none
  | none => none
theorem pp_list {m : Md} (hm : m ≠ .rd := by decide) : Op (PR m) (PR m) listV (dO fun b => (listT b).map .lst) := op_new hm fun a b h B F ds p e => by
  obtain ⟨vs, G, e1, r, s⟩ := p.1.seq e
  exact ⟨vs, G, by simp only [listV, e1], r, .of s⟩
theorem pp_listN {m : Md} (hm : m ≠ .rd := by decide) : Op (PR m) (PN m) listV (dO fun b => (listT b).map .lst) := op_newN hm fun a b h B F ds p e => by
  obtain ⟨vs, G, e1, r, s⟩ := p.1.seq e
  exact ⟨vs, G, by simp only [listV, e1], r, .of s⟩
theorem pp_listC : Op (PR .rd) (PR .fr) listV (dO fun b => (listC b).map .lst) := op_new (by decide) fun a b h B F ds p e => by
  unfold listC at e
  split at e
  · split at e
    · cases e
      rename_i e2 hf
      obtain ⟨vs, G, e1, r, s⟩ := p.1.seq e2
      exact ⟨vs, [], by simp only [listV, e1], r.rd_flat hf, .of (List.nil_sublist _)⟩
    · cases e
  · cases e
theorem pp_tuple {m : Md} : Op (PR m) (PR m) tupleV (dO fun b => (listT b).map .tup) := op_same fun a b h B F d p e => by
  simp only [Option.map_eq_some_iff] at e
  obtain ⟨ds, e, rfl⟩ := e
  obtain ⟨vs, G, e1, r, s⟩ := p.1.seq e
  exact ⟨_, G, by simp only [tupleV, e1], ⟨.tup r, fun hm => by rw [p.2 hm] at s; exact List.sublist_nil.mp s⟩, .of s⟩
theorem pp_tupleC : Op (PR .rd) (PR .fr) tupleV (dO fun b => (listC b).map .tup) := op_same fun a b h B F d p e => by
  simp only [Option.map_eq_some_iff] at e
  obtain ⟨ds, e, rfl⟩ := e
  unfold listC at e
  split at e
  · split at e
    · cases e
      rename_i e2 hf
      obtain ⟨vs, G, e1, r, s⟩ := p.1.seq e2
      exact ⟨_, [], by simp only [tupleV, e1], ⟨.tup (r.rd_flat hf), fun _ => rfl⟩, .of (List.nil_sublist _)⟩
    · cases e
  · cases e
@[simp] def blsD : List D → Option (List Bool)
  | [] => some []
  | .bl b :: r => (blsD r).map (b :: ·)
  | _ => none
@[simp] def intsD : List D → Option (List Int)
  | [] => some []
  | .int b :: r => (intsD r).map (b :: ·)
  | _ => none
theorem bls_of {h : HS} {B : Nat → Prop} : ∀ {vs : List PV} {ds : List D} {F : List Nat} {bs : List Bool}, Ows h B vs ds F → blsD ds = some bs → blsOf vs = some bs
  | _, _, _, _, .nil, e => by cases e; rfl
  | _, _, _, _, .cons (d := d) r t, e => by
    cases d <;> simp only [blsD, Option.map_eq_some_iff] at e <;> try cases e
    rename_i ds' e
    obtain ⟨e, rfl⟩ := e
    cases r
    simp only [blsOf, bls_of t e, Option.map]
theorem ints_of {h : HS} {B : Nat → Prop} : ∀ {vs : List PV} {ds : List D} {F : List Nat} {bs : List Int}, Ows h B vs ds F → intsD ds = some bs → intsOf vs = some bs
  | _, _, _, _, .nil, e => by cases e; rfl
  | _, _, _, _, .cons (d := d) r t, e => by
    cases d <;> simp only [intsD, Option.map_eq_some_iff] at e <;> try cases e
    rename_i ds' e
    obtain ⟨e, rfl⟩ := e
    cases r
    simp only [intsOf, ints_of t e, Option.map]
@[simp] def D.lis : D → Option (List D)
  | .lst xs => some xs
  | _ => none
theorem lis_of {h : HS} {B : Nat → Prop} {v : PV} {d : D} {ds : List D} {F : List Nat} (r : Ow h B v d F) (e : d.lis = some ds) : ∃ vs G, lstOf h v = some vs ∧ Ows h B vs ds G := by
  cases d <;> simp only [D.lis] at e <;> cases e
  obtain ⟨n, vs, F1, rfl, g1, r1, s1⟩ := seq_ref r
  exact ⟨vs, F1, by simp only [lstOf, g1], r1⟩
@[simp] def onBls (f : List Bool → Bool) (d : D) : Option D := (d.lis.bind blsD).map fun bs => .bl (f bs)
@[simp] def onInts (f : List Int → Int) (d : D) : Option D := (d.lis.bind intsD).map fun bs => .int (f bs)
theorem onBls_of {h : HS} {B : Nat → Prop} {v : PV} {d e : D} {F : List Nat} {f : List Bool → Bool} (r : Ow h B v d F) (q : onBls f d = some e) : ∃ bs, e = .bl (f bs) ∧ (lstOf h v).bind blsOf = some bs := by
  unfold onBls at q
  simp only [Option.map_eq_some_iff, Option.bind_eq_some_iff] at q
  obtain ⟨bs, ⟨ds, e1, e2⟩, rfl⟩ := q
  obtain ⟨vs, G, e3, r3⟩ := lis_of r e1
  exact ⟨bs, rfl, by rw [e3]; exact bls_of r3 e2⟩
theorem onInts_of {h : HS} {B : Nat → Prop} {v : PV} {d e : D} {F : List Nat} {f : List Int → Int} (r : Ow h B v d F) (q : onInts f d = some e) : ∃ bs, e = .int (f bs) ∧ (lstOf h v).bind intsOf = some bs := by
  unfold onInts at q
  simp only [Option.map_eq_some_iff, Option.bind_eq_some_iff] at q
  obtain ⟨bs, ⟨ds, e1, e2⟩, rfl⟩ := q
  obtain ⟨vs, G, e3, r3⟩ := lis_of r e1
  exact ⟨bs, rfl, by rw [e3]; exact ints_of r3 e2⟩
theorem pp_all : Op (PR .rd) (PR .fr) allV (dO (onBls fun bs => bs.all id)) := op_flat fun a b h B F d p e => by
  obtain ⟨bs, rfl, e1⟩ := onBls_of p.1 e
  exact ⟨_, by simp only [allV, e1], .bl _⟩
theorem pp_any : Op (PR .rd) (PR .fr) anyV (dO (onBls fun bs => bs.any id)) := op_flat fun a b h B F d p e => by
  obtain ⟨bs, rfl, e1⟩ := onBls_of p.1 e
  exact ⟨_, by simp only [anyV, e1], .bl _⟩
theorem pp_sum : Op (PR .rd) (PR .fr) sumV (dO (onInts List.sum)) := op_flat fun a b h B F d p e => by
  obtain ⟨bs, rfl, e1⟩ := onInts_of p.1 e
  exact ⟨_, by simp only [sumV, e1], .int _⟩
@[simp] def minT (d : D) : Option D := match d.lis.bind intsD with
  | some (y :: r) => some (.int (minL (y :: r)))
  | _ => none
@[simp] def maxT (d : D) : Option D := match d.lis.bind intsD with
  | some (y :: r) => some (.int (maxL (y :: r)))
  | _ => none
theorem inl_of {h : HS} {B : Nat → Prop} {v : PV} {d : D} {F : List Nat} {bs : List Int} (r : Ow h B v d F) (q : d.lis.bind intsD = some bs) : (lstOf h v).bind intsOf = some bs := by
  simp only [Option.bind_eq_some_iff] at q
  obtain ⟨ds, e1, e2⟩ := q
  obtain ⟨vs, G, e3, r3⟩ := lis_of r e1
  rw [e3]
  exact ints_of r3 e2
theorem pp_min : Op (PR .rd) (PR .fr) minV (dO minT) := op_flat fun a b h B F d p e => by
  unfold minT at e
  split at e
  · cases e
    rename_i y r e1
    exact ⟨_, by simp only [minV, inl_of p.1 e1], .int _⟩
  · cases e
theorem pp_max : Op (PR .rd) (PR .fr) maxV (dO maxT) := op_flat fun a b h B F d p e => by
  unfold maxT at e
  split at e
  · cases e
    rename_i y r e1
    exact ⟨_, by simp only [maxV, inl_of p.1 e1], .int _⟩
  · cases e
def absT : D → Option D
  | .int i => some (.int (if i < 0 then -i else i))
  | _ => none
theorem pp_abs : Op (PR .rd) (PR .fr) absV (dO absT) := op_flat fun a b h B F d p e => by
  cases b <;> simp only [absT] at e <;> cases e
  rw [(int_of p).1]
  exact ⟨_, rfl, .int _⟩
def negT : D → Option D
  | .int i => some (.int (-i))
  | _ => none
theorem pp_neg : Op (PR .rd) (PR .fr) negV (dO negT) := op_flat fun a b h B F d p e => by
  cases b <;> simp only [negT] at e <;> cases e
  rw [(int_of p).1]
  exact ⟨_, rfl, .int _⟩
/-! two numbers as arguments: lists of two -/
theorem args1 {m : Md} {vs : List PV} {d : D} {h : HS} {B : Nat → Prop} {F : List Nat} (p : PL m vs [d] h B F) : ∃ v, vs = [v] ∧ PR m v d h B F := by
  obtain ⟨r, e⟩ := p
  cases r with
  | cons r t =>
    cases t
    rw [List.append_nil] at *
    exact ⟨_, rfl, r, e⟩
theorem args2 {vs : List PV} {d e : D} {h : HS} {B : Nat → Prop} {F : List Nat} (p : PL .rd vs [d, e] h B F) : ∃ v w, vs = [v, w] ∧ PR .rd v d h B [] ∧ PR .rd w e h B [] := by
  obtain ⟨r, q⟩ := p
  cases r with
  | cons r t =>
    cases t with
    | cons r2 t =>
      cases t
      exact ⟨_, _, rfl, ⟨r.rd, fun _ => rfl⟩, ⟨r2.rd, fun _ => rfl⟩⟩
@[simp] def dc1 (f : D → G → Rd D) : List D → G → Rd D
  | [x], g => f x g
  | _, _ => .no
@[simp] def dc2 (f : D → D → G → Rd D) : List D → G → Rd D
  | [x, y], g => f x y g
  | _, _ => .no
theorem pp_c1 {m n : Md} {k : PV → HS → R PV} {f : D → G → Rd D} (o : Op (PR m) (PR n) k f) : Op (PL m) (PR n) (c1 k) (dc1 f) := by
  intro a b g h Bl F gr p nd nb lt
  match b, p with
  | [], p => trivial
  | [d], p =>
    obtain ⟨v, rfl, q⟩ := args1 p
    exact o v d g h Bl F gr q nd nb lt
  | _ :: _ :: _, p => trivial
theorem pp_c1N {m n : Md} {k : PV → HS → R PV} {f : D → G → Rd D} (o : Op (PR m) (PN n) k f) : Op (PL m) (PN n) (c1 k) (dc1 f) := by
  intro a b g h Bl F gr p nd nb lt
  match b, p with
  | [], p => trivial
  | [d], p =>
    obtain ⟨v, rfl, q⟩ := args1 p
    exact o v d g h Bl F gr q nd nb lt
  | _ :: _ :: _, p => trivial
theorem pp_c2 {n : Md} {k : PV → PV → HS → R PV} {f : D → D → G → Rd D} (o : Op RR (PR n) (fun p => k p.1 p.2) (fun p => f p.1 p.2)) : Op (PL .rd) (PR n) (c2 k) (dc2 f) := by
  intro a b g h Bl F gr p nd nb lt
  match b, p with
  | [], p => trivial
  | [d], p => trivial
  | [d, e], p =>
    obtain ⟨v, w, rfl, q1, q2⟩ := args2 p
    have hF : F = [] := p.2 rfl
    subst hF
    exact o (v, w) (d, e) g h Bl [] gr ⟨[], [], rfl, q1, q2⟩ nd nb lt
  | _ :: _ :: _ :: _, p => trivial
@[simp] def min2T : D → D → Option D := arI fun i j => some (if j < i then j else i)
@[simp] def max2T : D → D → Option D := arI fun i j => some (if j > i then j else i)
@[simp] def min2D : D → D → G → Rd D := fun x y => dO (fun p : D × D => min2T p.1 p.2) (x, y)
@[simp] def max2D : D → D → G → Rd D := fun x y => dO (fun p : D × D => max2T p.1 p.2) (x, y)
theorem pp_min2 : Op RR (PR .fr) (fun p => min2V p.1 p.2) (fun p => min2D p.1 p.2) := op_flat fun a b h B F d p e => by
  obtain ⟨F1, F2, _, p1, p2⟩ := p
  obtain ⟨x, y⟩ := b
  cases x <;> cases y <;> simp only [min2T, arI, Option.map] at e <;> try cases e
  rw [(int_of p1).1, (int_of p2).1]
  exact ⟨_, rfl, .int _⟩
theorem pp_max2 : Op RR (PR .fr) (fun p => max2V p.1 p.2) (fun p => max2D p.1 p.2) := op_flat fun a b h B F d p e => by
  obtain ⟨F1, F2, _, p1, p2⟩ := p
  obtain ⟨x, y⟩ := b
  cases x <;> cases y <;> simp only [max2T, arI, Option.map] at e <;> try cases e
  rw [(int_of p1).1, (int_of p2).1]
  exact ⟨_, rfl, .int _⟩
def divmodT : D → D → Option D
  | .int i, .int j => if 0 < j ∧ j < 2 ^ 200 then some (.tup [.int (i / j), .int (i % j)]) else none
  | _, _ => none
@[simp] def divmodD : D → D → G → Rd D := fun x y => dO (fun p : D × D => divmodT p.1 p.2) (x, y)
theorem pp_divmod : Op RR (PR .fr) (fun p => divmodV p.1 p.2) (fun p => divmodD p.1 p.2) := op_flat fun a b h B F d p e => by
  obtain ⟨F1, F2, _, p1, p2⟩ := p
  obtain ⟨x, y⟩ := b
  cases x <;> cases y <;> simp only [divmodT] at e <;> try cases e
  split at e <;> cases e
  rw [(int_of p1).1, (int_of p2).1]
  exact ⟨_, by simp only [divmodV]; rw [if_pos (by assumption)], .tup (.cons (F := []) (.int _) (.cons (F := []) (.int _) .nil))⟩
/-! isinstance -/
def tagD : D → Option String
  | .non => some "NoneType"
  | .bl _ => some "bool"
  | .int _ => some "int"
  | .str _ => some "str"
  | .tup _ => some "tuple"
  | .lst _ => some "list"
  | .dic _ => some "dict"
  | _ => none
@[simp] def isV1D (a : String) : List D → Option Bool
  | [] => some false
  | .ty b :: r => if okTy b = true then (isV1D a r).map (isTy a b || ·) else none
  | _ => none
def isinstT : D → D → Option D
  | x, .ty b => match tagD x with
    | some a => if okTy b = true then some (.bl (isTy a b)) else none
    | none => none
  | x, .tup cs => match tagD x with
    | some a => (isV1D a cs).map .bl
    | none => none
  | _, _ => none
@[simp] def isinstD : D → D → G → Rd D := fun x y => dO (fun p : D × D => isinstT p.1 p.2) (x, y)
theorem tag_of {h : HS} {B : Nat → Prop} {v : PV} {d : D} {F : List Nat} {s : String} (r : Ow h B v d F) (e : tagD d = some s) : tagOf h v = some s := by
  cases r <;> simp only [tagD] at e <;> cases e <;> first | rfl | (simp only [tagOf]; rename_i g _ _; rw [g]) | (simp only [tagOf]; rename_i g _; rw [g])
theorem isV1_of {h : HS} {B : Nat → Prop} {a : String} : ∀ {vs : List PV} {ds : List D} {F : List Nat} {b : Bool}, Ows h B vs ds F → isV1D a ds = some b → isV1 a vs = some b
  | _, _, _, _, .nil, e => by cases e; rfl
  | _, _, _, _, .cons (d := d) r t, e => by
    cases d <;> simp only [isV1D] at e <;> try cases e
    split at e
    · rename_i hb
      simp only [Option.map_eq_some_iff] at e
      obtain ⟨c, e, rfl⟩ := e
      cases r
      simp only [isV1]
      rw [if_pos hb, isV1_of t e]
      rfl
    · cases e
theorem pp_isinst : Op RR (PR .fr) (fun p => isinstV p.1 p.2) (fun p => isinstD p.1 p.2) := op_flat fun a b h B F d p e => by
  obtain ⟨F1, F2, _, p1, p2⟩ := p
  obtain ⟨x, y⟩ := b
  obtain ⟨v, w⟩ := a
  cases y <;> simp only [isinstT] at e <;> try cases e
  · split at e
    · rename_i s hs
      split at e
      · rename_i hb
        cases e
        obtain ⟨r2, _⟩ := p2
        cases r2
        refine ⟨_, ?_, .bl _⟩
        simp only [isinstV, tag_of p1.1 hs]
        rw [if_pos hb]
      · cases e
    · cases e
  · split at e
    · rename_i s hs
      simp only [Option.map_eq_some_iff] at e
      obtain ⟨c, e, rfl⟩ := e
      obtain ⟨r2, _⟩ := p2
      cases r2 with
      | tup r2 =>
        refine ⟨_, ?_, .bl _⟩
        simp only [isinstV, tag_of p1.1 hs, isV1_of r2 e]
    · cases e
end Lt
namespace Lt
open PySem L2
section
variable {α β γ α' β' γ' : Type} {κ : List Kd} {S T : List Nat}
/-! ### one step behind another, in the same slots -/
theorem sown_of {Fs : List (List Nat)} {n : Nat} : ¬ sown Fs [] n := fun ⟨_, h, _⟩ => absurd h List.not_mem_nil
theorem PuX.sub {e : Mi α} {f : Di α'} {P : Rel α α'} (h : PuX κ S e f P) (hs : ∀ i ∈ S, i ∈ T := by decide) : PuX κ T e f P := by
  refine ⟨fun {Bz η g Pt Bl Fs ρ h0} s => ?_⟩
  have h1 := h.run s
  cases e1 : f η g with
  | no => trivial
  | ex c g' => rw [e1] at h1; exact h1
  | ok c g' =>
    rw [e1] at h1
    obtain ⟨v, h', e2, Bl', F, a⟩ := h1
    exact ⟨v, h', e2, Bl', F, a.kp, a.gr, a.up, a.dn, a.nd, a.nb, fun n z => (a.fr n z).imp (fun ⟨i, hi, m⟩ => ⟨i, hs i hi, m⟩) id, a.val⟩
/-- a value is known; what follows is told by its data alone -/
theorem PuX.then {e : Mi α} {f : Di α'} {P : Rel α α'} {k : α → Mi β} {fk : α' → Di β'} {Q : Rel β β'} (ha : PuX κ S e f P) (hk : ∀ a b, (∃ h B F, P a b h B F) → PuX κ T (k a) (fk b) Q) :
    PuX κ T (fun ρ h => (e ρ h).bind fun x h1 => k x ρ h1) (fun η g => (f η g).bind fun x g1 => fk x η g1) Q := by
  refine ⟨fun {Bz η g Pt Bl Fs ρ h} s => ?_⟩
  have h1 := ha.run s
  cases e1 : f η g with
  | no => trivial
  | ex c g' =>
    rw [e1] at h1
    obtain ⟨c', h', e2, k1, k2, k3⟩ := h1
    exact ⟨c', h', by rw [e2]; rfl, k1, k2, k3⟩
  | ok c g1 =>
    rw [e1] at h1
    obtain ⟨v, h1', e2, Bl1, F1, a1⟩ := h1
    have s1 := s.step a1
    have h2 := (hk v c ⟨_, _, _, a1.val⟩).run s1
    simp only [Rd.bind]
    rw [e2]
    simp only [R.bind_ok]
    cases e3 : fk c η g1 with
    | no => trivial
    | ex c g' =>
      rw [e3] at h2
      obtain ⟨c', h', e4, k1, k2, k3⟩ := h2
      exact ⟨c', h', e4, a1.kp.trans k1, k2, k3⟩
    | ok c2 g2 =>
      rw [e3] at h2
      obtain ⟨w, h2', e4, Bl2, F2, a2⟩ := h2
      refine ⟨w, h2', e4, Bl2, F2, a1.kp.trans a2.kp, a2.gr, fun n z => a2.up n (a1.up n z), fun n z => ?_, a2.nd, a2.nb, fun n z => ?_, a2.val⟩
      · rcases a2.dn n z with z | z
        · rcases a1.dn n z with z | z
          · exact .inl z
          · exact .inr ⟨z.1, Nat.lt_of_lt_of_le z.2 a2.kp.le⟩
        · exact .inr ⟨Nat.le_trans a1.kp.le z.1, z.2⟩
      · rcases a2.fr n z with z | z
        · exact .inl z
        · exact .inr (Nat.le_trans a1.kp.le z)
/-! tests -/
def asBD : D → Option Bool
  | .bl b => some b
  | _ => none
theorem pp_asB : Op (PR .rd) PE asB (dO asBD) := op_bool fun a b h B F d p e => by
  cases b <;> simp only [asBD] at e <;> cases e
  obtain ⟨r, _⟩ := p
  cases r
  rfl
def truthT : D → Option Bool
  | .non => some false
  | .bl b => some b
  | .int i => some (i != 0)
  | .str y => if y.length ≤ 16777216 then some ((y.length : Int) != 0) else none
  | .tup xs => some (!xs.isEmpty)
  | .lst xs => some (!xs.isEmpty)
  | .dic xs => some (!xs.isEmpty)
  | _ => none
theorem Ows.emp {h : HS} {B : Nat → Prop} {vs : List PV} {ds : List D} {F : List Nat} (r : Ows h B vs ds F) : vs.isEmpty = ds.isEmpty := by cases r <;> rfl
theorem OwK.emp {h : HS} {B : Nat → Prop} {vs : List (Key × PV)} {ds : List (Key × D)} {F : List Nat} (r : OwK h B vs ds F) : vs.isEmpty = ds.isEmpty := by cases r <;> rfl
theorem truth_of {h : HS} {B : Nat → Prop} {v : PV} {d : D} {F : List Nat} {b : Bool} (r : Ow h B v d F) (e : truthT d = some b) : truth v h = .ok b h := by
  cases r with
  | non => cases e; rfl
  | bl b => cases e; rfl
  | int i => cases e; rfl
  | str y =>
    simp only [truthT] at e
    split at e <;> cases e
    simp only [truth]
    rw [if_pos (by assumption)]
  | ty => cases e
  | stt => cases e
  | tup r => cases e; simp only [truth, r.emp]
  | bor h2 g r b => cases e; simp only [truth, g, r.emp]
  | own h2 g r => cases e; simp only [truth, g, r.emp]
  | borD h2 g r b => cases e; simp only [truth, g, r.emp]
  | ownD h2 g r => cases e; simp only [truth, g, r.emp]
theorem pp_truth : Op (PR .rd) PE truth (dO truthT) := op_bool fun a b h B F d p e => truth_of p.1 e
def dTru (a : Di D) : Di Bool := d1 (dO truthT) a
theorem pt_tru {a : Mi PV} {f : Di D} (h : PuX κ S a f (PR .rd)) : PuX κ S (mTru a) (dTru f) PE := h.map pp_truth
def dAsB (a : Di D) : Di Bool := d1 (dO asBD) a
theorem pt_asB {a : Mi PV} {f : Di D} (h : PuX κ S a f (PR .rd)) : PuX κ S (m1 asB a) (dAsB f) PE := h.map pp_asB
def dIf {α : Type} (t : Di Bool) (a b : Di α) (η : Dn) (g : G) : Rd α := (t η g).bind fun c g1 => if c = true then a η g1 else b η g1
def dAnd (a b : Di Bool) (η : Dn) (g : G) : Rd Bool := (a η g).bind fun c g1 => if c = true then b η g1 else .ok false g1
def dOr (a b : Di Bool) (η : Dn) (g : G) : Rd Bool := (a η g).bind fun c g1 => if c = true then .ok true g1 else b η g1
def dNot (a : Di Bool) (η : Dn) (g : G) : Rd Bool := (a η g).bind fun c g1 => .ok (!c) g1
theorem pe_okB {c : Bool} : PuX κ S (fun _ h => R.ok c h) (fun _ g => Rd.ok c g) PE := ⟨fun {Bz η g Pt Bl Fs ρ h} s => ⟨c, h, rfl, Bl, [], .refl, s.gr, fun _ z => z, fun _ z => .inl z, List.nodup_nil, fun n z => absurd z List.not_mem_nil, fun n z => absurd z List.not_mem_nil, rfl, rfl⟩⟩
theorem ite_ctx {c : Bool} {a b : Mi α} {ρ : Pn} {h : HS} : (if c = true then a ρ h else b ρ h) = (if c = true then a else b) ρ h := by split <;> rfl
theorem pe_if {t : Mi Bool} {ft : Di Bool} {a b : Mi α} {fa fb : Di α'} {P : Rel α α'} (ht : PuX κ [] t ft PE) (ha : PuX κ S a fa P) (hb : PuX κ S b fb P) : PuX κ S (mIf t a b) (dIf ft fa fb) P :=
  ht.then (k := fun c ρ h => if c = true then a ρ h else b ρ h) (fk := fun c η g => if c = true then fa η g else fb η g) fun x c ⟨_, _, _, e, _⟩ => by
    subst e
    cases x
    · exact hb
    · exact ha
theorem pt_and {a b : Mi Bool} {fa fb : Di Bool} (ha : PuX κ [] a fa PE) (hb : PuX κ [] b fb PE) : PuX κ [] (mAnd a b) (dAnd fa fb) PE :=
  ha.then (k := fun c ρ h => if c = true then b ρ h else .ok false h) (fk := fun c η g => if c = true then fb η g else .ok false g) fun x c ⟨_, _, _, e, _⟩ => by
    subst e
    cases x
    · exact pe_okB
    · exact hb
theorem pt_or {a b : Mi Bool} {fa fb : Di Bool} (ha : PuX κ [] a fa PE) (hb : PuX κ [] b fb PE) : PuX κ [] (mOr a b) (dOr fa fb) PE :=
  ha.then (k := fun c ρ h => if c = true then .ok true h else b ρ h) (fk := fun c η g => if c = true then .ok true g else fb η g) fun x c ⟨_, _, _, e, _⟩ => by
    subst e
    cases x
    · exact hb
    · exact pe_okB
theorem pt_not {a : Mi Bool} {fa : Di Bool} (ha : PuX κ [] a fa PE) : PuX κ [] (mNot a) (dNot fa) PE :=
  ha.then (k := fun c ρ h => .ok (!c) h) (fk := fun c η g => .ok (!c) g) fun x c ⟨_, _, _, e, _⟩ => by
    subst e
    exact pe_okB
theorem pp_bl : Op PE (PR .fr) (fun b h => R.ok (.bl b) h) (dO fun b => some (.bl b)) := op_flat fun a b h B F d p e => by
  cases e
  rw [p.1]
  exact ⟨_, rfl, .bl _⟩
def dVB (a : Di Bool) : Di D := d1 (dO fun b => some (.bl b)) a
theorem pe_vB {a : Mi Bool} {f : Di Bool} (h : PuX κ S a f PE) : PuX κ S (mVB a) (dVB f) (PR .fr) := h.map pp_bl
/-! and, or, not, as values -/
def dAndV (a b : Di D) (η : Dn) (g : G) : Rd D := (a η g).bind fun x g1 => (dO truthT x g1).bind fun c g2 => if c = true then b η g2 else .ok x g2
def dOrV (a b : Di D) (η : Dn) (g : G) : Rd D := (a η g).bind fun x g1 => (dO truthT x g1).bind fun c g2 => if c = true then .ok x g2 else b η g2
def dNotV (a : Di D) (η : Dn) (g : G) : Rd D := (a η g).bind fun x g1 => (dO truthT x g1).bind fun c g2 => .ok (.bl (!c)) g2
theorem pe_sel {a b : Mi PV} {fa fb : Di D} {m : Md} (w : Bool) (ha : PuX κ S a fa (PR m)) (hb : PuX κ S b fb (PR m)) :
    PuX κ S (fun ρ h => (a ρ h).bind fun x h1 => (truth x h1).bind fun c h2 => if c = w then b ρ h2 else .ok x h2) (fun η g => (fa η g).bind fun x g1 => (dO truthT x g1).bind fun c g2 => if c = w then fb η g2 else .ok x g2) (PR m) := by
  refine ⟨fun {Bz η g Pt Bl Fs ρ h} s => ?_⟩
  have h1 := ha.run s
  cases e1 : fa η g with
  | no => trivial
  | ex c g' =>
    rw [e1] at h1
    obtain ⟨c', h', e2, k1, k2, k3⟩ := h1
    exact ⟨c', h', by rw [e2]; rfl, k1, k2, k3⟩
  | ok d g1 =>
    rw [e1] at h1
    obtain ⟨v, h1', e2, Bl1, F1, a1⟩ := h1
    simp only [Rd.bind, dO]
    rw [e2]
    simp only [R.bind_ok]
    cases e3 : truthT d with
    | none => trivial
    | some c =>
      rw [truth_of a1.val.1 e3]
      simp only [R.bind_ok]
      by_cases hc : c = w
      · rw [if_pos hc, if_pos hc]
        have s1 := s.step a1
        have h2 := hb.run s1
        cases e3 : fb η g1 with
        | no => trivial
        | ex c g' =>
          rw [e3] at h2
          obtain ⟨c', h', e4, k1, k2, k3⟩ := h2
          exact ⟨c', h', e4, a1.kp.trans k1, k2, k3⟩
        | ok c2 g2 =>
          rw [e3] at h2
          obtain ⟨w, h2', e4, Bl2, F2, a2⟩ := h2
          refine ⟨w, h2', e4, Bl2, F2, a1.kp.trans a2.kp, a2.gr, fun n z => a2.up n (a1.up n z), fun n z => ?_, a2.nd, a2.nb, fun n z => ?_, a2.val⟩
          · rcases a2.dn n z with z | z
            · rcases a1.dn n z with z | z
              · exact .inl z
              · exact .inr ⟨z.1, Nat.lt_of_lt_of_le z.2 a2.kp.le⟩
            · exact .inr ⟨Nat.le_trans a1.kp.le z.1, z.2⟩
          · rcases a2.fr n z with z | z
            · exact .inl z
            · exact .inr (Nat.le_trans a1.kp.le z)
      · rw [if_neg hc, if_neg hc]
        exact ⟨v, h1', rfl, Bl1, F1, a1⟩
theorem pe_and {a b : Mi PV} {fa fb : Di D} {m : Md} (ha : PuX κ S a fa (PR m)) (hb : PuX κ S b fb (PR m)) : PuX κ S (mAndV a b) (dAndV fa fb) (PR m) := pe_sel true ha hb
theorem pe_or {a b : Mi PV} {fa fb : Di D} {m : Md} (ha : PuX κ S a fa (PR m)) (hb : PuX κ S b fb (PR m)) : PuX κ S (mOrV a b) (dOrV fa fb) (PR m) := by
  have := pe_sel false ha hb
  have e1 : (fun (ρ : Pn) h => (a ρ h).bind fun x h1 => (truth x h1).bind fun c h2 => if c = false then b ρ h2 else .ok x h2) = mOrV a b := by
    funext ρ h
    unfold mOrV
    congr 1
    funext x h1
    congr 1
    funext c h2
    cases c <;> rfl
  have e2 : (fun η g => (fa η g).bind fun x g1 => (dO truthT x g1).bind fun c g2 => if c = false then fb η g2 else .ok x g2) = dOrV fa fb := by
    funext ρ h
    unfold dOrV
    congr 1
    funext x h1
    congr 1
    funext c h2
    cases c <;> rfl
  rwa [e1, e2] at this
theorem pe_not {a : Mi PV} {fa : Di D} {m : Md} (ha : PuX κ S a fa (PR m)) : PuX κ S (mNotV a) (dNotV fa) (PR .fr) := by
  have o : Op (PR m) (PR .fr) (fun x h1 => (truth x h1).bind fun c h2 => R.ok (.bl (!c)) h2) (dO fun x => (truthT x).map fun c => .bl (!c)) := op_flat fun a b h B F d p e => by
    simp only [Option.map_eq_some_iff] at e
    obtain ⟨c, e, rfl⟩ := e
    exact ⟨.bl (!c), by rw [truth_of p.1 e]; rfl, .bl _⟩
  have := ha.map o
  have e2 : d1 (dO fun x => (truthT x).map fun c => .bl (!c)) fa = dNotV fa := by
    funext η g
    unfold d1 dNotV
    congr 1
    funext x g1
    unfold dO
    dsimp only
    cases truthT x <;> rfl
  rw [e2] at this
  exact this
/-! a < b < c -/
def dChain (f f' : D → D → G → Rd D) (a b c : Di D) (η : Dn) (g : G) : Rd D := (a η g).bind fun x g1 => (b η g1).bind fun y g2 => (f x y g2).bind fun z g3 => (dO asBD z g3).bind fun k g4 => if k = true then (c η g4).bind fun w g5 => f' y w g5 else .ok (.bl false) g4
/-! lists of arguments -/
def dNil : Di (List D) := fun _ g => .ok [] g
def dCons (a : Di D) (b : Di (List D)) : Di (List D) := d2 (fun x xs g => .ok (x :: xs) g) a b
theorem pa_nil {m : Md} : PuX κ [] mNil dNil (PL m) := ⟨fun {Bz η g Pt Bl Fs ρ h} s => ⟨[], h, rfl, Bl, [], .refl, s.gr, fun _ z => z, fun _ z => .inl z, List.nodup_nil, fun n z => absurd z List.not_mem_nil, fun n z => absurd z List.not_mem_nil, .nil, fun _ => rfl⟩⟩
theorem pa_cons {m : Md} {a : Mi PV} {fa : Di D} {b : Mi (List PV)} {fb : Di (List D)} (ha : PuX κ S a fa (PR m)) (hb : PuX κ T b fb (PL m)) (dis : ∀ i ∈ S, i ∉ T := by decide) : PuX κ (S ++ T) (mCons a b) (dCons fa fb) (PL m) := by
  have o : Op (RPair (PR m) (PL m)) (PL m) (fun p h => R.ok (p.1 :: p.2) h) (fun p g => Rd.ok (p.1 :: p.2) g) := by
    intro a b g h Bl F gr p nd nb lt
    obtain ⟨F1, F2, rfl, p1, p2⟩ := p
    exact ⟨_, h, rfl, Bl, F1 ++ F2, .refl, gr, fun _ z => z, fun _ z => .inl z, nd, nb, fun n z => .inl z, .cons p1.1 p2.1, fun hm => by rw [p1.2 hm, p2.2 hm]; rfl⟩
  exact PuX.map2 (k := fun x xs h => .ok (x :: xs) h) (f := fun x xs g => .ok (x :: xs) g) PR.mon o ha hb dis
def dTupD (ds : List D) : Option D := if ds.length ≤ 16777216 then some (.tup ds) else none
def dLstD (ds : List D) : Option (List D) := if ds.length ≤ 16777216 then some ds else none
theorem pp_tup {m : Md} : Op (PL m) (PR m) dTup (dO dTupD) := op_same fun a b h B F d p e => by
  unfold dTupD at e
  split at e <;> cases e
  exact ⟨.tup a, F, by simp only [dTup]; rw [p.1.length, if_pos (by assumption)], ⟨.tup p.1, p.2⟩, .refl _⟩
theorem pp_lst {m : Md} (hm : m ≠ .rd := by decide) : Op (PL m) (PR m) dLst (dO fun ds => (dLstD ds).map .lst) := op_new hm fun a b h B F d p e => by
  unfold dLstD at e
  split at e <;> cases e
  exact ⟨a, F, by simp only [dLst]; rw [p.1.length, if_pos (by assumption)], p.1, .refl _⟩
theorem pp_lstN {m : Md} (hm : m ≠ .rd := by decide) : Op (PL m) (PN m) dLst (dO fun ds => (dLstD ds).map .lst) := op_newN hm fun a b h B F d p e => by
  unfold dLstD at e
  split at e <;> cases e
  exact ⟨a, F, by simp only [dLst]; rw [p.1.length, if_pos (by assumption)], p.1, .refl _⟩
theorem pe_lstN {m : Md} {a : Mi (List PV)} {f : Di (List D)} (h : PuX κ S a f (PL m)) (hm : m ≠ .rd := by decide) : PuX κ S (m1 dLst a) (d1 (dO fun ds => (dLstD ds).map .lst) f) (PN m) := h.map (pp_lstN hm)
theorem pe_tup {m : Md} {a : Mi (List PV)} {f : Di (List D)} (h : PuX κ S a f (PL m)) : PuX κ S (m1 dTup a) (d1 (dO dTupD) f) (PR m) := h.map pp_tup
theorem pe_lst {m : Md} {a : Mi (List PV)} {f : Di (List D)} (h : PuX κ S a f (PL m)) (hm : m ≠ .rd := by decide) : PuX κ S (m1 dLst a) (d1 (dO fun ds => (dLstD ds).map .lst) f) (PR m) := h.map (pp_lst hm)
/-- only what is flat is told -/
theorem pp_chk : Op (PR .rd) (PR .fr) (fun a h => R.ok a h) (dO fun d => chk (some d)) := op_flat fun a b h B F d p e => by
  obtain ⟨e1, hf⟩ := chk_some e
  cases e1
  exact ⟨a, rfl, p.1.flat _ _ hf⟩
def dChk (f : Di D) : Di D := d1 (dO fun d => chk (some d)) f
theorem pe_chk {a : Mi PV} {f : Di D} (h : PuX κ S a f (PR .rd)) : PuX κ S a (dChk f) (PR .fr) := by
  have := h.map pp_chk
  rwa [m1_id] at this
/-! calls -/
abbrev FnF (py : List PV → HS → R PV) (d : List D → G → Rd D) : Prop := Op (PL .rd) (PR .fr) py d
abbrev FnB (py : List PV → HS → R PV) (d : List D → G → Rd D) : Prop := Op (PL .bo) (PR .bo) py d
theorem pe_call {py : List PV → HS → R PV} {d : List D → G → Rd D} {a : Mi (List PV)} {f : Di (List D)} (hF : FnF py d) (h : PuX κ S a f (PL .rd)) : PuX κ S (m1 py a) (d1 d f) (PR .fr) := h.map hF
theorem pe_callB {py : List PV → HS → R PV} {d : List D → G → Rd D} {a : Mi (List PV)} {f : Di (List D)} (hF : FnB py d) (h : PuX κ S a f (PL .bo)) : PuX κ S (m1 py a) (d1 d f) (PR .bo) := h.map hF
end
end Lt
namespace Lt
open PySem L2
section
variable {κ κ' : List Kd} {S T : List Nat}
/-! ### slots written -/
theorem Sls.len {h : HS} {Pt Bl : Nat → Prop} {κ : List Kd} {η : Dn} {Fs : List (List Nat)} {ρ : Pn} (s : Sls h Pt Bl κ η Fs ρ) : κ.length = η.length ∧ Fs.length = η.length ∧ ρ.length = η.length := by
  induction s with
  | nil => exact ⟨rfl, rfl, rfl⟩
  | cons s t ih => simp [ih]
theorem Sls.set {h : HS} {Pt Bl : Nat → Prop} {κ : List Kd} {η : Dn} {Fs : List (List Nat)} {ρ : Pn} (s : Sls h Pt Bl κ η Fs ρ) {k : Kd} {x : Option D} {F : List Nat} {y : Option PV} (q : Sl h Pt Bl k x F y) : ∀ i, Sls h Pt Bl (κ.set i k) (η.set i x) (Fs.set i F) (ρ.set i y) := by
  induction s with
  | nil => intro i; exact .nil
  | cons s t ih =>
    intro i
    cases i with
    | zero => exact .cons q t
    | succ i => exact .cons s (ih i)
theorem flat_set : ∀ (Fs : List (List Nat)) (i : Nat), (Fs.set i []).flatten.Sublist Fs.flatten
  | [], i => List.Sublist.refl _
  | F :: Fs, 0 => by simp
  | F :: Fs, i + 1 => by
    simp only [List.set_cons_succ, List.flatten_cons]
    exact (flat_set Fs i).append_left F
/-- of one slot more -/
theorem flat_setF : ∀ (Fs : List (List Nat)) (i : Nat) (F : List Nat), Sb (Fs.set i F).flatten (Fs.flatten ++ F)
  | [], i, F => .of (List.nil_sublist _)
  | X :: Fs, 0, F => by
    simp only [List.set_cons_zero, List.flatten_cons]
    exact (Sb.swap _ _).trans (.of ((List.sublist_append_right X _).append_right F))
  | X :: Fs, i + 1, F => by
    simp only [List.set_cons_succ, List.flatten_cons, List.append_assoc]
    exact (Sb.refl X).app (flat_setF Fs i F)
@[simp] def wipeD (η : Dn) : List Nat → Dn
  | [] => η
  | v :: vs => (wipeD η vs).set v none
theorem Sls.wipe {h : HS} {Pt Bl : Nat → Prop} {κ : List Kd} {η : Dn} {Fs : List (List Nat)} {ρ : Pn} (s : Sls h Pt Bl κ η Fs ρ) : ∀ is : List Nat, ∃ Fs', Sls h Pt Bl κ (wipeD η is) Fs' (wipeP ρ is) ∧ Fs'.flatten.Sublist Fs.flatten
  | [] => ⟨Fs, s, List.Sublist.refl _⟩
  | i :: is => by
    obtain ⟨Fs', s1, h1⟩ := s.wipe is
    cases hk : κ[i]? with
    | none =>
      refine ⟨Fs', ?_, h1⟩
      have l := s1.len
      have hi : η.length ≤ i := by
        have := List.getElem?_eq_none_iff.mp hk
        have l2 := s.len
        omega
      have e1 : (wipeD η is).set i none = wipeD η is := List.set_eq_of_length_le (by have := s.len; omega)
      have e2 : (wipeP ρ is).set i none = wipeP ρ is := List.set_eq_of_length_le (by have := s.len; omega)
      simp only [wipeD, wipeP]
      rw [e1, e2]
      exact s1
    | some k =>
      have := s1.set (.un k none) i
      have e : κ.set i k = κ := by
        obtain ⟨hl, e⟩ := List.getElem?_eq_some_iff.mp hk
        rw [← e]
        exact List.set_getElem_self hl
      rw [e] at this
      exact ⟨_, this, (flat_set Fs' i).trans h1⟩
def BK (k : Kd) (Pt Bl : Nat → Prop) : Nat → Prop := match k with
  | .im => Bl
  | .lk => Pt
  | _ => BT
/-- a target: names, tuples of such; k: how what is told may be used -/
structure PuG (k : Kd) (κ κ' : List Kd) (g : Mg) (gd : D → Dn → Option Dn) : Prop where
  run : ∀ {h : HS} {Pt Bl : Nat → Prop} {η : Dn} {Fs : List (List Nat)} {ρ : Pn} {v : PV} {d : D}, Sls h Pt Bl κ η Fs ρ → Ow h (BK k Pt Bl) v d [] → match gd d η with
    | none => True
    | some η' => ∃ ρ' Fs', g v ρ h = .ok ρ' h ∧ Sls h Pt Bl κ' η' Fs' ρ' ∧ Fs'.flatten.Sublist Fs.flatten
structure PuGs (k : Kd) (κ κ' : List Kd) (g : Mgs) (gd : List D → Dn → Option Dn) : Prop where
  run : ∀ {h : HS} {Pt Bl : Nat → Prop} {η : Dn} {Fs : List (List Nat)} {ρ : Pn} {v : List PV} {d : List D}, Sls h Pt Bl κ η Fs ρ → Ows h (BK k Pt Bl) v d [] → match gd d η with
    | none => True
    | some η' => ∃ ρ' Fs', g v ρ h = .ok ρ' h ∧ Sls h Pt Bl κ' η' Fs' ρ' ∧ Fs'.flatten.Sublist Fs.flatten
def tNm (i : Nat) (d : D) (η : Dn) : Option Dn := some (η.set i (some d))
def t0 (ds : List D) (η : Dn) : Option Dn := match ds with
  | [] => some η
  | _ => none
def tC (a : D → Dn → Option Dn) (b : List D → Dn → Option Dn) (ds : List D) (η : Dn) : Option Dn := match ds with
  | [] => none
  | d :: r => (a d η).bind (b r)
def tTp (n : Nat) (b : List D → Dn → Option Dn) (d : D) (η : Dn) : Option Dn := match d.seq with
  | some ds => if ds.length = n then b ds η else none
  | none => none
theorem Sl.mk {h : HS} {Pt Bl : Nat → Prop} {k : Kd} {v : PV} {d : D} (hk : k = .im ∨ k = .lk ∨ k = .rk) (r : Ow h (BK k Pt Bl) v d []) : Sl h Pt Bl k (some d) [] (some v) := by
  rcases hk with rfl | rfl | rfl
  · exact .im r
  · exact .lk r
  · exact .rk r
theorem pg_name {k : Kd} {i : Nat} (hk : k = .im ∨ k = .lk ∨ k = .rk := by decide) : PuG k κ (κ.set i k) (gNm i) (tNm i) := ⟨fun {h Pt Bl η Fs ρ v d} s r => ⟨ρ.set i (some v), Fs.set i [], rfl, s.set (Sl.mk hk r) i, flat_set Fs i⟩⟩
theorem pg_nil {k : Kd} : PuGs k κ κ gN0 t0 := ⟨fun {h Pt Bl η Fs ρ v d} s r => by
  unfold t0
  generalize hF : ([] : List Nat) = F0 at r
  cases r with
  | nil => exact ⟨ρ, Fs, rfl, s, List.Sublist.refl _⟩
  | cons r t => trivial⟩
theorem nil_app {F G : List Nat} (e : F ++ G = []) : F = [] ∧ G = [] := List.append_eq_nil_iff.mp e
theorem pg_cons {k : Kd} {κ κ1 κ' : List Kd} {g : Mg} {gs : Mgs} {gd : D → Dn → Option Dn} {gds : List D → Dn → Option Dn} (hg : PuG k κ κ1 g gd) (hs : PuGs k κ1 κ' gs gds) : PuGs k κ κ' (gC g gs) (tC gd gds) := ⟨fun {h Pt Bl η Fs ρ vs ds} s r => by
  generalize hF : ([] : List Nat) = F0 at r
  cases r with
  | nil => trivial
  | @cons v d vs ds F1 F2 r t =>
    obtain ⟨rfl, rfl⟩ := nil_app hF.symm
    have h1 := hg.run s r
    simp only [tC]
    cases e1 : gd d η with
    | none => trivial
    | some η1 =>
      rw [e1] at h1
      obtain ⟨ρ1, Fs1, e2, s1, l1⟩ := h1
      have h2 := hs.run s1 t
      simp only [Option.bind]
      cases e3 : gds ds η1 with
      | none => trivial
      | some η2 =>
        rw [e3] at h2
        obtain ⟨ρ2, Fs2, e4, s2, l2⟩ := h2
        refine ⟨ρ2, Fs2, ?_, s2, l2.trans l1⟩
        simp only [gC, e2]
        exact e4⟩
theorem pg_tup {k : Kd} {n : Nat} {gs : Mgs} {gds : List D → Dn → Option Dn} (hs : PuGs k κ κ' gs gds) : PuG k κ κ' (gTp n gs) (tTp n gds) := ⟨fun {h Pt Bl η Fs ρ v d} s r => by
  unfold tTp
  cases e : d.seq with
  | none => trivial
  | some ds =>
    obtain ⟨vs, G, e1, r1, l1⟩ := r.seq e
    have : G = [] := List.sublist_nil.mp l1
    subst this
    dsimp only
    by_cases hn : ds.length = n
    · rw [if_pos hn]
      have h1 := hs.run s r1
      cases e2 : gds ds η with
      | none => trivial
      | some η' =>
        rw [e2] at h1
        obtain ⟨ρ', Fs', e3, s', l'⟩ := h1
        exact ⟨ρ', Fs', by simp only [gTp, e1]; rw [r1.length, if_pos hn]; exact e3, s', l'⟩
    · rw [if_neg hn]
      trivial⟩
end
end Lt
namespace Lt
open PySem L2
/-! ### what is walked in a comprehension -/
/-- items to be read, or lent -/
def PI (k : Kd) : Rel Src (List D) := fun src ds h B F => Ows h (BK k (fun _ => True) B) src.items ds [] ∧ F = [] ∧ (∀ h', Kp h h' → src.guard h') ∧ (k = .im → ∀ h', h.length ≤ h'.length → (∀ n, 2 ≤ n → B n → h'[n]? = h[n]?) → src.guard h')
abbrev PLent : Rel PV D := fun v d h B F => Ow h B v d [] ∧ F = []
abbrev PLents : Rel (List PV) (List D) := fun v d h B F => Ows h B v d [] ∧ F = []
section
variable {κ κ' : List Kd} {S T : List Nat}
theorem PuX.lents {e : Mi (List PV)} {f : Di (List D)} {m : Md} (h : PuX κ [] e f (PL m)) (hm : m ≠ .rd := by decide) : PuX κ [] e f PLents := by
  refine ⟨fun {Bz η g Pt Bl Fs ρ h0} s => ?_⟩
  have h1 := h.run s
  cases e1 : f η g with
  | no => trivial
  | ex c g' => rw [e1] at h1; exact h1
  | ok c g' =>
    rw [e1] at h1
    obtain ⟨v, h', e2, Bl', F, a⟩ := h1
    refine ⟨v, h', e2, fun n => Bl' n ∨ n ∈ F, [], a.kp, a.gr, fun n z => .inl (a.up n z), fun n z => ?_, List.nodup_nil, fun n z => absurd z List.not_mem_nil, fun n z => absurd z List.not_mem_nil, ?_, rfl⟩
    · rcases z with z | z
      · exact a.dn n z
      · rcases a.fr n z with ⟨i, hi, _⟩ | q
        · exact absurd hi List.not_mem_nil
        · exact .inr ⟨q, (a.val.1.lt n z).2⟩
    · refine a.val.1.lend (fun n z => ?_) fun n z => .inr z
      cases m with
      | rd => exact absurd rfl hm
      | bo => exact .inl z
      | fr => exact z.elim
/-- how a walked thing is handed: for reading alone, or lent -/
def PK (k : Kd) : Rel PV D := fun v d h B F => Ow h (BK k (fun _ => True) B) v d [] ∧ F = []
def PKs (k : Kd) : Rel (List PV) (List D) := fun v d h B F => Ows h (BK k (fun _ => True) B) v d [] ∧ F = []
theorem PuX.kr {e : Mi PV} {f : Di D} (h : PuX κ S e f (PR .rd)) : PuX κ S e f (PK .rk) := h.conv (Op.id_of fun a b h Bl F p _ _ _ => ⟨[], ⟨p.1.rd, rfl⟩, .of (List.nil_sublist _)⟩)
theorem PuX.ki {e : Mi PV} {f : Di D} {m : Md} (h : PuX κ [] e f (PR m)) (hm : m ≠ .rd := by decide) : PuX κ [] e f (PK .im) := h.lent hm
theorem PuX.krs {e : Mi (List PV)} {f : Di (List D)} (h : PuX κ S e f (PL .rd)) : PuX κ S e f (PKs .rk) := h.conv (Op.id_of fun a b h Bl F p _ _ _ => ⟨[], ⟨p.1.rd, rfl⟩, .of (List.nil_sublist _)⟩)
theorem PuX.kis {e : Mi (List PV)} {f : Di (List D)} {m : Md} (h : PuX κ [] e f (PL m)) (hm : m ≠ .rd := by decide) : PuX κ [] e f (PKs .im) := h.lents hm
/-- a step that tells what is to be walked -/
theorem op_src {α α' : Type} {P : Rel α α'} {k : Kd} {c : α → HS → R Src} {f : α' → Option (List D)} (hk : ∀ a b h (B : Nat → Prop) F ds, P a b h B F → f b = some ds → ∃ src, c a h = .ok src h ∧ Ows h (BK k (fun _ => True) B) src.items ds [] ∧ (∀ h', Kp h h' → src.guard h') ∧ (k = .im → ∀ h', h.length ≤ h'.length → (∀ n, 2 ≤ n → B n → h'[n]? = h[n]?) → src.guard h')) : Op P (PI k) c (dO f) := by
  intro a b g h Bl F gr p nd nb lt
  unfold dO
  cases e : f b with
  | none => trivial
  | some d =>
    obtain ⟨v, e1, q, s, t⟩ := hk a b h Bl F d p e
    exact ⟨v, h, e1, Bl, [], .refl, gr, fun _ z => z, fun _ z => .inl z, List.nodup_nil, fun n z => absurd z List.not_mem_nil, fun n z => absurd z List.not_mem_nil, q, rfl, s, t⟩
/-- a row stays a row, as long as its place isn't written -/
theorem seq_src {k : Kd} {h : HS} {B : Nat → Prop} {v : PV} {d : D} {ds : List D} (r : Ow h (BK k (fun _ => True) B) v d []) (e : d.seq = some ds) : ∃ vs, seqOf h v = some vs ∧ Ows h (BK k (fun _ => True) B) vs ds [] ∧ (∀ h', Kp h h' → seqOf h' v = some vs) ∧ (k = .im → ∀ h', h.length ≤ h'.length → (∀ n, 2 ≤ n → B n → h'[n]? = h[n]?) → seqOf h' v = some vs) := by
  generalize hF : ([] : List Nat) = F0 at r
  cases r with
  | tup r => cases e; subst hF; exact ⟨_, rfl, r, fun _ _ => rfl, fun _ _ _ _ => rfl⟩
  | bor h2 g r b =>
    cases e
    refine ⟨_, by rw [seqOf_ref, g], r, fun h' kp => ?_, fun hk h' hl q => ?_⟩
    · rw [seqOf_ref, kp.eq _ h2 (get_lt g), g]
    · subst hk
      rw [seqOf_ref, q _ h2 b, g]
  | own => cases hF
  | _ => cases e
theorem pi_seq {k : Kd} {e : Mi PV} {f : Di D} (h : PuX κ S e f (PK k)) : PuX κ S (m1 srcOf e) (d1 (dO D.seq) f) (PI k) := h.map (op_src fun a b h B F ds p e => by
  obtain ⟨vs, e1, r, s1, s2⟩ := seq_src p.1 e
  exact ⟨⟨vs, fun h' => seqOf h' a = some vs⟩, by simp only [srcOf, e1], r, s1, s2⟩)
theorem ows2 {vs : List PV} {d e : D} {h : HS} {B : Nat → Prop} (r : Ows h B vs [d, e] []) : ∃ v w, vs = [v, w] ∧ Ow h B v d [] ∧ Ow h B w e [] := by
  generalize hF : ([] : List Nat) = F0 at r
  cases r with
  | cons r t =>
    cases t with
    | cons r2 t =>
      cases t
      obtain ⟨rfl, h2⟩ := nil_app hF.symm
      obtain ⟨rfl, _⟩ := nil_app h2
      exact ⟨_, _, rfl, r, r2⟩
theorem ows1 {vs : List PV} {d : D} {h : HS} {B : Nat → Prop} (r : Ows h B vs [d] []) : ∃ v, vs = [v] ∧ Ow h B v d [] := by
  generalize hF : ([] : List Nat) = F0 at r
  cases r with
  | cons r t =>
    cases t
    obtain ⟨rfl, h2⟩ := nil_app hF.symm
    exact ⟨_, rfl, r⟩
@[simp] def zipT : List D → Option (List D)
  | [x, y] => match x.seq, y.seq with
    | some xs, some ys => some (List.zipWith (fun a b => .tup [a, b]) xs ys)
    | _, _ => none
  | _ => none
theorem Ows.zip {h : HS} {B : Nat → Prop} : ∀ {vs ws : List PV} {ds es : List D}, Ows h B vs ds [] → Ows h B ws es [] → Ows h B (List.zipWith pairP vs ws) (List.zipWith (fun a b => .tup [a, b]) ds es) []
  | [], _, ds, es, r, q => by
    cases r
    exact .nil
  | v :: vs, [], ds, es, r, q => by
    cases q
    cases ds <;> exact .nil
  | v :: vs, w :: ws, ds, es, r, q => by
    generalize hF : ([] : List Nat) = F0 at r
    cases r with
    | cons r t =>
      obtain ⟨rfl, rfl⟩ := nil_app hF.symm
      generalize hG : ([] : List Nat) = G0 at q
      cases q with
      | cons r2 t2 =>
        obtain ⟨rfl, rfl⟩ := nil_app hG.symm
        exact .cons (F := []) (.tup (.cons (F := []) r (.cons (F := []) r2 .nil))) (Ows.zip t t2)
theorem pi_zip {k : Kd} {e : Mi (List PV)} {f : Di (List D)} (h : PuX κ S e f (PKs k)) : PuX κ S (m1 zipS e) (d1 (dO zipT) f) (PI k) := h.map (op_src fun a b h B F ds p e => by
  unfold zipT at e
  split at e
  · rename_i x y
    split at e
    · rename_i xs ys e1 e2
      cases e
      obtain ⟨v, w, rfl, r1, r2⟩ := ows2 p.1
      obtain ⟨vs, g1, q1, s1, t1⟩ := seq_src r1 e1
      obtain ⟨ws, g2, q2, s2, t2⟩ := seq_src r2 e2
      exact ⟨⟨List.zipWith pairP vs ws, fun h' => seqOf h' v = some vs ∧ seqOf h' w = some ws⟩, by simp only [zipS, g1, g2], q1.zip q2, fun h' kp => ⟨s1 h' kp, s2 h' kp⟩, fun hk h' hl q => ⟨t1 hk h' hl q, t2 hk h' hl q⟩⟩
    · cases e
  · cases e)
def enumL (i : Nat) : List D → List D
  | [] => []
  | x :: xs => .tup [.int (i : Int), x] :: enumL (i + 1) xs
@[simp] def enumT : List D → Option (List D)
  | [x] => x.seq.map (enumL 0)
  | _ => none
theorem Ows.enum {h : HS} {B : Nat → Prop} : ∀ {vs : List PV} {ds : List D} (i : Nat), Ows h B vs ds [] → Ows h B (enumP i vs) (enumL i ds) []
  | [], ds, i, r => by
    cases r
    exact .nil
  | v :: vs, ds, i, r => by
    generalize hF : ([] : List Nat) = F0 at r
    cases r with
    | cons r t =>
      obtain ⟨rfl, rfl⟩ := nil_app hF.symm
      exact .cons (F := []) (.tup (.cons (F := []) (.int _) (.cons (F := []) r .nil))) (Ows.enum (i + 1) t)
theorem pi_enum {k : Kd} {e : Mi (List PV)} {f : Di (List D)} (h : PuX κ S e f (PKs k)) : PuX κ S (m1 enumS e) (d1 (dO enumT) f) (PI k) := h.map (op_src fun a b h B F ds p e => by
  unfold enumT at e
  split at e
  · rename_i x
    simp only [Option.map_eq_some_iff] at e
    obtain ⟨xs, e1, rfl⟩ := e
    obtain ⟨v, rfl, r1⟩ := ows1 p.1
    obtain ⟨vs, g1, q1, s1, t1⟩ := seq_src r1 e1
    exact ⟨⟨enumP 0 vs, fun h' => seqOf h' v = some vs⟩, by simp only [enumS, g1], q1.enum 0, s1, t1⟩
  · cases e)
def rngL (lo : Int) (n : Nat) : List D := (List.range n).map fun (k : Nat) => D.int (lo + (k : Int))
theorem ows_rng {h : HS} {B : Nat → Prop} (lo : Int) (n : Nat) : Ows h B (rngP lo n) (rngL lo n) [] := by
  unfold rngP rngL
  induction List.range n with
  | nil => exact .nil
  | cons k ks ih => exact .cons (F := []) (.int _) ih
/-- a bound that no simp looks into -/
def big : Int := 2 ^ 62
noncomputable def rng1T : List D → Option (List D)
  | [.int j] => @ite _ (j < 2 ^ 62 ∧ -(2 ^ 62) ≤ j) (Classical.propDecidable _) (some (rngL 0 j.toNat)) none
  | _ => none
noncomputable def rng2T : List D → Option (List D)
  | [.int i, .int j] => @ite _ (-(2 ^ 62) ≤ i ∧ i < 2 ^ 62 ∧ -(2 ^ 62) ≤ j ∧ j < 2 ^ 62) (Classical.propDecidable _) (some (rngL i (j - i).toNat)) none
  | _ => none
theorem pi_range1 {k : Kd} {e : Mi (List PV)} {f : Di (List D)} (h : PuX κ S e f (PL .rd)) : PuX κ S (m1 rng1 e) (d1 (dO rng1T) f) (PI k) := h.map (op_src fun a b h B F ds p e => by
  unfold rng1T at e
  split at e
  · rename_i j
    split at e
    · cases e
      rename_i hc
      obtain ⟨v, rfl, q⟩ := args1 p
      rw [(int_of q).1]
      refine ⟨⟨rngP 0 j.toNat, fun _ => True⟩, ?_, ows_rng _ _, fun _ _ => trivial, fun _ _ _ _ => trivial⟩
      unfold rng1
      exact if_pos hc
    · cases e
  · cases e)
theorem pi_range2 {k : Kd} {e : Mi (List PV)} {f : Di (List D)} (h : PuX κ S e f (PL .rd)) : PuX κ S (m1 rng2 e) (d1 (dO rng2T) f) (PI k) := h.map (op_src fun a b h B F ds p e => by
  unfold rng2T at e
  split at e
  · rename_i i j
    split at e
    · cases e
      rename_i hc
      obtain ⟨v, w, rfl, q1, q2⟩ := args2 p
      rw [(int_of q1).1, (int_of q2).1]
      refine ⟨⟨rngP i (j - i).toNat, fun _ => True⟩, ?_, ows_rng _ _, fun _ _ => trivial, fun _ _ _ _ => trivial⟩
      unfold rng2
      exact if_pos hc
    · cases e
  · cases e)
end
/-! ### comprehensions -/
def lcD (g : D → Dn → Option Dn) (t : Di Bool) (e : Di D) (η : Dn) : List D → G → Option (List D × G)
  | [], g0 => some ([], g0)
  | x :: xs, g0 => (g x η).bind fun η1 => match t η1 g0 with
    | .ok c g1 => if c = true then (match e η1 g1 with
      | .ok v g2 => (lcD g t e η xs g2).map fun r => (v :: r.1, r.2)
      | _ => none) else lcD g t e η xs g1
    | _ => none
def lcEndD (r : Option (List D × G)) : Rd D := match r with
  | some (vs, g) => if vs.length ≤ 16777216 then .ok (.lst vs) g else .no
  | none => .no
def dLc (it : Di (List D)) (is : List Nat) (g : D → Dn → Option Dn) (t : Di Bool) (e : Di D) (η : Dn) (g0 : G) : Rd D := (it η g0).bind fun ds g1 => lcEndD (lcD g t e (wipeD η is) ds g1)
def dYes : Di Bool := fun _ g => .ok true g
theorem pt_yes {κ : List Kd} : PuX κ [] mYes dYes PE := ⟨fun {Bz η g Pt Bl Fs ρ h} s => ⟨true, h, rfl, Bl, [], .refl, s.gr, fun _ z => z, fun _ z => .inl z, List.nodup_nil, fun n z => absurd z List.not_mem_nil, fun n z => absurd z List.not_mem_nil, rfl, rfl⟩⟩
theorem Stt.slots {Bz : Nat → Prop} {κ κ' : List Kd} {η η' : Dn} {g : G} {Pt Bl : Nat → Prop} {Fs Fs' : List (List Nat)} {ρ ρ' : Pn} {h : HS} (s : Stt Bz κ η g Pt Bl Fs ρ h) (q : Sls h Pt Bl κ' η' Fs' ρ') (l : Fs'.flatten.Sublist Fs.flatten) : Stt Bz κ' η' g Pt Bl Fs' ρ' h :=
  ⟨s.gr, q, s.nd.sublist l, fun n z => s.fl n (l.subset z), s.pt, s.bl, s.bz⟩
theorem BK.up {k : Kd} {Pt Pt' B B' : Nat → Prop} (p : ∀ n, Pt n → Pt' n) (b : ∀ n, B n → B' n) : ∀ n, BK k Pt B n → BK k Pt' B' n := by
  cases k with
  | im => exact b
  | lk => exact p
  | _ => exact fun n z => z
theorem lc_pu {Bz : Nat → Prop} {κ κ' : List Kd} {k : Kd} {m : Md} {g : Mg} {gd : D → Dn → Option Dn} {t : Mi Bool} {ft : Di Bool} {e : Mi PV} {fe : Di D} (hk : k = .im ∨ k = .rk) (hm : m ≠ .rd) (hg : PuG k κ κ' g gd) (ht : PuX κ' [] t ft PE) (he : PuX κ' [] e fe (PR m)) {guard : HS → Prop} {η : Dn} {ρ : Pn} {Fs : List (List Nat)} :
    ∀ {items : List PV} {ds : List D} {g0 : G} {Pt Bl : Nat → Prop} {h : HS}, Stt Bz κ η g0 Pt Bl Fs ρ h → Ows h (BK k (fun _ => True) Bl) items ds [] → (∀ h', Kp h h' → guard h') → match lcD gd ft fe η ds g0 with
      | none => True
      | some (vs, g') => ∃ ws h', lcGo guard g t e ρ items h = some (ws, h') ∧ ∃ Bl' F', Aft g' Bl (fun _ => False) h h' (PL m ws vs) Bl' F' := by
  intro items
  induction items with
  | nil =>
    intro ds g0 Pt Bl h s r gu
    cases r
    simp only [lcD]
    exact ⟨[], h, lcGo_nil (gu h .refl), Bl, [], .refl, s.gr, fun _ z => z, fun _ z => .inl z, List.nodup_nil, fun n z => absurd z List.not_mem_nil, fun n z => absurd z List.not_mem_nil, .nil, fun _ => rfl⟩
  | cons x items ih =>
    intro ds g0 Pt Bl h s r gu
    generalize hF : ([] : List Nat) = F0 at r
    cases r with
    | @cons _ d _ ds F1 F2 r tl =>
      obtain ⟨rfl, rfl⟩ := nil_app hF.symm
      simp only [lcD]
      have r' : Ow h (BK k Pt Bl) x d [] := by
        rcases hk with rfl | rfl
        · exact r
        · exact r
      have h1 := hg.run s.sl r'
      cases e1 : gd d η with
      | none => trivial
      | some η1 =>
        rw [e1] at h1
        obtain ⟨ρ1, Fs1, e2, s1, l1⟩ := h1
        have s2 := s.slots s1 l1
        simp only [Option.bind]
        rw [lcGo_cons (gu h .refl), e2]
        simp only [R.thenO_ok]
        have h2 := ht.run s2
        cases e3 : ft η1 g0 with
        | no => trivial
        | ex c g' => trivial
        | ok c g1 =>
          rw [e3] at h2
          obtain ⟨c', h2', e4, Bl2, F2, a2⟩ := h2
          obtain ⟨hc, hF2⟩ := a2.val
          subst hc
          rw [e4]
          simp only [R.thenO_ok]
          have s3 := s2.step a2
          have s3' := s.step a2
          cases c' with
          | false =>
            simp only [if_false, Bool.false_eq_true]
            have h4 := ih s3' ((tl.kp a2.kp).up (BK.up (fun _ z => z) a2.up)) (fun h' kp => gu h' (a2.kp.trans kp))
            cases e5 : lcD gd ft fe η ds g1 with
            | none => trivial
            | some q =>
              obtain ⟨vs, g'⟩ := q
              rw [e5] at h4
              obtain ⟨ws, h', e6, Bl', F', a⟩ := h4
              refine ⟨ws, h', e6, Bl', F', a2.kp.trans a.kp, a.gr, fun n z => a.up n (a2.up n z), fun n z => ?_, a.nd, a.nb, fun n z => .inr (Nat.le_trans a2.kp.le ((a.fr n z).resolve_left id)), a.val⟩
              rcases a.dn n z with z | z
              · rcases a2.dn n z with z | z
                · exact .inl z
                · exact .inr ⟨z.1, Nat.lt_of_lt_of_le z.2 a.kp.le⟩
              · exact .inr ⟨Nat.le_trans a2.kp.le z.1, z.2⟩
          | true =>
            simp only [if_true]
            have h3 := he.run s3
            cases e5 : fe η1 g1 with
            | no => trivial
            | ex c g' => trivial
            | ok v g2 =>
              rw [e5] at h3
              obtain ⟨w, h3', e6, Bl3, F3, a3⟩ := h3
              have s4 := s3'.step a3
              have h4 := ih s4 (((tl.kp a2.kp).kp a3.kp).up (BK.up (fun _ z => z) fun n z => a3.up n (a2.up n z))) (fun h' kp => gu h' ((a2.kp.trans a3.kp).trans kp))
              rw [e6]
              simp only [R.thenO_ok]
              cases e7 : lcD gd ft fe η ds g2 with
              | none => trivial
              | some q =>
                obtain ⟨vs, g'⟩ := q
                rw [e7] at h4
                obtain ⟨ws, h', e8, Bl', F', a⟩ := h4
                have kp3 : Kp h h' := (a2.kp.trans a3.kp).trans a.kp
                have f3 : ∀ n ∈ F3, h2'.length ≤ n ∧ n < h3'.length := fun n z => ⟨(a3.fr n z).resolve_left sown_of, (a3.val.1.lt n z).2⟩
                have f4 : ∀ n ∈ F', h3'.length ≤ n := fun n z => (a.fr n z).resolve_left id
                refine ⟨w :: ws, h', by rw [e8]; rfl, Bl', F3 ++ F', kp3, a.gr, fun n z => a.up n (a3.up n (a2.up n z)), fun n z => ?_, List.nodup_append.mpr ⟨a3.nd, a.nd, fun x hx y hy e => ?_⟩, fun n z q => ?_, fun n z => .inr ?_, .cons ((a3.val.1.kp a.kp).up (BM.up a.up)) a.val.1, fun hm' => absurd hm' hm⟩
                · rcases a.dn n z with z | z
                  · rcases a3.dn n z with z | z
                    · rcases a2.dn n z with z | z
                      · exact .inl z
                      · exact .inr ⟨z.1, Nat.lt_of_lt_of_le z.2 (Nat.le_trans a3.kp.le a.kp.le)⟩
                    · exact .inr ⟨Nat.le_trans a2.kp.le z.1, Nat.lt_of_lt_of_le z.2 a.kp.le⟩
                  · exact .inr ⟨Nat.le_trans (Nat.le_trans a2.kp.le a3.kp.le) z.1, z.2⟩
                · subst e
                  have := f3 x hx
                  have := f4 x hy
                  omega
                · rcases List.mem_append.mp z with z | z
                  · rcases a.dn n q with q | q
                    · exact a3.nb n z q
                    · have := f3 n z
                      omega
                  · exact a.nb n z q
                · rcases List.mem_append.mp z with z | z
                  · exact Nat.le_trans a2.kp.le (f3 n z).1
                  · exact Nat.le_trans (Nat.le_trans a2.kp.le a3.kp.le) (f4 n z)
theorem pe_lcN {κ κ' : List Kd} {k : Kd} {m : Md} {it : Mi Src} {fi : Di (List D)} {is : List Nat} {g : Mg} {gd : D → Dn → Option Dn} {t : Mi Bool} {ft : Di Bool} {e : Mi PV} {fe : Di D} (hi : PuX κ [] it fi (PI k)) (hg : PuG k κ κ' g gd) (ht : PuX κ' [] t ft PE) (he : PuX κ' [] e fe (PR m)) (hk : k = .im ∨ k = .rk := by decide) (hm : m ≠ .rd := by decide) :
    PuX κ [] (mLc it is g t e) (dLc fi is gd ft fe) (PN m) := by
  refine ⟨fun {Bz η g0 Pt Bl Fs ρ h} s => ?_⟩
  have h1 := hi.run s
  unfold dLc mLc
  cases e1 : fi η g0 with
  | no => trivial
  | ex c g' =>
    rw [e1] at h1
    obtain ⟨c', h', e2, k1, k2, k3⟩ := h1
    exact ⟨c', h', by rw [e2]; rfl, k1, k2, k3⟩
  | ok ds g1 =>
    rw [e1] at h1
    obtain ⟨src, h1', e2, Bl1, F1, a1⟩ := h1
    obtain ⟨q1, _, q3, _⟩ := a1.val
    have s1 := s.step a1
    obtain ⟨Fs2, s2, l2⟩ := s1.sl.wipe is
    have s3 := s1.slots s2 l2
    have h2 := lc_pu hk hm hg ht he s3 q1 q3
    simp only [Rd.bind]
    rw [e2]
    simp only [R.bind_ok]
    cases e3 : lcD gd ft fe (wipeD η is) ds g1 with
    | none => trivial
    | some q =>
      obtain ⟨vs, g'⟩ := q
      rw [e3] at h2
      obtain ⟨ws, h2', e4, Bl2, F2, a2⟩ := h2
      rw [e4]
      simp only [lcEndD, lcEnd_some, dLst]
      rw [a2.val.1.length]
      by_cases hl : vs.length ≤ 16777216
      · rw [if_pos hl, if_pos hl]
        have two := a2.gr.two
        have f2 : ∀ n ∈ F2, h1'.length ≤ n ∧ n < h2'.length := fun n z => ⟨(a2.fr n z).resolve_left id, (a2.val.1.lt n z).2⟩
        have b2 : ∀ n, Bl2 n → n < h2'.length := fun n z => (a2.dn n z).elim (fun z => Nat.lt_of_lt_of_le (s1.pt n (.inr z)) a2.kp.le) (·.2)
        refine ⟨_, _, rfl, Bl2, h2'.length :: F2, (a1.kp.trans a2.kp).trans .app, a2.gr.app, fun n z => a2.up n (a1.up n z), fun n z => ?_, List.nodup_cons.mpr ⟨fun z => ?_, a2.nd⟩, fun n z q => ?_, fun n z => .inr ?_, ⟨.own two (by simp) (owk_old a2.val.1), fun z => absurd z hm⟩, _, _, rfl, rfl⟩
        · have hlen : h2'.length ≤ (h2' ++ [HB.lst ws]).length := by simp
          rcases a2.dn n z with z | z
          · rcases a1.dn n z with z | z
            · exact .inl z
            · exact .inr ⟨z.1, Nat.lt_of_lt_of_le z.2 (Nat.le_trans a2.kp.le hlen)⟩
          · exact .inr ⟨Nat.le_trans a1.kp.le z.1, Nat.lt_of_lt_of_le z.2 hlen⟩
        · have := (f2 _ z).2
          omega
        · rcases List.mem_cons.mp z with rfl | z
          · have := b2 _ q
            omega
          · exact a2.nb n z q
        · rcases List.mem_cons.mp z with rfl | z
          · exact Nat.le_trans a1.kp.le a2.kp.le
          · exact Nat.le_trans a1.kp.le (f2 n z).1
      · rw [if_neg hl]
        trivial
theorem pe_lc {κ κ' : List Kd} {k : Kd} {m : Md} {it : Mi Src} {fi : Di (List D)} {is : List Nat} {g : Mg} {gd : D → Dn → Option Dn} {t : Mi Bool} {ft : Di Bool} {e : Mi PV} {fe : Di D} (hi : PuX κ [] it fi (PI k)) (hg : PuG k κ κ' g gd) (ht : PuX κ' [] t ft PE) (he : PuX κ' [] e fe (PR m)) (hk : k = .im ∨ k = .rk := by decide) (hm : m ≠ .rd := by decide) :
    PuX κ [] (mLc it is g t e) (dLc fi is gd ft fe) (PR m) := (pe_lcN hi hg ht he hk hm).pr
end Lt
namespace Lt
open PySem L2
/-! ### statements -/
structure Fm (Pt : Nat → Prop) (h h' : HS) : Prop where
  le : h.length ≤ h'.length
  eq : ∀ n, 2 ≤ n → Pt n → h'[n]? = h[n]?
theorem Fm.refl {Pt : Nat → Prop} {h : HS} : Fm Pt h h := ⟨Nat.le_refl _, fun _ _ _ => rfl⟩
theorem Fm.trans {Pt Pt' : Nat → Prop} {a b c : HS} (x : Fm Pt a b) (p : ∀ n, Pt n → Pt' n) (y : Fm Pt' b c) : Fm Pt a c := ⟨Nat.le_trans x.le y.le, fun n h2 hp => by rw [y.eq n h2 (p n hp), x.eq n h2 hp]⟩
theorem Kp.fm {Pt : Nat → Prop} {h h' : HS} (k : Kp h h') (p : ∀ n, Pt n → n < h.length) : Fm Pt h h' := ⟨k.le, fun n h2 hp => k.eq n h2 (p n hp)⟩
def Nx (Bz : Nat → Prop) (κ' : List Kd) (η' : Dn) (g' : G) (Pt Bl : Nat → Prop) (ρ' : Pn) (h h' : HS) : Prop := ∃ Pt' Bl' Fs', Stt Bz κ' η' g' Pt' Bl' Fs' ρ' h' ∧ (∀ n, Pt n → Pt' n) ∧ (∀ n, Bl n → Bl' n) ∧ Fm Pt h h'
def RtOk (rm : Md) (Bz Pt : Nat → Prop) (v : PV) (d : D) (h' : HS) : Prop := match rm with
  | .fr => ∃ F, Ow h' BF v d F ∧ F.Nodup ∧ ∀ n ∈ F, ¬ Pt n
  | _ => Ow h' Bz v d []
theorem RtOk.less {rm : Md} {Bz Pt Pt' : Nat → Prop} {v : PV} {d : D} {h' : HS} (r : RtOk rm Bz Pt' v d h') (p : ∀ n, Pt n → Pt' n) : RtOk rm Bz Pt v d h' := by
  cases rm with
  | fr =>
    obtain ⟨F, a, b, c⟩ := r
    exact ⟨F, a, b, fun n z q => c n z (p n q)⟩
  | _ => exact r
structure PuS (rm : Md) (κb κ κ' : List Kd) (s : Ms) (f : Ds) : Prop where
  run : ∀ {Bz : Nat → Prop} {η : Dn} {g : G} {Pt Bl : Nat → Prop} {Fs : List (List Nat)} {ρ : Pn} {h : HS}, Stt Bz κ η g Pt Bl Fs ρ h → match f η g with
    | .nx η' g' => ∃ ρ' h', s ρ h = .nx ρ' h' ∧ Nx Bz κ' η' g' Pt Bl ρ' h h'
    | .bk η' g' => ∃ ρ' h', s ρ h = .bk ρ' h' ∧ Nx Bz κb η' g' Pt Bl ρ' h h'
    | .ct η' g' => ∃ ρ' h', s ρ h = .ct ρ' h' ∧ Nx Bz κb η' g' Pt Bl ρ' h h'
    | .rt d g' => ∃ v h', s ρ h = .rt v h' ∧ Fm Pt h h' ∧ GR g' h' ∧ RtOk rm Bz Pt v d h'
    | .ex c g' => ∃ c' ρ' h', s ρ h = .ex c' ρ' h' ∧ Fm Pt h h' ∧ GR g' h' ∧ XR h' c' c
    | .no => True
def SD.seq (r : SD) (b : Ds) : SD := match r with
  | .nx η g => b η g
  | r => r
def SD.loop (r : SD) (k : Ds) : SD := match r with
  | .nx η g => k η g
  | .ct η g => k η g
  | .bk η g => .nx η g
  | .rt v g => .rt v g
  | .ex e g => .ex e g
  | .no => .no
def Rd.bindS {α : Type} (r : Rd α) (f : α → G → SD) : SD := match r with
  | .ok a g => f a g
  | .ex e g => .ex e g
  | .no => .no
def dSkip : Ds := fun η g => .nx η g
def dSeq (a b : Ds) : Ds := fun η g => (a η g).seq b
def dRet (a : Di D) : Ds := fun η g => (a η g).bindS fun v g1 => .rt v g1
def dDrop (a : Di D) : Ds := fun η g => (a η g).bindS fun _ g1 => .nx η g1
def dIfS (t : Di Bool) (a b : Ds) : Ds := fun η g => (t η g).bindS fun c g1 => if c = true then a η g1 else b η g1
def dBrk : Ds := fun η g => .bk η g
def dCnt : Ds := fun η g => .ct η g
def forD (gd : D → Dn → Option Dn) (b : Ds) : List D → Ds
  | [], η, g => .nx η g
  | x :: xs, η, g => match gd x η with
    | some η1 => (b η1 g).loop (forD gd b xs)
    | none => .no
def dFor (it : Di (List D)) (gd : D → Dn → Option Dn) (b : Ds) : Ds := fun η g => (it η g).bindS fun ds g1 => forD gd b ds η g1
def dAsg (a : Di D) (gd : D → Dn → Option Dn) : Ds := fun η g => (a η g).bindS fun v g1 => match gd v η with
  | some η' => .nx η' g1
  | none => .no
def dWhileN (c : Di Bool) (b : Ds) : Nat → Ds
  | 0, _, _ => .no
  | n + 1, η, g => (c η g).bindS fun k g1 => if k = true then (b η g1).loop (dWhileN c b n) else .nx η g1
open Classical in
noncomputable def dWhile (c : Di Bool) (b : Ds) : Ds := fun η g => if e : ∃ n, dWhileN c b n η g ≠ .no then dWhileN c b e.choose η g else .no
section
variable {rm : Md} {κb κ κ1 κ' : List Kd} {S : List Nat}
theorem Stt.nx {Bz : Nat → Prop} {η : Dn} {g : G} {Pt Bl : Nat → Prop} {Fs : List (List Nat)} {ρ : Pn} {h : HS} (s : Stt Bz κ η g Pt Bl Fs ρ h) : Nx Bz κ η g Pt Bl ρ h h := ⟨Pt, Bl, Fs, s, fun _ z => z, fun _ z => z, .refl⟩
theorem Nx.from {Bz : Nat → Prop} {η : Dn} {g : G} {Pt Bl Pt' Bl' : Nat → Prop} {ρ : Pn} {h h1 h' : HS} (n : Nx Bz κ η g Pt' Bl' ρ h1 h') (p : ∀ n, Pt n → Pt' n) (b : ∀ n, Bl n → Bl' n) (f : Fm Pt h h1) : Nx Bz κ η g Pt Bl ρ h h' := by
  obtain ⟨P2, B2, F2, s, p2, b2, f2⟩ := n
  exact ⟨P2, B2, F2, s, fun n z => p2 n (p n z), fun n z => b2 n (b n z), f.trans p f2⟩
theorem ps_skip : PuS rm κb κ κ mSkip dSkip := ⟨fun {Bz η g Pt Bl Fs ρ h} s => ⟨ρ, h, rfl, s.nx⟩⟩
theorem ps_brk : PuS rm κ κ κ mBrk dBrk := ⟨fun {Bz η g Pt Bl Fs ρ h} s => ⟨ρ, h, rfl, s.nx⟩⟩
theorem ps_cnt : PuS rm κ κ κ mCnt dCnt := ⟨fun {Bz η g Pt Bl Fs ρ h} s => ⟨ρ, h, rfl, s.nx⟩⟩
/-- one behind another -/
theorem ps_seq {a b : Ms} {fa fb : Ds} (ha : PuS rm κb κ κ1 a fa) (hb : PuS rm κb κ1 κ' b fb) : PuS rm κb κ κ' (mSeq a b) (dSeq fa fb) := by
  refine ⟨fun {Bz η g Pt Bl Fs ρ h} s => ?_⟩
  have h1 := ha.run s
  unfold dSeq mSeq
  cases e1 : fa η g with
  | no => trivial
  | rt d g' => rw [e1] at h1; obtain ⟨v, h', e2, r⟩ := h1; exact ⟨v, h', by rw [e2]; rfl, r⟩
  | ex c g' => rw [e1] at h1; obtain ⟨v, ρ', h', e2, r⟩ := h1; exact ⟨v, ρ', h', by rw [e2]; rfl, r⟩
  | bk η' g' => rw [e1] at h1; obtain ⟨v, h', e2, r⟩ := h1; exact ⟨v, h', by rw [e2]; rfl, r⟩
  | ct η' g' => rw [e1] at h1; obtain ⟨v, h', e2, r⟩ := h1; exact ⟨v, h', by rw [e2]; rfl, r⟩
  | nx η1 g1 =>
    rw [e1] at h1
    obtain ⟨ρ1, h1', e2, P1, B1, F1, s1, p1, b1, f1⟩ := h1
    have h2 := hb.run s1
    simp only [SD.seq]
    rw [e2]
    simp only [SR.seq]
    cases e3 : fb η1 g1 with
    | no => trivial
    | rt d g' => rw [e3] at h2; obtain ⟨v, h', e4, r1, r2, r3⟩ := h2; exact ⟨v, h', e4, f1.trans p1 r1, r2, r3.less p1⟩
    | ex c g' => rw [e3] at h2; obtain ⟨v, ρ', h', e4, r1, r2, r3⟩ := h2; exact ⟨v, ρ', h', e4, f1.trans p1 r1, r2, r3⟩
    | bk η' g' => rw [e3] at h2; obtain ⟨v, h', e4, r⟩ := h2; exact ⟨v, h', e4, r.from p1 b1 f1⟩
    | ct η' g' => rw [e3] at h2; obtain ⟨v, h', e4, r⟩ := h2; exact ⟨v, h', e4, r.from p1 b1 f1⟩
    | nx η' g' => rw [e3] at h2; obtain ⟨v, h', e4, r⟩ := h2; exact ⟨v, h', e4, r.from p1 b1 f1⟩
theorem ps_ret {e : Mi PV} {f : Di D} (he : PuX κ S e f (PR .fr)) : PuS .fr κb κ κ' (mRet e) (dRet f) := by
  refine ⟨fun {Bz η g Pt Bl Fs ρ h} s => ?_⟩
  have h1 := he.run s
  unfold dRet mRet
  cases e1 : f η g with
  | no => trivial
  | ex c g' =>
    rw [e1] at h1
    obtain ⟨c', h', e2, k1, k2, k3⟩ := h1
    exact ⟨c', ρ, h', by rw [e2]; rfl, k1.fm s.pt, k2, k3⟩
  | ok d g1 =>
    rw [e1] at h1
    obtain ⟨v, h', e2, Bl', F, a⟩ := h1
    refine ⟨v, h', by rw [e2]; rfl, a.kp.fm s.pt, a.gr, F, a.val.1, a.nd, fun n z q => ?_⟩
    rcases a.fr n z with ⟨i, hi, m⟩ | z
    · refine s.fl n ?_ q
      rw [List.getD_eq_getElem?_getD] at m
      cases e4 : Fs[i]? with
      | none => rw [e4] at m; exact absurd m List.not_mem_nil
      | some X => rw [e4] at m; exact List.mem_flatten.mpr ⟨X, List.mem_of_getElem? e4, m⟩
    · have := s.pt n q
      omega
theorem ps_retB {e : Mi PV} {f : Di D} {m : Md} (he : PuX κ S e f (PR m)) (hm : m ≠ .rd := by decide) : PuS .bo κb κ κ' (mRet e) (dRet f) := by
  refine ⟨fun {Bz η g Pt Bl Fs ρ h} s => ?_⟩
  have h1 := he.run s
  unfold dRet mRet
  cases e1 : f η g with
  | no => trivial
  | ex c g' =>
    rw [e1] at h1
    obtain ⟨c', h', e2, k1, k2, k3⟩ := h1
    exact ⟨c', ρ, h', by rw [e2]; rfl, k1.fm s.pt, k2, k3⟩
  | ok d g1 =>
    rw [e1] at h1
    obtain ⟨v, h', e2, Bl', F, a⟩ := h1
    refine ⟨v, h', by rw [e2]; rfl, a.kp.fm s.pt, a.gr, a.val.1.lend (fun n z => ?_) fun n z => ?_⟩
    · have s1 := s.step a
      cases m with
      | rd => exact absurd rfl hm
      | bo => exact (s1.bl n z).2
      | fr => exact z.elim
    · refine s.bz n fun q => ?_
      rcases a.fr n z with ⟨i, hi, m⟩ | z
      · refine s.fl n ?_ q
        rw [List.getD_eq_getElem?_getD] at m
        cases e4 : Fs[i]? with
        | none => rw [e4] at m; exact absurd m List.not_mem_nil
        | some X => rw [e4] at m; exact List.mem_flatten.mpr ⟨X, List.mem_of_getElem? e4, m⟩
      · have := s.pt n q
        omega
theorem ps_drop {e : Mi PV} {f : Di D} {P : Rel PV D} (he : PuX κ S e f P) : PuS rm κb κ κ (mDrop e) (dDrop f) := by
  refine ⟨fun {Bz η g Pt Bl Fs ρ h} s => ?_⟩
  have h1 := he.run s
  unfold dDrop mDrop
  cases e1 : f η g with
  | no => trivial
  | ex c g' =>
    rw [e1] at h1
    obtain ⟨c', h', e2, k1, k2, k3⟩ := h1
    exact ⟨c', ρ, h', by rw [e2]; rfl, k1.fm s.pt, k2, k3⟩
  | ok d g1 =>
    rw [e1] at h1
    obtain ⟨v, h', e2, Bl', F, a⟩ := h1
    exact ⟨ρ, h', by rw [e2]; rfl, _, _, _, s.step a, fun _ => .inl, a.up, a.kp.fm s.pt⟩
theorem ps_if {t : Mi Bool} {ft : Di Bool} {a b : Ms} {fa fb : Ds} (ht : PuX κ [] t ft PE) (ha : PuS rm κb κ κ' a fa) (hb : PuS rm κb κ κ' b fb) : PuS rm κb κ κ' (mIfS t a b) (dIfS ft fa fb) := by
  refine ⟨fun {Bz η g Pt Bl Fs ρ h} s => ?_⟩
  have h1 := ht.run s
  unfold dIfS mIfS
  cases e1 : ft η g with
  | no => trivial
  | ex c g' =>
    rw [e1] at h1
    obtain ⟨c', h', e2, k1, k2, k3⟩ := h1
    exact ⟨c', ρ, h', by rw [e2]; rfl, k1.fm s.pt, k2, k3⟩
  | ok d g1 =>
    rw [e1] at h1
    obtain ⟨v, h1', e2, Bl', F, a1⟩ := h1
    have hv := a1.val.1
    subst hv
    have s1 := s.step a1
    simp only [Rd.bindS]
    rw [e2]
    simp only [R.bindS]
    have key : ∀ {c : Ms} {fc : Ds}, PuS rm κb κ κ' c fc → match fc η g1 with
      | .nx η' g' => ∃ ρ' h', c ρ h1' = .nx ρ' h' ∧ Nx Bz κ' η' g' Pt Bl ρ' h h'
      | .bk η' g' => ∃ ρ' h', c ρ h1' = .bk ρ' h' ∧ Nx Bz κb η' g' Pt Bl ρ' h h'
      | .ct η' g' => ∃ ρ' h', c ρ h1' = .ct ρ' h' ∧ Nx Bz κb η' g' Pt Bl ρ' h h'
      | .rt d g' => ∃ v h', c ρ h1' = .rt v h' ∧ Fm Pt h h' ∧ GR g' h' ∧ RtOk rm Bz Pt v d h'
      | .ex e g' => ∃ c' ρ' h', c ρ h1' = .ex c' ρ' h' ∧ Fm Pt h h' ∧ GR g' h' ∧ XR h' c' e
      | .no => True := fun {c fc} hc => by
      have h2 := hc.run s1
      have f1 : Fm Pt h h1' := a1.kp.fm s.pt
      have p1 : ∀ n, Pt n → (Pt n ∨ Bl' n) := fun _ => .inl
      cases e3 : fc η g1 with
      | no => trivial
      | rt d g' => rw [e3] at h2; obtain ⟨v, h', e4, r1, r2, r3⟩ := h2; exact ⟨v, h', e4, f1.trans p1 r1, r2, r3.less p1⟩
      | ex c g' => rw [e3] at h2; obtain ⟨v, ρ', h', e4, r1, r2, r3⟩ := h2; exact ⟨v, ρ', h', e4, f1.trans p1 r1, r2, r3⟩
      | bk η' g' => rw [e3] at h2; obtain ⟨v, h', e4, r⟩ := h2; exact ⟨v, h', e4, r.from p1 a1.up f1⟩
      | ct η' g' => rw [e3] at h2; obtain ⟨v, h', e4, r⟩ := h2; exact ⟨v, h', e4, r.from p1 a1.up f1⟩
      | nx η' g' => rw [e3] at h2; obtain ⟨v, h', e4, r⟩ := h2; exact ⟨v, h', e4, r.from p1 a1.up f1⟩
    cases v with
    | true => simp only [if_true]; exact key ha
    | false => simp only [if_false, Bool.false_eq_true]; exact key hb
/-! loops -/
theorem for_pu {g : Mg} {gd : D → Dn → Option Dn} {b : Ms} {fb : Ds} (hg : PuG .im κ κ1 g gd) (hb : PuS rm κ κ1 κ b fb) {guard : HS → Prop} {Bz : Nat → Prop} :
    ∀ {items : List PV} {ds : List D} {η : Dn} {g0 : G} {Pt Bl : Nat → Prop} {Fs : List (List Nat)} {ρ : Pn} {h : HS}, Stt Bz κ η g0 Pt Bl Fs ρ h → Ows h Bl items ds [] → (∀ h', Fm Pt h h' → guard h') → match forD gd fb ds η g0 with
      | .nx η' g' => ∃ ρ' h', forGo guard g b items ρ h = .nx ρ' h' ∧ Nx Bz κ η' g' Pt Bl ρ' h h'
      | .bk η' g' => False
      | .ct η' g' => False
      | .rt d g' => ∃ v h', forGo guard g b items ρ h = .rt v h' ∧ Fm Pt h h' ∧ GR g' h' ∧ RtOk rm Bz Pt v d h'
      | .ex c g' => ∃ c' ρ' h', forGo guard g b items ρ h = .ex c' ρ' h' ∧ Fm Pt h h' ∧ GR g' h' ∧ XR h' c' c
      | .no => True := by
  intro items
  induction items with
  | nil =>
    intro ds η g0 Pt Bl Fs ρ h s r gu
    cases r
    exact ⟨ρ, h, forGo_nil (gu h .refl), s.nx⟩
  | cons x items ih =>
    intro ds η g0 Pt Bl Fs ρ h s r gu
    generalize hF : ([] : List Nat) = F0 at r
    cases r with
    | @cons _ d _ ds F1 F2 r tl =>
      obtain ⟨rfl, rfl⟩ := nil_app hF.symm
      simp only [forD]
      have h1 := hg.run s.sl r
      cases e1 : gd d η with
      | none => trivial
      | some η1 =>
        rw [e1] at h1
        obtain ⟨ρ1, Fs1, e2, s1, l1⟩ := h1
        have h2 := hb.run (s.slots s1 l1)
        rw [forGo_cons (gu h .refl), e2]
        simp only [R.thenS_ok]
        have go : ∀ {η2 : Dn} {g2 : G} {ρ2 : Pn} {h2 : HS}, Nx Bz κ η2 g2 Pt Bl ρ2 h h2 → match forD gd fb ds η2 g2 with
          | .nx η' g' => ∃ ρ' h', forGo guard g b items ρ2 h2 = .nx ρ' h' ∧ Nx Bz κ η' g' Pt Bl ρ' h h'
          | .bk η' g' => False
          | .ct η' g' => False
          | .rt d g' => ∃ v h', forGo guard g b items ρ2 h2 = .rt v h' ∧ Fm Pt h h' ∧ GR g' h' ∧ RtOk rm Bz Pt v d h'
          | .ex c g' => ∃ c' ρ' h', forGo guard g b items ρ2 h2 = .ex c' ρ' h' ∧ Fm Pt h h' ∧ GR g' h' ∧ XR h' c' c
          | .no => True := fun {η2 g2 ρ2 h2} nx => by
          obtain ⟨P2, B2, F2, s2, p2, b2, f2⟩ := nx
          have h3 := ih s2 (tl.mv (fun n o h2' e q => by rw [f2.eq n h2' ((s.bl n (q.resolve_right List.not_mem_nil)).1)]; exact e) b2) (fun h' fm => gu h' (f2.trans p2 fm))
          cases e3 : forD gd fb ds η2 g2 with
          | no => trivial
          | bk η' g' => rw [e3] at h3; exact h3
          | ct η' g' => rw [e3] at h3; exact h3
          | rt d g' => rw [e3] at h3; obtain ⟨v, h', e4, r1, r2, r3⟩ := h3; exact ⟨v, h', e4, f2.trans p2 r1, r2, r3.less p2⟩
          | ex c g' => rw [e3] at h3; obtain ⟨v, ρ', h', e4, r1, r2, r3⟩ := h3; exact ⟨v, ρ', h', e4, f2.trans p2 r1, r2, r3⟩
          | nx η' g' => rw [e3] at h3; obtain ⟨v, h', e4, r⟩ := h3; exact ⟨v, h', e4, r.from p2 b2 f2⟩
        cases e3 : fb η1 g0 with
        | no => trivial
        | rt d g' => rw [e3] at h2; obtain ⟨v, h', e4, r⟩ := h2; rw [e4]; exact ⟨v, h', rfl, r⟩
        | ex c g' => rw [e3] at h2; obtain ⟨v, ρ', h', e4, r⟩ := h2; rw [e4]; exact ⟨v, ρ', h', rfl, r⟩
        | bk η' g' => rw [e3] at h2; obtain ⟨v, h', e4, r⟩ := h2; rw [e4]; exact ⟨v, h', rfl, r⟩
        | ct η' g' => rw [e3] at h2; obtain ⟨v, h', e4, r⟩ := h2; rw [e4]; exact go r
        | nx η' g' => rw [e3] at h2; obtain ⟨v, h', e4, r⟩ := h2; rw [e4]; exact go r
theorem ps_for {it : Mi Src} {fi : Di (List D)} {g : Mg} {gd : D → Dn → Option Dn} {b : Ms} {fb : Ds} (hi : PuX κ [] it fi (PI .im)) (hg : PuG .im κ κ1 g gd) (hb : PuS rm κ κ1 κ b fb) : PuS rm κb κ κ (mFor it g b) (dFor fi gd fb) := by
  refine ⟨fun {Bz η g0 Pt Bl Fs ρ h} s => ?_⟩
  have h1 := hi.run s
  unfold dFor mFor
  cases e1 : fi η g0 with
  | no => trivial
  | ex c g' =>
    rw [e1] at h1
    obtain ⟨c', h', e2, k1, k2, k3⟩ := h1
    exact ⟨c', ρ, h', by rw [e2]; rfl, k1.fm s.pt, k2, k3⟩
  | ok ds g1 =>
    rw [e1] at h1
    obtain ⟨src, h1', e2, Bl', F, a1⟩ := h1
    obtain ⟨q1, _, q3, q4⟩ := a1.val
    have s1 := s.step a1
    have f1 : Fm Pt h h1' := a1.kp.fm s.pt
    have p1 : ∀ n, Pt n → (Pt n ∨ Bl' n) := fun _ => .inl
    have h2 := for_pu hg hb s1 (guard := src.guard) q1 (fun h' fm => q4 rfl h' fm.le fun n h2 z => fm.eq n h2 (.inr z))
    simp only [Rd.bindS]
    rw [e2]
    simp only [R.bindS]
    cases e3 : forD gd fb ds η g1 with
    | no => trivial
    | rt d g' => rw [e3] at h2; obtain ⟨v, h', e4, r1, r2, r3⟩ := h2; exact ⟨v, h', e4, f1.trans p1 r1, r2, r3.less p1⟩
    | ex c g' => rw [e3] at h2; obtain ⟨v, ρ', h', e4, r1, r2, r3⟩ := h2; exact ⟨v, ρ', h', e4, f1.trans p1 r1, r2, r3⟩
    | bk η' g' => rw [e3] at h2; exact h2.elim
    | ct η' g' => rw [e3] at h2; exact h2.elim
    | nx η' g' => rw [e3] at h2; obtain ⟨v, h', e4, r⟩ := h2; exact ⟨v, h', e4, r.from p1 a1.up f1⟩
theorem while_pu {c : Mi Bool} {fc : Di Bool} {b : Ms} {fb : Ds} (hc : PuX κ [] c fc PE) (hb : PuS rm κ κ κ b fb) : ∀ n, PuS rm κb κ κ (whileN c b n) (dWhileN fc fb n)
  | 0 => ⟨fun {Bz η g0 Pt Bl Fs ρ h} s => trivial⟩
  | n + 1 => by
    have ih := while_pu hc hb n
    refine ⟨fun {Bz η g0 Pt Bl Fs ρ h} s => ?_⟩
    have h1 := hc.run s
    simp only [dWhileN, whileN]
    cases e1 : fc η g0 with
    | no => trivial
    | ex c g' =>
      rw [e1] at h1
      obtain ⟨c', h', e2, k1, k2, k3⟩ := h1
      exact ⟨c', ρ, h', by rw [e2]; rfl, k1.fm s.pt, k2, k3⟩
    | ok k g1 =>
      rw [e1] at h1
      obtain ⟨v, h1', e2, Bl', F, a1⟩ := h1
      have hv := a1.val.1
      subst hv
      have s1 := s.step a1
      have f1 : Fm Pt h h1' := a1.kp.fm s.pt
      have p1 : ∀ n, Pt n → (Pt n ∨ Bl' n) := fun _ => .inl
      simp only [Rd.bindS]
      rw [e2]
      simp only [R.bindS]
      cases v with
      | false =>
        simp only [if_false, Bool.false_eq_true]
        exact ⟨ρ, h1', rfl, s1.nx.from p1 a1.up f1⟩
      | true =>
        simp only [if_true]
        have h2 := hb.run s1
        have go : ∀ {η2 : Dn} {g2 : G} {ρ2 : Pn} {h2 : HS}, Nx Bz κ η2 g2 (fun n => Pt n ∨ Bl' n) Bl' ρ2 h1' h2 → match dWhileN fc fb n η2 g2 with
          | .nx η' g' => ∃ ρ' h', whileN c b n ρ2 h2 = .nx ρ' h' ∧ Nx Bz κ η' g' Pt Bl ρ' h h'
          | .bk η' g' => ∃ ρ' h', whileN c b n ρ2 h2 = .bk ρ' h' ∧ Nx Bz κb η' g' Pt Bl ρ' h h'
          | .ct η' g' => ∃ ρ' h', whileN c b n ρ2 h2 = .ct ρ' h' ∧ Nx Bz κb η' g' Pt Bl ρ' h h'
          | .rt d g' => ∃ v h', whileN c b n ρ2 h2 = .rt v h' ∧ Fm Pt h h' ∧ GR g' h' ∧ RtOk rm Bz Pt v d h'
          | .ex e g' => ∃ c' ρ' h', whileN c b n ρ2 h2 = .ex c' ρ' h' ∧ Fm Pt h h' ∧ GR g' h' ∧ XR h' c' e
          | .no => True := fun {η2 g2 ρ2 h2} nx => by
          obtain ⟨P2, B2, F2, s2, p2, b2, f2⟩ := nx
          have h3 := ih.run s2
          have f3 := f1.trans p1 f2
          have p3 : ∀ n, Pt n → P2 n := fun n z => p2 n (p1 n z)
          have b3 : ∀ n, Bl n → B2 n := fun n z => b2 n (a1.up n z)
          cases e3 : dWhileN fc fb n η2 g2 with
          | no => trivial
          | rt d g' => rw [e3] at h3; obtain ⟨v, h', e4, r1, r2, r3⟩ := h3; exact ⟨v, h', e4, f3.trans p3 r1, r2, r3.less p3⟩
          | ex c g' => rw [e3] at h3; obtain ⟨v, ρ', h', e4, r1, r2, r3⟩ := h3; exact ⟨v, ρ', h', e4, f3.trans p3 r1, r2, r3⟩
          | bk η' g' => rw [e3] at h3; obtain ⟨v, h', e4, r⟩ := h3; exact ⟨v, h', e4, r.from p3 b3 f3⟩
          | ct η' g' => rw [e3] at h3; obtain ⟨v, h', e4, r⟩ := h3; exact ⟨v, h', e4, r.from p3 b3 f3⟩
          | nx η' g' => rw [e3] at h3; obtain ⟨v, h', e4, r⟩ := h3; exact ⟨v, h', e4, r.from p3 b3 f3⟩
        cases e3 : fb η g1 with
        | no => trivial
        | rt d g' => rw [e3] at h2; obtain ⟨v, h', e4, r1, r2, r3⟩ := h2; rw [e4]; exact ⟨v, h', rfl, f1.trans p1 r1, r2, r3.less p1⟩
        | ex c g' => rw [e3] at h2; obtain ⟨v, ρ', h', e4, r1, r2, r3⟩ := h2; rw [e4]; exact ⟨v, ρ', h', rfl, f1.trans p1 r1, r2, r3⟩
        | bk η' g' => rw [e3] at h2; obtain ⟨v, h', e4, r⟩ := h2; rw [e4]; exact ⟨v, h', rfl, r.from p1 a1.up f1⟩
        | ct η' g' => rw [e3] at h2; obtain ⟨v, h', e4, r⟩ := h2; rw [e4]; exact go r
        | nx η' g' => rw [e3] at h2; obtain ⟨v, h', e4, r⟩ := h2; rw [e4]; exact go r
theorem ps_while {c : Mi Bool} {fc : Di Bool} {b : Ms} {fb : Ds} (hc : PuX κ [] c fc PE) (hb : PuS rm κ κ κ b fb) : PuS rm κb κ κ (mWhile c b) (dWhile fc fb) := by
  refine ⟨fun {Bz η g0 Pt Bl Fs ρ h} s => ?_⟩
  unfold dWhile
  by_cases ex : ∃ n, dWhileN fc fb n η g0 ≠ .no
  · rw [dif_pos ex]
    generalize ex.choose = n
    have h1 := (while_pu (rm := rm) (κb := κb) hc hb n).run s
    cases r : dWhileN fc fb n η g0 with
    | no => trivial
    | rt d g' => rw [r] at h1; obtain ⟨ρ', h', e2, q⟩ := h1; exact ⟨ρ', h', mWhile_of e2 (by simp), q⟩
    | ex c g' => rw [r] at h1; obtain ⟨c', ρ', h', e2, q⟩ := h1; exact ⟨c', ρ', h', mWhile_of e2 (by simp), q⟩
    | bk η' g' => rw [r] at h1; obtain ⟨ρ', h', e2, q⟩ := h1; exact ⟨ρ', h', mWhile_of e2 (by simp), q⟩
    | ct η' g' => rw [r] at h1; obtain ⟨ρ', h', e2, q⟩ := h1; exact ⟨ρ', h', mWhile_of e2 (by simp), q⟩
    | nx η' g' => rw [r] at h1; obtain ⟨ρ', h', e2, q⟩ := h1; exact ⟨ρ', h', mWhile_of e2 (by simp), q⟩
  · rw [dif_neg ex]
    trivial
end
end Lt
namespace Lt
open PySem L2
mutual
theorem Ow.cap {h : HS} {B : Nat → Prop} : ∀ {v : PV} {d : D} {F : List Nat}, Ow h B v d F → Ow h (fun n => B n ∧ n < h.length) v d F
  | _, _, _, .non => .non
  | _, _, _, .bl b => .bl b
  | _, _, _, .int b => .int b
  | _, _, _, .str b => .str b
  | _, _, _, .ty b => .ty b
  | _, _, _, .stt => .stt
  | _, _, _, .tup r => .tup (Ows.cap r)
  | _, _, _, .bor h2 e r q => .bor h2 e (Ows.cap r) ⟨q, get_lt e⟩
  | _, _, _, .own h2 e r => .own h2 e (Ows.cap r)
  | _, _, _, .borD h2 e r q => .borD h2 e (OwK.cap r) ⟨q, get_lt e⟩
  | _, _, _, .ownD h2 e r => .ownD h2 e (OwK.cap r)
theorem Ows.cap {h : HS} {B : Nat → Prop} : ∀ {v : List PV} {d : List D} {F : List Nat}, Ows h B v d F → Ows h (fun n => B n ∧ n < h.length) v d F
  | _, _, _, .nil => .nil
  | _, _, _, .cons r t => .cons (Ow.cap r) (Ows.cap t)
theorem OwK.cap {h : HS} {B : Nat → Prop} : ∀ {v : List (Key × PV)} {d : List (Key × D)} {F : List Nat}, OwK h B v d F → OwK h (fun n => B n ∧ n < h.length) v d F
  | _, _, _, .nil => .nil
  | _, _, _, .cons r t => .cons (Ow.cap r) (OwK.cap t)
end
section
variable {rm : Md} {κb κ κ1 κ' : List Kd} {S : List Nat}
/-! ### names written -/
theorem Stt.own_new {Bz : Nat → Prop} {η : Dn} {g : G} {Pt Bl : Nat → Prop} {Fs : List (List Nat)} {F : List Nat} {ρ : Pn} {h : HS} {k : Kd} {d : D} {v : PV} (s : Stt Bz κ η g Pt Bl Fs ρ h) (i : Nat) (q : Sl h Pt Bl k (some d) F (some v)) (nd : F.Nodup) (np : ∀ n ∈ F, ¬ Pt n) (nf : ∀ n ∈ F, n ∉ Fs.flatten) :
    Stt Bz (κ.set i k) (η.set i (some d)) g Pt Bl (Fs.set i F) (ρ.set i (some v)) h where
  gr := s.gr
  sl := s.sl.set q i
  nd := (flat_setF Fs i F).nd (List.nodup_append.mpr ⟨s.nd, nd, fun x hx y hy e => nf y hy (e ▸ hx)⟩)
  fl := fun n hn => (List.mem_append.mp ((flat_setF Fs i F).sub n hn)).elim (s.fl n) (np n)
  pt := s.pt
  bl := s.bl
  bz := s.bz
theorem asg_pu {e : Mi PV} {f : Di D} {P : Rel PV D} {k : Kd} {i : Nat} (he : PuX κ [] e f P) (q : ∀ {v d h Pt Bl F}, P v d h Bl F → Sl h Pt Bl k (some d) F (some v)) : PuS rm κb κ (κ.set i k) (mAsg e (gNm i)) (dAsg f (tNm i)) := by
  refine ⟨fun {Bz η g Pt Bl Fs ρ h} s => ?_⟩
  have h1 := he.run s
  unfold dAsg mAsg
  cases e1 : f η g with
  | no => trivial
  | ex c g' =>
    rw [e1] at h1
    obtain ⟨c', h', e2, k1, k2, k3⟩ := h1
    exact ⟨c', ρ, h', by rw [e2]; rfl, k1.fm s.pt, k2, k3⟩
  | ok d g1 =>
    rw [e1] at h1
    obtain ⟨v, h', e2, Bl', F, a⟩ := h1
    have s1 := s.step a
    have fr : ∀ n ∈ F, h.length ≤ n := fun n z => (a.fr n z).resolve_left sown_of
    refine ⟨ρ.set i (some v), h', by rw [e2]; rfl, _, _, _, s1.own_new i (q a.val) a.nd (fun n z p => ?_) (fun n z p => ?_), fun _ => .inl, a.up, a.kp.fm s.pt⟩
    · rcases p with p | p
      · have := s.pt n p
        have := fr n z
        omega
      · exact a.nb n z p
    · have := (s.sl.lt n p).2
      have := fr n z
      omega
theorem sa_im {e : Mi PV} {f : Di D} {m : Md} {i : Nat} (he : PuX κ [] e f (PR m)) (hm : m ≠ .rd := by decide) : PuS rm κb κ (κ.set i .im) (mAsg e (gNm i)) (dAsg f (tNm i)) := asg_pu (he.lent hm) fun {v d h Pt Bl F} p => by
  obtain ⟨r, rfl⟩ := p
  exact .im r
theorem sa_tr {e : Mi PV} {f : Di D} {i : Nat} (he : PuX κ [] e f (PR .fr)) : PuS rm κb κ (κ.set i .tr) (mAsg e (gNm i)) (dAsg f (tNm i)) := asg_pu he fun {v d h Pt Bl F} p => .tr p.1
theorem sa_sp {e : Mi PV} {f : Di D} {i : Nat} (he : PuX κ [] e f (PN .bo)) : PuS rm κb κ (κ.set i .sp) (mAsg e (gNm i)) (dAsg f (tNm i)) := asg_pu he fun {v d h Pt Bl F} p => .sp p.1.1 fun _ _ => p.2
/-- a tuple of names, all lent -/
theorem sa_tup {e : Mi PV} {f : Di D} {m : Md} {g : Mg} {gd : D → Dn → Option Dn} (he : PuX κ [] e f (PR m)) (hg : PuG .im κ κ' g gd) (hm : m ≠ .rd := by decide) : PuS rm κb κ κ' (mAsg e g) (dAsg f gd) := by
  refine ⟨fun {Bz η g Pt Bl Fs ρ h} s => ?_⟩
  have h1 := (he.lent hm).run s
  unfold dAsg mAsg
  cases e1 : f η g with
  | no => trivial
  | ex c g' =>
    rw [e1] at h1
    obtain ⟨c', h', e2, k1, k2, k3⟩ := h1
    exact ⟨c', ρ, h', by rw [e2]; rfl, k1.fm s.pt, k2, k3⟩
  | ok d g1 =>
    rw [e1] at h1
    obtain ⟨v, h', e2, Bl', F, a⟩ := h1
    have s1 := s.step a
    have h2 := hg.run s1.sl a.val.1
    simp only [Rd.bindS]
    cases e3 : gd d η with
    | none => trivial
    | some η' =>
      rw [e3] at h2
      obtain ⟨ρ', Fs', e4, s4, l4⟩ := h2
      exact ⟨ρ', h', by rw [e2]; simp only [R.bindS]; rw [e4]; rfl, _, _, _, s1.slots s4 l4, fun _ => .inl, a.up, a.kp.fm s.pt⟩
/-- two names at once -/
def dPar (i j : Nat) (a : Di (List D)) : Ds := fun η g => (a η g).bindS fun vs g1 => match vs with
  | [v, w] => .nx ((η.set i (some v)).set j (some w)) g1
  | _ => .no
def dPar3 (i j l : Nat) (a : Di (List D)) : Ds := fun η g => (a η g).bindS fun vs g1 => match vs with
  | [u, v, w] => .nx (((η.set i (some u)).set j (some v)).set l (some w)) g1
  | _ => .no
theorem sa_par {a : Mi (List PV)} {f : Di (List D)} {m : Md} {i j : Nat} (k : Kd) (ha : PuX κ [] a f (PL m)) (hm : m = .fr ∧ k = .tr := by decide) : PuS rm κb κ ((κ.set i k).set j k) (mPar i j a) (dPar i j f) := by
  obtain ⟨rfl, rfl⟩ := hm
  refine ⟨fun {Bz η g Pt Bl Fs ρ h} s => ?_⟩
  have h1 := ha.run s
  unfold dPar mPar
  cases e1 : f η g with
  | no => trivial
  | ex c g' =>
    rw [e1] at h1
    obtain ⟨c', h', e2, k1, k2, k3⟩ := h1
    exact ⟨c', ρ, h', by rw [e2]; rfl, k1.fm s.pt, k2, k3⟩
  | ok d g1 =>
    rw [e1] at h1
    obtain ⟨v, h', e2, Bl', F, a⟩ := h1
    have s1 := s.step a
    have fr : ∀ n ∈ F, h.length ≤ n := fun n z => (a.fr n z).resolve_left sown_of
    simp only [Rd.bindS]
    rw [e2]
    simp only [R.bindS]
    obtain ⟨r, _⟩ := a.val
    have np : ∀ n ∈ F, ¬ (Pt n ∨ Bl' n) := fun n z p => by
      rcases p with p | p
      · have := s.pt n p
        have := fr n z
        omega
      · exact a.nb n z p
    have nf : ∀ n ∈ F, n ∉ Fs.flatten := fun n z p => by
      have := (s.sl.lt n p).2
      have := fr n z
      omega
    match d, r with
    | [], .nil => trivial
    | [x], .cons _ .nil => trivial
    | [x, y], .cons (F := F1) r1 (.cons (F := F2) r2 .nil) =>
      have nd := a.nd
      rw [List.append_nil] at *
      obtain ⟨n1, n2, n3⟩ := List.nodup_append.mp nd
      have s2 := s1.own_new i (.tr (Pt := fun n => Pt n ∨ Bl' n) (Bl := Bl') r1) n1 (fun n z => np n (List.mem_append_left _ z)) (fun n z => nf n (List.mem_append_left _ z))
      have s3 := s2.own_new j (.tr (Pt := fun n => Pt n ∨ Bl' n) (Bl := Bl') r2) n2 (fun n z => np n (List.mem_append_right _ z)) (fun n z p => by
        rcases List.mem_append.mp ((flat_setF Fs i F1).sub n p) with p | p
        · exact nf n (List.mem_append_right _ z) p
        · exact n3 n p n z rfl)
      exact ⟨_, h', rfl, _, _, _, s3, fun _ => .inl, a.up, a.kp.fm s.pt⟩
    | _ :: _ :: _ :: _, .cons _ (.cons _ (.cons _ _)) => trivial
theorem sa_parI {a : Mi (List PV)} {f : Di (List D)} {m : Md} {i j : Nat} (ha : PuX κ [] a f (PL m)) (hm : m ≠ .rd := by decide) : PuS rm κb κ ((κ.set i .im).set j .im) (mPar i j a) (dPar i j f) := by
  refine ⟨fun {Bz η g Pt Bl Fs ρ h} s => ?_⟩
  have h1 := (ha.lents hm).run s
  unfold dPar mPar
  cases e1 : f η g with
  | no => trivial
  | ex c g' =>
    rw [e1] at h1
    obtain ⟨c', h', e2, k1, k2, k3⟩ := h1
    exact ⟨c', ρ, h', by rw [e2]; rfl, k1.fm s.pt, k2, k3⟩
  | ok d g1 =>
    rw [e1] at h1
    obtain ⟨v, h', e2, Bl', F, a⟩ := h1
    have s1 := s.step a
    simp only [Rd.bindS]
    rw [e2]
    simp only [R.bindS]
    obtain ⟨r, _⟩ := a.val
    match d, r with
    | [], r => trivial
    | [x], r => trivial
    | [x, y], r =>
      obtain ⟨v1, v2, rfl, r1, r2⟩ := ows2 r
      exact ⟨_, h', rfl, _, _, _, (s1.slots (s1.sl.set (.im r1) i) (flat_set _ _)).slots ((s1.sl.set (.im r1) i).set (.im r2) j) (flat_set _ _), fun _ => .inl, a.up, a.kp.fm s.pt⟩
    | _ :: _ :: _ :: _, r => trivial
theorem ows3 {vs : List PV} {d e f : D} {h : HS} {B : Nat → Prop} (r : Ows h B vs [d, e, f] []) : ∃ u v w, vs = [u, v, w] ∧ Ow h B u d [] ∧ Ow h B v e [] ∧ Ow h B w f [] := by
  generalize hF : ([] : List Nat) = F0 at r
  cases r with
  | cons r t =>
    obtain ⟨rfl, rfl⟩ := nil_app hF.symm
    obtain ⟨v, w, rfl, r1, r2⟩ := ows2 t
    exact ⟨_, _, _, rfl, r, r1, r2⟩
theorem sa_par3I {a : Mi (List PV)} {f : Di (List D)} {m : Md} {i j l : Nat} (ha : PuX κ [] a f (PL m)) (hm : m ≠ .rd := by decide) : PuS rm κb κ (((κ.set i .im).set j .im).set l .im) (mPar3 i j l a) (dPar3 i j l f) := by
  refine ⟨fun {Bz η g Pt Bl Fs ρ h} s => ?_⟩
  have h1 := (ha.lents hm).run s
  unfold dPar3 mPar3
  cases e1 : f η g with
  | no => trivial
  | ex c g' =>
    rw [e1] at h1
    obtain ⟨c', h', e2, k1, k2, k3⟩ := h1
    exact ⟨c', ρ, h', by rw [e2]; rfl, k1.fm s.pt, k2, k3⟩
  | ok d g1 =>
    rw [e1] at h1
    obtain ⟨v, h', e2, Bl', F, a⟩ := h1
    have s1 := s.step a
    simp only [Rd.bindS]
    rw [e2]
    simp only [R.bindS]
    obtain ⟨r, _⟩ := a.val
    match d, r with
    | [], r => trivial
    | [x], r => trivial
    | [x, y], r => trivial
    | [x, y, z], r =>
      obtain ⟨v1, v2, v3, rfl, r1, r2, r3⟩ := ows3 r
      have t1 := s1.slots (s1.sl.set (.im r1) i) (flat_set _ _)
      have t2 := t1.slots (t1.sl.set (.im r2) j) (flat_set _ _)
      exact ⟨_, h', rfl, _, _, _, t2.slots (t2.sl.set (.im r3) l) (flat_set _ _), fun _ => .inl, a.up, a.kp.fm s.pt⟩
    | _ :: _ :: _ :: _ :: _, r => trivial
theorem mAug_eq (i : Nat) (f : PV → PV → HS → R PV) (a : Mi PV) : mAug i f a = mAsg (m2 f (mVar i) a) (gNm i) := by
  funext ρ h
  unfold mAug mAsg m2 mVar
  cases e : ρ[i]? with
  | none => rfl
  | some o =>
    cases o with
    | none => rfl
    | some x =>
      simp only [R.bind_ok]
      cases a ρ h with
      | ok y h1 =>
        simp only [R.bind_ok, R.bindS]
        cases f x y h1 <;> rfl
      | ex c h1 => rfl
      | no => rfl
theorem sa_aug {i : Nat} {f : PV → PV → HS → R PV} {a : Mi PV} {s : Ds} (h : PuS rm κb κ κ' (mAsg (m2 f (mVar i) a) (gNm i)) s) : PuS rm κb κ κ' (mAug i f a) s := by
  rw [mAug_eq]
  exact h
/-! ### what is known of a slot, made less -/
theorem Sls.at {h : HS} {Pt Bl : Nat → Prop} {κ : List Kd} {η : Dn} {Fs : List (List Nat)} {ρ : Pn} (s : Sls h Pt Bl κ η Fs ρ) : ∀ {i : Nat} {k : Kd}, κ[i]? = some k → ∃ x F y, η[i]? = some x ∧ Fs[i]? = some F ∧ ρ[i]? = some y ∧ Sl h Pt Bl k x F y := by
  induction s with
  | nil => intro i k e; simp at e
  | cons s t ih =>
    intro i k e
    cases i with
    | zero => simp at e; subst e; exact ⟨_, _, _, rfl, rfl, rfl, s⟩
    | succ i => exact ih (by simpa using e)
theorem set_same {α : Type} {xs : List α} {i : Nat} {x : α} (e : xs[i]? = some x) : xs.set i x = xs := by
  obtain ⟨hl, e⟩ := List.getElem?_eq_some_iff.mp e
  rw [← e]
  exact List.set_getElem_self hl
theorem flat_rest {Fs : List (List Nat)} : ∀ {i : Nat} {X : List Nat}, Fs.flatten.Nodup → Fs[i]? = some X → ∀ x ∈ X, x ∉ (Fs.set i []).flatten := by
  induction Fs with
  | nil => intro i X nd e; simp at e
  | cons F Fs ih =>
    intro i X nd e x hx hm
    rw [List.flatten_cons] at nd
    obtain ⟨n1, n2, n3⟩ := List.nodup_append.mp nd
    cases i with
    | zero =>
      simp at e
      subst e
      simp only [List.set_cons_zero, List.flatten_cons, List.nil_append] at hm
      exact n3 x hx x hm rfl
    | succ i =>
      simp only [List.getElem?_cons_succ] at e
      simp only [List.set_cons_succ, List.flatten_cons] at hm
      rcases List.mem_append.mp hm with hm | hm
      · exact n3 x hm x (List.mem_flatten.mpr ⟨X, List.mem_of_getElem? e, hx⟩) rfl
      · exact ih n2 e x hx hm
theorem Stt.wkI {Bz : Nat → Prop} {η : Dn} {g : G} {Pt Bl : Nat → Prop} {Fs : List (List Nat)} {ρ : Pn} {h : HS} {k : Kd} {i : Nat} (s : Stt Bz κ η g Pt Bl Fs ρ h) (hi : κ[i]? = some k) (hk : k = .tr ∨ k = .sp) :
    Nx Bz (κ.set i .im) η g Pt Bl ρ h h := by
  obtain ⟨x, F, y, e1, e2, e3, q⟩ := s.sl.at hi
  have hF : ∀ n ∈ F, n ∈ Fs.flatten := fun n z => List.mem_flatten.mpr ⟨F, List.mem_of_getElem? e2, z⟩
  have q' : Sl h (fun n => Pt n ∨ n ∈ F) (fun n => Bl n ∨ n ∈ F) .im x [] y := by
    rcases hk with rfl | rfl
    · cases q with
      | un => exact .un _ _
      | tr r => exact .im (r.lend (fun n z => z.elim) fun n z => .inr z)
    · cases q with
      | un => exact .un _ _
      | sp r o => exact .im (r.lend (fun n z => .inl z) fun n z => .inr z)
  have s2 := (s.sl.up (Pt' := fun n => Pt n ∨ n ∈ F) (Bl' := fun n => Bl n ∨ n ∈ F) .refl (fun n z => .inl z) (fun n z => .inl z)).set q' i
  rw [set_same e1, set_same e3] at s2
  refine ⟨_, _, _, ⟨s.gr, s2, s.nd.sublist (flat_set _ _), fun n z p => ?_, fun n z => ?_, fun n z => ?_, fun n z => s.bz n fun p => z (.inl p)⟩, fun n z => .inl z, fun n z => .inl z, .refl⟩
  · rcases p with p | p
    · exact s.fl n ((flat_set _ _).subset z) p
    · exact flat_rest s.nd e2 n p z
  · rcases z with z | z
    · exact s.pt n z
    · exact (s.sl.lt n (hF n z)).2
  · rcases z with z | z
    · exact ⟨.inl (s.bl n z).1, (s.bl n z).2⟩
    · exact ⟨.inr z, s.bz n (s.fl n (hF n z))⟩
theorem Stt.wkX {Bz : Nat → Prop} {η : Dn} {g : G} {Pt Bl : Nat → Prop} {Fs : List (List Nat)} {ρ : Pn} {h : HS} {k : Kd} {i : Nat} (s : Stt Bz κ η g Pt Bl Fs ρ h) (hi : κ[i]? = some k) : Nx Bz (κ.set i .xx) η g Pt Bl ρ h h := by
  obtain ⟨x, F, y, e1, e2, e3, q⟩ := s.sl.at hi
  have s2 := s.sl.set (.xx (h := h) (Pt := Pt) (Bl := Bl) x y) i
  rw [set_same e1, set_same e3] at s2
  exact ⟨_, _, _, s.slots s2 (flat_set _ _), fun _ z => z, fun _ z => z, .refl⟩
theorem Stt.wkS {Bz : Nat → Prop} {η : Dn} {g : G} {Pt Bl : Nat → Prop} {Fs : List (List Nat)} {ρ : Pn} {h : HS} {i : Nat} (s : Stt Bz κ η g Pt Bl Fs ρ h) (hi : κ[i]? = some .tr) : Nx Bz (κ.set i .sp) η g Pt Bl ρ h h := by
  obtain ⟨x, F, y, e1, e2, e3, q⟩ := s.sl.at hi
  have q' : Sl h Pt Bl .sp x F y := by
    cases q with
    | un => exact .un _ _
    | tr r =>
      refine .sp (r.up fun n z => z.elim) fun ds e => ?_
      subst e
      cases r with
      | bor _ _ _ b => exact b.elim
      | own _ _ _ => exact ⟨_, _, rfl, rfl⟩
  have s2 := s.sl.set q' i
  rw [set_same e1, set_same e3, set_same e2] at s2
  exact ⟨_, _, _, ⟨s.gr, s2, s.nd, s.fl, s.pt, s.bl, s.bz⟩, fun _ z => z, fun _ z => z, .refl⟩
theorem ps_pre {s : Ms} {f : Ds} (w : ∀ {Bz η g Pt Bl Fs ρ h}, Stt Bz κ η g Pt Bl Fs ρ h → Nx Bz κ1 η g Pt Bl ρ h h) (hs : PuS rm κb κ1 κ' s f) : PuS rm κb κ κ' s f := by
  refine ⟨fun {Bz η g Pt Bl Fs ρ h} s0 => ?_⟩
  obtain ⟨P1, B1, F1, s1, p1, b1, f1⟩ := w s0
  have h2 := hs.run s1
  cases e3 : f η g with
  | no => trivial
  | rt d g' => rw [e3] at h2; obtain ⟨v, h', e4, r1, r2, r3⟩ := h2; exact ⟨v, h', e4, f1.trans p1 r1, r2, r3.less p1⟩
  | ex c g' => rw [e3] at h2; obtain ⟨v, ρ', h', e4, r1, r2, r3⟩ := h2; exact ⟨v, ρ', h', e4, f1.trans p1 r1, r2, r3⟩
  | bk η' g' => rw [e3] at h2; obtain ⟨v, h', e4, r⟩ := h2; exact ⟨v, h', e4, r.from p1 b1 f1⟩
  | ct η' g' => rw [e3] at h2; obtain ⟨v, h', e4, r⟩ := h2; exact ⟨v, h', e4, r.from p1 b1 f1⟩
  | nx η' g' => rw [e3] at h2; obtain ⟨v, h', e4, r⟩ := h2; exact ⟨v, h', e4, r.from p1 b1 f1⟩
theorem ps_post {s : Ms} {f : Ds} (hs : PuS rm κb κ κ1 s f) (w : ∀ {Bz η g Pt Bl Fs ρ h}, Stt Bz κ1 η g Pt Bl Fs ρ h → Nx Bz κ' η g Pt Bl ρ h h) : PuS rm κb κ κ' s f := by
  refine ⟨fun {Bz η g Pt Bl Fs ρ h} s0 => ?_⟩
  have h2 := hs.run s0
  cases e3 : f η g with
  | no => trivial
  | rt d g' => rw [e3] at h2; exact h2
  | ex c g' => rw [e3] at h2; exact h2
  | bk η' g' => rw [e3] at h2; exact h2
  | ct η' g' => rw [e3] at h2; exact h2
  | nx η' g' =>
    rw [e3] at h2
    obtain ⟨v, h', e4, P1, B1, F1, s1, p1, b1, f1⟩ := h2
    exact ⟨v, h', e4, (w s1).from p1 b1 f1⟩
theorem wk_im (i : Nat) {s : Ms} {f : Ds} {k : Kd} (hs : PuS rm κb (κ.set i .im) κ' s f) (hi : κ[i]? = some k := by rfl) (hk : k = .tr ∨ k = .sp := by decide) : PuS rm κb κ κ' s f := ps_pre (fun s => s.wkI hi hk) hs
theorem wk_xx (i : Nat) {s : Ms} {f : Ds} {k : Kd} (hs : PuS rm κb (κ.set i .xx) κ' s f) (hi : κ[i]? = some k := by rfl) : PuS rm κb κ κ' s f := ps_pre (fun s => s.wkX hi) hs
theorem wk_sp (i : Nat) {s : Ms} {f : Ds} (hs : PuS rm κb (κ.set i .sp) κ' s f) (hi : κ[i]? = some .tr := by rfl) : PuS rm κb κ κ' s f := ps_pre (fun s => s.wkS hi) hs
theorem wp_im (i : Nat) {s : Ms} {f : Ds} {k : Kd} (hs : PuS rm κb κ κ1 s f) (hi : κ1[i]? = some k := by rfl) (hk : k = .tr ∨ k = .sp := by decide) : PuS rm κb κ (κ1.set i .im) s f := ps_post hs (fun s => s.wkI hi hk)
theorem wp_xx (i : Nat) {s : Ms} {f : Ds} {k : Kd} (hs : PuS rm κb κ κ1 s f) (hi : κ1[i]? = some k := by rfl) : PuS rm κb κ (κ1.set i .xx) s f := ps_post hs (fun s => s.wkX hi)
theorem wp_sp (i : Nat) {s : Ms} {f : Ds} (hs : PuS rm κb κ κ1 s f) (hi : κ1[i]? = some .tr := by rfl) : PuS rm κb κ (κ1.set i .sp) s f := ps_post hs (fun s => s.wkS hi)
/-! ### defs -/
def SD.ret (r : SD) : Rd D := match r with
  | .nx _ g => .ok .non g
  | .rt v g => .ok v g
  | .ex e g => .ex e g
  | _ => .no
def dDef (n r : Nat) (f : Ds) (xs : List D) (g : G) : Rd D := if xs.length = n then (f (xs.map some ++ List.replicate r none) g).ret else .no
theorem sls_args {h : HS} {Pt Bl : Nat → Prop} (r : Nat) : ∀ {vs : List PV} {ds : List D}, Ows h Bl vs ds [] → Sls h Pt Bl (List.replicate (ds.length + r) .im) (ds.map some ++ List.replicate r none) (List.replicate (ds.length + r) []) (vs.map some ++ List.replicate r none)
  | [], ds, q => by
    cases q
    show Sls h Pt Bl (List.replicate (0 + r) .im) (List.replicate r none) (List.replicate (0 + r) []) (List.replicate r none)
    rw [Nat.zero_add]
    induction r with
    | zero => exact .nil
    | succ r ih => exact .cons (.un _ _) ih
  | v :: vs, ds, q => by
    generalize hF : ([] : List Nat) = F0 at q
    cases q with
    | @cons _ d _ ds F1 F2 q t =>
      obtain ⟨rfl, rfl⟩ := nil_app hF.symm
      have ih := sls_args (Pt := Pt) r t
      rw [List.length_cons, show ds.length + 1 + r = (ds.length + r) + 1 by omega]
      exact .cons (.im q) ih
theorem flat_nil (n : Nat) : (List.replicate n ([] : List Nat)).flatten = [] := by
  induction n with
  | zero => rfl
  | succ n ih => rw [List.replicate_succ, List.flatten_cons, ih]; rfl
theorem fn_fr {n r : Nat} {b : Ms} {f : Ds} (hb : PuS .fr [] (List.replicate (n + r) .im) κ' b f) : FnF (mDef n r b) (dDef n r f) := by
  intro vs ds g h Bl F gr p nd nb lt
  obtain ⟨q, hF⟩ := p
  have hF := hF rfl
  subst hF
  unfold dDef mDef
  rw [q.length]
  by_cases hn : ds.length = n
  · rw [if_pos hn, if_pos hn]
    have s0 : Stt BT (List.replicate (n + r) .im) (ds.map some ++ List.replicate r none) g (fun n => n < h.length) (fun n => n < h.length) (List.replicate (ds.length + r) []) (vs.map some ++ List.replicate r none) h := by
      refine ⟨gr, ?_, by rw [flat_nil]; exact List.nodup_nil, by rw [flat_nil]; exact fun n z => absurd z List.not_mem_nil, fun n z => z, fun n z => ⟨z, trivial⟩, fun n z => trivial⟩
      have := sls_args (Pt := fun n => n < h.length) r (q.cap.up (B' := fun n => n < h.length) fun n z => z.2)
      rw [hn] at this ⊢
      exact this
    have h1 := hb.run s0
    have kp : ∀ {h'}, Fm (fun n => n < h.length) h h' → Kp h h' := fun fm => ⟨fm.le, fun n h2 hl => fm.eq n h2 hl⟩
    cases e1 : f (ds.map some ++ List.replicate r none) g with
    | no => trivial
    | bk η' g' => trivial
    | ct η' g' => trivial
    | ex c g' =>
      rw [e1] at h1
      obtain ⟨c', ρ', h', e2, k1, k2, k3⟩ := h1
      exact ⟨c', h', by rw [e2]; rfl, kp k1, k2, k3⟩
    | nx η' g' =>
      rw [e1] at h1
      obtain ⟨ρ', h', e2, P1, B1, F1, s1, p1, b1, f1⟩ := h1
      exact ⟨.non, h', by rw [e2]; rfl, Bl, [], kp f1, s1.gr, fun _ z => z, fun _ z => .inl z, List.nodup_nil, fun n z => absurd z List.not_mem_nil, fun n z => absurd z List.not_mem_nil, .non, fun _ => rfl⟩
    | rt d g' =>
      rw [e1] at h1
      obtain ⟨v, h', e2, f1, gr', F', r1, r2, r3⟩ := h1
      exact ⟨v, h', by rw [e2]; rfl, Bl, F', kp f1, gr', fun _ z => z, fun _ z => .inl z, r2, fun n z q => r3 n z (lt n q), fun n z => .inr (Nat.le_of_not_lt (r3 n z)), r1, fun z => nomatch z⟩
  · rw [if_neg hn]
    trivial
abbrev FnL (py : List PV → HS → R PV) (d : List D → G → Rd D) : Prop := Op PLents PLent py d
theorem fn_bo {n r : Nat} {b : Ms} {f : Ds} (hb : PuS .bo [] (List.replicate (n + r) .im) κ' b f) : FnL (mDef n r b) (dDef n r f) := by
  intro vs ds g h Bl F gr p nd nb lt
  obtain ⟨q, hF⟩ := p
  subst hF
  unfold dDef mDef
  rw [q.length]
  by_cases hn : ds.length = n
  · rw [if_pos hn, if_pos hn]
    have s0 : Stt (fun n => Bl n ∨ h.length ≤ n) (List.replicate (n + r) .im) (ds.map some ++ List.replicate r none) g (fun n => n < h.length) Bl (List.replicate (ds.length + r) []) (vs.map some ++ List.replicate r none) h := by
      refine ⟨gr, ?_, by rw [flat_nil]; exact List.nodup_nil, by rw [flat_nil]; exact fun n z => absurd z List.not_mem_nil, fun n z => z, fun n z => ⟨lt n z, .inl z⟩, fun n z => .inr (Nat.le_of_not_lt z)⟩
      have := sls_args (Pt := fun n => n < h.length) r q
      rw [hn] at this ⊢
      exact this
    have h1 := hb.run s0
    have kp : ∀ {h'}, Fm (fun n => n < h.length) h h' → Kp h h' := fun fm => ⟨fm.le, fun n h2 hl => fm.eq n h2 hl⟩
    cases e1 : f (ds.map some ++ List.replicate r none) g with
    | no => trivial
    | bk η' g' => trivial
    | ct η' g' => trivial
    | ex c g' =>
      rw [e1] at h1
      obtain ⟨c', ρ', h', e2, k1, k2, k3⟩ := h1
      exact ⟨c', h', by rw [e2]; rfl, kp k1, k2, k3⟩
    | nx η' g' =>
      rw [e1] at h1
      obtain ⟨ρ', h', e2, P1, B1, F1, s1, p1, b1, f1⟩ := h1
      exact ⟨.non, h', by rw [e2]; rfl, Bl, [], kp f1, s1.gr, fun _ z => z, fun _ z => .inl z, List.nodup_nil, fun n z => absurd z List.not_mem_nil, fun n z => absurd z List.not_mem_nil, .non, rfl⟩
    | rt d g' =>
      rw [e1] at h1
      obtain ⟨v, h', e2, f1, gr', r1⟩ := h1
      refine ⟨v, h', by rw [e2]; rfl, fun n => Bl n ∨ (h.length ≤ n ∧ n < h'.length), [], kp f1, gr', fun _ z => .inl z, fun _ z => z, List.nodup_nil, fun n z => absurd z List.not_mem_nil, fun n z => absurd z List.not_mem_nil, r1.cap.up fun n z => ?_, rfl⟩
      exact z.1.imp id fun q => ⟨q, z.2⟩
  · rw [if_neg hn]
    trivial
theorem pe_callL {py : List PV → HS → R PV} {d : List D → G → Rd D} {a : Mi (List PV)} {f : Di (List D)} {m : Md} (hF : FnL py d) (h : PuX κ [] a f (PL m)) (hm : m ≠ .rd := by decide) : PuX κ [] (m1 py a) (d1 d f) (PR .bo) := ((h.lents hm).map hF).conv (Op.id_of fun a b h Bl F p _ _ _ => ⟨[], ⟨p.1, fun z => nomatch z⟩, .of (List.nil_sublist _)⟩)
end
end Lt
namespace Lt
open PySem L2
section
variable {rm : Md} {κb κ κ1 κ' : List Kd} {S : List Nat}
/-! ### lists that are owned, written -/
def BO (k : Kd) (Bl : Nat → Prop) : Nat → Prop := match k with
  | .sp => Bl
  | _ => BF
def MO (k : Kd) : Md := match k with
  | .sp => .bo
  | _ => .fr
theorem BM_MO {k : Kd} {B : Nat → Prop} : BM (MO k) B = BO k B := by cases k <;> rfl
abbrev Own (k : Kd) : Prop := k = .tr ∨ k = .sp
theorem Stt.ownAt {Bz : Nat → Prop} {η : Dn} {g : G} {Pt Bl : Nat → Prop} {Fs : List (List Nat)} {ρ : Pn} {h : HS} {k : Kd} {i : Nat} {ds : List D} (s : Stt Bz κ η g Pt Bl Fs ρ h) (hi : κ[i]? = some k) (hk : Own k) (hd : η[i]? = some (some (.lst ds))) :
    ∃ n vs F, ρ[i]? = some (some (.ref n)) ∧ Fs[i]? = some (n :: F) ∧ h[n]? = some (.lst vs) ∧ Ows h (BO k Bl) vs ds F ∧ 2 ≤ n := by
  obtain ⟨x, F, y, e1, e2, e3, q⟩ := s.sl.at hi
  rw [hd] at e1
  cases e1
  rcases hk with rfl | rfl
  · cases q with
    | tr r =>
      cases r with
      | bor _ _ _ b => exact b.elim
      | own h2 e r => exact ⟨_, _, _, e3, e2, e, r, h2⟩
  · cases q with
    | sp r o =>
      obtain ⟨n, G, o1, o2⟩ := o ds rfl
      subst o2
      cases r with
      | own h2 e r => exact ⟨_, _, _, e3, e2, e, r, h2⟩
theorem Ows.off {h : HS} {B : Nat → Prop} {vs : List PV} {ds : List D} {F : List Nat} {n : Nat} {o : HB} (r : Ows h B vs ds F) (hn : n ∉ F) (hB : ¬ B n) : Ows (h.set n o) B vs ds F :=
  r.mv (fun m o' h2 e q => by
    rw [List.getElem?_set_ne fun z => ?_]
    · exact e
    · subst z
      exact q.elim hB hn) fun _ z => z
theorem Ow.off {h : HS} {B : Nat → Prop} {v : PV} {d : D} {F : List Nat} {n : Nat} {o : HB} (r : Ow h B v d F) (hn : n ∉ F) (hB : ¬ B n) : Ow (h.set n o) B v d F :=
  r.mv (fun m o' h2 e q => by
    rw [List.getElem?_set_ne fun z => ?_]
    · exact e
    · subst z
      exact q.elim hB hn) fun _ z => z
theorem Sl.off {h : HS} {Pt Bl : Nat → Prop} {k : Kd} {x : Option D} {F : List Nat} {y : Option PV} {n : Nat} {o : HB} (s : Sl h Pt Bl k x F y) (hk : k ≠ .rk) (hn : n ∉ F) (hP : ¬ Pt n) (hB : ¬ Bl n) : Sl (h.set n o) Pt Bl k x F y := by
  cases s with
  | un => exact .un _ _
  | im r => exact .im (r.off List.not_mem_nil hB)
  | tr r => exact .tr (r.off hn fun z => z)
  | sp r o => exact .sp (r.off hn hB) o
  | lk r => exact .lk (r.off List.not_mem_nil hP)
  | rk r => exact absurd rfl hk
  | xx => exact .xx _ _
theorem Sls.off {h : HS} {Pt Bl : Nat → Prop} {κ : List Kd} {η : Dn} {Fs : List (List Nat)} {ρ : Pn} {n : Nat} {o : HB} (s : Sls h Pt Bl κ η Fs ρ) (hk : ∀ k ∈ κ, k ≠ .rk) (hn : n ∉ Fs.flatten) (hP : ¬ Pt n) (hB : ¬ Bl n) : Sls (h.set n o) Pt Bl κ η Fs ρ := by
  induction s with
  | nil => exact .nil
  | cons s t ih =>
    rw [List.flatten_cons] at hn
    exact .cons (s.off (hk _ (.head _)) (fun z => hn (List.mem_append_left _ z)) hP hB) (ih (fun k z => hk k (.tail _ z)) fun z => hn (List.mem_append_right _ z))
/-- the state behind a write -/
theorem Stt.putAt {Bz : Nat → Prop} {η : Dn} {g : G} {Pt Bl : Nat → Prop} {Fs : List (List Nat)} {ρ : Pn} {h h' : HS} {k : Kd} {i n : Nat} {F E F' : List Nat} {v : PV} {d d' : D} {o : HB} (s : Stt Bz κ η g Pt Bl Fs ρ h) (hi : κ[i]? = some k) (hk : Own k) (hd : η[i]? = some (some d)) (nr : ∀ k ∈ κ, k ≠ .rk)
    (e1 : ρ[i]? = some (some v)) (e2 : Fs[i]? = some F) (hn : n ∈ F) (eh : h' = h.set n o) (r : Ow h' (BO k Bl) v d' F') (ot : ∀ ds, d' = .lst ds → ∃ n G, v = .ref n ∧ F' = n :: G) (sb : Sb F' (F ++ E)) (nE : E.Nodup) (pE : ∀ x ∈ E, ¬ Pt x) (fE : ∀ x ∈ E, x ∉ Fs.flatten) (h2 : 2 ≤ n) :
    Stt Bz κ (η.set i (some d')) g Pt Bl (Fs.set i F') ρ h' ∧ Fm Pt h h' := by
  subst eh
  have nF : n ∈ Fs.flatten := List.mem_flatten.mpr ⟨_, List.mem_of_getElem? e2, hn⟩
  have nP : ¬ Pt n := s.fl n nF
  have nB : ¬ Bl n := fun z => nP (s.bl n z).1
  have s1 := s.sl.set (.xx (h := h) (Pt := Pt) (Bl := Bl) (some d) (some v)) i
  rw [set_same hd, set_same e1] at s1
  have s2 := s1.off (n := n) (o := o) (fun k' z => by
    rcases List.mem_or_eq_of_mem_set z with z | z
    · exact nr k' z
    · subst z; decide) (flat_rest s.nd e2 n hn) nP nB
  have q : Sl (h.set n o) Pt Bl k (some d') F' (some v) := by
    rcases hk with rfl | rfl
    · exact .tr r
    · exact .sp r ot
  have s3 := s2.set q i
  have e4 : (κ.set i .xx).set i k = κ := by rw [List.set_set, set_same hi]
  have e5 : (Fs.set i []).set i F' = Fs.set i F' := List.set_set _
  rw [e4, e5, set_same e1] at s3
  have sb2 := flat_setF (Fs.set i []) i F'
  rw [e5] at sb2
  have memF : ∀ x ∈ F', x ∈ F ∨ x ∈ E := fun x hx => List.mem_append.mp (sb.sub x hx)
  have FE : (F ++ E).Nodup := by
    have : F.Nodup := (List.pairwise_flatten.mp s.nd).1 F (List.mem_of_getElem? e2)
    exact List.nodup_append.mpr ⟨this, nE, fun x hx y hy e => fE y hy (e ▸ List.mem_flatten.mpr ⟨F, List.mem_of_getElem? e2, hx⟩)⟩
  refine ⟨⟨⟨?_, ?_⟩, s3, sb2.nd (List.nodup_append.mpr ⟨s.nd.sublist (flat_set _ _), sb.nd FE, fun x hx y hy e => ?_⟩), fun x hx => ?_, fun x hx => by rw [List.length_set]; exact s.pt x hx, s.bl, s.bz⟩, ⟨by rw [List.length_set]; exact Nat.le_refl _, fun m _ hm => ?_⟩⟩
  · rw [List.getElem?_set_ne (by omega)]
    exact s.gr.1
  · rw [List.getElem?_set_ne (by omega)]
    exact s.gr.2
  · subst e
    rcases memF x hy with z | z
    · exact flat_rest s.nd e2 x z hx
    · exact fE x z ((flat_set _ _).subset hx)
  · rcases List.mem_append.mp (sb2.sub x hx) with z | z
    · exact s.fl x ((flat_set _ _).subset z)
    · rcases memF x z with z | z
      · exact s.fl x (List.mem_flatten.mpr ⟨F, List.mem_of_getElem? e2, z⟩)
      · exact pE x z
  · rw [List.getElem?_set_ne fun z => ?_]
    subst z
    exact nP hm
/-- the list in a slot itself is written -/
theorem Stt.putTop {Bz : Nat → Prop} {η : Dn} {g : G} {Pt Bl : Nat → Prop} {Fs : List (List Nat)} {ρ : Pn} {h : HS} {k : Kd} {i n : Nat} {F E G' : List Nat} {vs' : List PV} {ds ds' : List D} (s : Stt Bz κ η g Pt Bl Fs ρ h) (hi : κ[i]? = some k) (hk : Own k) (hd : η[i]? = some (some (.lst ds))) (nr : ∀ k ∈ κ, k ≠ .rk)
    (e1 : ρ[i]? = some (some (.ref n))) (e2 : Fs[i]? = some (n :: F)) (h2 : 2 ≤ n) (hl : n < h.length) (r : Ows h (BO k Bl) vs' ds' G') (sb : Sb G' (F ++ E)) (nE : E.Nodup) (pE : ∀ x ∈ E, ¬ Pt x) (fE : ∀ x ∈ E, x ∉ Fs.flatten) :
    Nx Bz κ (η.set i (some (.lst ds'))) g Pt Bl ρ h (h.set n (.lst vs')) := by
  have nF : n ∈ Fs.flatten := List.mem_flatten.mpr ⟨_, List.mem_of_getElem? e2, .head _⟩
  have nP : ¬ Pt n := s.fl n nF
  have nB : ¬ Bl n := fun z => nP (s.bl n z).1
  have nG : n ∉ G' := fun z => by
    have : (n :: F).Nodup := (List.pairwise_flatten.mp s.nd).1 _ (List.mem_of_getElem? e2)
    rcases List.mem_append.mp (sb.sub n z) with z | z
    · exact (List.nodup_cons.mp this).1 z
    · exact fE n z nF
  have nBO : ¬ BO k Bl n := by
    rcases hk with rfl | rfl
    · exact fun z => z
    · exact nB
  obtain ⟨a, b⟩ := s.putAt (F' := n :: G') (E := E) hi hk hd nr e1 e2 (.head _) rfl (.own h2 (by rw [List.getElem?_set_self hl]) (r.off nG nBO)) (fun ds e => ⟨n, G', rfl, rfl⟩) ((Sb.refl [n]).app sb) nE pE fE h2
  exact ⟨_, _, _, a, fun _ z => z, fun _ z => z, b⟩
theorem isLst_of {h : HS} {n : Nat} {vs : List PV} (e : h[n]? = some (.lst vs)) : isLst (.ref n) h = true := by simp only [isLst, lstOf, e]; rfl
/-! append -/
def dApp (i : Nat) (f : Di D) : Ds := fun η g => match η[i]? with
  | some (some (.lst ds)) => (f η g).bindS fun d g1 => if ds.length < 16777216 then .nx (η.set i (some (.lst (ds ++ [d])))) g1 else .no
  | _ => .no
theorem su_app {e : Mi PV} {f : Di D} {k : Kd} {i : Nat} (he : PuX κ [] e f (PR (MO k))) (hi : κ[i]? = some k := by rfl) (hk : Own k := by decide) (nr : ∀ k ∈ κ, k ≠ .rk := by decide) : PuS rm κb κ κ (mDrop (mMeth isLst lApp (mVar i) (mCons e mNil))) (dApp i f) := by
  refine ⟨fun {Bz η g Pt Bl Fs ρ h} s => ?_⟩
  unfold dApp
  cases hd : η[i]? with
  | none => trivial
  | some o =>
    cases o with
    | none => trivial
    | some d0 =>
      cases d0 with
      | lst ds =>
        simp only []
        obtain ⟨n, vs, F, e1, e2, e3, r, h2⟩ := s.ownAt hi hk hd
        have h1 := he.run s
        have hl : ∀ {c : R (List PV)}, (mDrop (mMeth isLst lApp (mVar i) (mCons e mNil)) ρ h) = (((e ρ h).bind fun x h1 => R.ok [x] h1).bind fun xs h2 => lApp (.ref n) xs h2).bindS ρ fun _ h1 => .nx ρ h1 := by
          intro _
          simp only [mDrop, mMeth, mVar, e1, R.bind_ok, isLst_of e3, if_true, mCons, m2, mNil]
        cases e5 : f η g with
        | no => trivial
        | ex c g' =>
          rw [e5] at h1
          obtain ⟨c', h', e6, k1, k2, k3⟩ := h1
          exact ⟨c', ρ, h', by rw [hl (c := .no), e6]; rfl, k1.fm s.pt, k2, k3⟩
        | ok d g1 =>
          rw [e5] at h1
          obtain ⟨v, h', e6, Bl', E, a⟩ := h1
          simp only [Rd.bindS]
          by_cases hlen : ds.length < 16777216
          · rw [if_pos hlen]
            have s1 := s.step a
            obtain ⟨n', vs', F', f1, f2, f3, r', _⟩ := s1.ownAt hi hk hd
            rw [e1] at f1
            cases f1
            rw [e2] at f2
            cases f2
            have fr : ∀ n ∈ E, h.length ≤ n := fun n z => (a.fr n z).resolve_left sown_of
            refine ⟨ρ, h'.set n (.lst (vs' ++ [v])), ?_, ?_⟩
            · rw [hl (c := .no), e6]
              simp only [R.bind_ok, lApp, f3]
              rw [r'.length, if_pos hlen]
              rfl
            · have val := a.val.1
              rw [BM_MO] at val
              exact (s1.putTop hi hk hd nr e1 e2 h2 (get_lt f3) (r'.snoc val) (.refl _) a.nd (fun x hx p => p.elim (fun p => by have := s.pt x p; have := fr x hx; omega) (a.nb x hx)) (fun x hx p => by have := (s.sl.lt x p).2; have := fr x hx; omega)).from (fun _ => .inl) a.up (a.kp.fm s.pt)
          · rw [if_neg hlen]
            trivial
      | _ => trivial
/-! extend -/
def dExt (i : Nat) (f : Di D) : Ds := fun η g => match η[i]? with
  | some (some (.lst ds)) => (f η g).bindS fun d g1 => match d with
    | .lst es => if ds.length + es.length ≤ 16777216 then .nx (η.set i (some (.lst (ds ++ es)))) g1 else .no
    | _ => .no
  | _ => .no
theorem su_ext {e : Mi PV} {f : Di D} {k : Kd} {i : Nat} (he : PuX κ [] e f (PR (MO k))) (hi : κ[i]? = some k := by rfl) (hk : Own k := by decide) (nr : ∀ k ∈ κ, k ≠ .rk := by decide) : PuS rm κb κ κ (mDrop (mMeth isLst lExt (mVar i) (mCons e mNil))) (dExt i f) := by
  refine ⟨fun {Bz η g Pt Bl Fs ρ h} s => ?_⟩
  unfold dExt
  cases hd : η[i]? with
  | none => trivial
  | some o =>
    cases o with
    | none => trivial
    | some d0 =>
      cases d0 with
      | lst ds =>
        simp only []
        obtain ⟨n, vs, F, e1, e2, e3, r, h2⟩ := s.ownAt hi hk hd
        have h1 := he.run s
        have hl : ∀ {c : R (List PV)}, (mDrop (mMeth isLst lExt (mVar i) (mCons e mNil)) ρ h) = (((e ρ h).bind fun x h1 => R.ok [x] h1).bind fun xs h2 => lExt (.ref n) xs h2).bindS ρ fun _ h1 => .nx ρ h1 := by
          intro _
          simp only [mDrop, mMeth, mVar, e1, R.bind_ok, isLst_of e3, if_true, mCons, m2, mNil]
        cases e5 : f η g with
        | no => trivial
        | ex c g' =>
          rw [e5] at h1
          obtain ⟨c', h', e6, k1, k2, k3⟩ := h1
          exact ⟨c', ρ, h', by rw [hl (c := .no), e6]; rfl, k1.fm s.pt, k2, k3⟩
        | ok d g1 =>
          rw [e5] at h1
          obtain ⟨v, h', e6, Bl', E, a⟩ := h1
          simp only [Rd.bindS]
          cases d with
          | lst es =>
            simp only []
            by_cases hlen : ds.length + es.length ≤ 16777216
            · rw [if_pos hlen]
              have s1 := s.step a
              obtain ⟨n', vs', F', f1, f2, f3, r', _⟩ := s1.ownAt hi hk hd
              rw [e1] at f1
              cases f1
              rw [e2] at f2
              cases f2
              have fr : ∀ n ∈ E, h.length ≤ n := fun n z => (a.fr n z).resolve_left sown_of
              obtain ⟨m, ws, E', e7, e8, q, sub⟩ := seq_ref a.val.1
              subst e7
              rw [BM_MO] at q
              refine ⟨ρ, h'.set n (.lst (vs' ++ ws)), ?_, ?_⟩
              · rw [hl (c := .no), e6]
                simp only [R.bind_ok, lExt, f3, e8]
                rw [r'.length, q.length, if_pos hlen]
                rfl
              · exact (s1.putTop hi hk hd nr e1 e2 h2 (get_lt f3) (r'.app q) ((Sb.refl _).app (.of sub)) a.nd (fun x hx p => p.elim (fun p => by have := s.pt x p; have := fr x hx; omega) (a.nb x hx)) (fun x hx p => by have := (s.sl.lt x p).2; have := fr x hx; omega)).from (fun _ => .inl) a.up (a.kp.fm s.pt)
            · rw [if_neg hlen]
              trivial
          | _ => trivial
      | _ => trivial
/-! x[i] = e -/
def dSet (i : Nat) (fx f : Di D) : Ds := fun η g => (f η g).bindS fun d g1 => match fx η g1 with
  | .ok (.int j) g2 => (match η[i]? with
    | some (some (.lst ds)) => (match ixN ds.length j with
      | some l => .nx (η.set i (some (.lst (ds.set l d)))) g2
      | none => .no)
    | _ => .no)
  | _ => .no
theorem su_set {e ix : Mi PV} {f fx : Di D} {k : Kd} {i : Nat} (he : PuX κ [] e f (PR (MO k))) (hx : PuX κ [] ix fx (PR .rd)) (hi : κ[i]? = some k := by rfl) (hk : Own k := by decide) (nr : ∀ k ∈ κ, k ≠ .rk := by decide) : PuS rm κb κ κ (mAsg e (gSb (mVar i) ix)) (dSet i fx f) := by
  refine ⟨fun {Bz η g Pt Bl Fs ρ h} s => ?_⟩
  unfold dSet mAsg
  have h1 := he.run s
  cases e5 : f η g with
  | no => trivial
  | ex c g' =>
    rw [e5] at h1
    obtain ⟨c', h', e6, k1, k2, k3⟩ := h1
    exact ⟨c', ρ, h', by rw [e6]; rfl, k1.fm s.pt, k2, k3⟩
  | ok d g1 =>
    rw [e5] at h1
    obtain ⟨v, h1', e6, Bl1, E, a⟩ := h1
    simp only [Rd.bindS]
    rw [e6]
    simp only [R.bindS]
    have s1 := s.step a
    have h3 := hx.run s1
    cases e7 : fx η g1 with
    | no => trivial
    | ex c g' => trivial
    | ok dj g2 =>
      cases dj with
      | int j =>
        simp only []
        rw [e7] at h3
        obtain ⟨w, h2', e8, Bl2, X, b⟩ := h3
        obtain ⟨rfl, rfl⟩ := int_of b.val
        have s2 := s1.step b
        cases hd : η[i]? with
        | none => trivial
        | some o =>
          cases o with
          | none => trivial
          | some d0 =>
            cases d0 with
            | lst ds =>
              simp only []
              cases hj : ixN ds.length j with
              | none => trivial
              | some l =>
                simp only []
                obtain ⟨n, vs, F, e1, e2, e3, r, h2⟩ := s2.ownAt hi hk hd
                have fr : ∀ n ∈ E, h.length ≤ n ∧ n < h1'.length := fun n z => ⟨(a.fr n z).resolve_left sown_of, (a.val.1.lt n z).2⟩
                have val := (a.val.1.kp b.kp).up (BM.up b.up)
                rw [BM_MO] at val
                obtain ⟨F', r1, sb⟩ := r.set val l
                refine ⟨ρ, h2'.set n (.lst (vs.set l v)), ?_, ?_⟩
                · simp only [gSb, mVar, e1, R.thenR, e8, setV, e3]
                  rw [r.length, hj]
                  rfl
                · refine (s2.putTop hi hk hd nr e1 e2 h2 (get_lt e3) r1 sb a.nd (fun x hx p => ?_) (fun x hx p => by have := (s.sl.lt x p).2; have := fr x hx; omega)).from (fun _ z => .inl (.inl z)) (fun n z => b.up n (a.up n z)) ((a.kp.trans b.kp).fm s.pt)
                  rcases p with (p | p) | p
                  · have := s.pt x p
                    have := fr x hx
                    omega
                  · exact a.nb x hx p
                  · rcases b.dn x p with p | p
                    · exact a.nb x hx p
                    · have := fr x hx
                      omega
            | _ => trivial
      | _ => trivial
/-! clear, reverse -/
def dUpd (i : Nat) (u : List D → List D) : Ds := fun η g => match η[i]? with
  | some (some (.lst ds)) => .nx (η.set i (some (.lst (u ds)))) g
  | _ => .no
theorem su_upd {k : Kd} {i : Nat} {lf : PV → List PV → HS → R PV} {u : List D → List D} (ut : List PV → List PV) (hl : ∀ n h vs, h[n]? = some (.lst vs) → lf (.ref n) [] h = .ok .non (h.set n (.lst (ut vs)))) (hu : ∀ {h B vs ds F}, Ows h B vs ds F → ∃ G, Ows h B (ut vs) (u ds) G ∧ Sb G F) (hi : κ[i]? = some k := by rfl) (hk : Own k := by decide) (nr : ∀ k ∈ κ, k ≠ .rk := by decide) : PuS rm κb κ κ (mDrop (mMeth isLst lf (mVar i) mNil)) (dUpd i u) := by
  refine ⟨fun {Bz η g Pt Bl Fs ρ h} s => ?_⟩
  unfold dUpd
  cases hd : η[i]? with
  | none => trivial
  | some o =>
    cases o with
    | none => trivial
    | some d0 =>
      cases d0 with
      | lst ds =>
        simp only []
        obtain ⟨n, vs, F, e1, e2, e3, r, h2⟩ := s.ownAt hi hk hd
        obtain ⟨G', r1, sb⟩ := hu r
        refine ⟨ρ, h.set n (.lst (ut vs)), ?_, s.putTop (E := []) hi hk hd nr e1 e2 h2 (get_lt e3) r1 (by rw [List.append_nil]; exact sb) List.nodup_nil (fun x z => absurd z List.not_mem_nil) (fun x z => absurd z List.not_mem_nil)⟩
        simp only [mDrop, mMeth, mVar, e1, R.bind_ok, isLst_of e3, if_true, mNil, hl n h vs e3]
        rfl
      | _ => trivial
theorem su_clear {k : Kd} {i : Nat} (hi : κ[i]? = some k := by rfl) (hk : Own k := by decide) (nr : ∀ k ∈ κ, k ≠ .rk := by decide) : PuS rm κb κ κ (mDrop (mMeth isLst lClear (mVar i) mNil)) (dUpd i fun _ => []) :=
  su_upd (fun _ => []) (fun n h vs e => by simp only [lClear, e]) (fun r => ⟨[], .nil, .of (List.nil_sublist _)⟩) hi hk nr
theorem su_rev {k : Kd} {i : Nat} (hi : κ[i]? = some k := by rfl) (hk : Own k := by decide) (nr : ∀ k ∈ κ, k ≠ .rk := by decide) : PuS rm κb κ κ (mDrop (mMeth isLst lRev (mVar i) mNil)) (dUpd i List.reverse) :=
  su_upd List.reverse (fun n h vs e => by simp only [lRev, e]) (fun r => r.rev) hi hk nr
/-! pop -/
theorem Ows.unsnoc {h : HS} {B : Nat → Prop} {vs : List PV} {ds : List D} {F : List Nat} {d : D} (r : Ows h B vs (ds ++ [d]) F) : ∃ ws v G L, vs = ws ++ [v] ∧ F = G ++ L ∧ Ows h B ws ds G ∧ Ow h B v d L := by
  induction ds generalizing vs F with
  | nil =>
    cases r with
    | cons r t =>
      cases t
      rw [List.append_nil]
      exact ⟨[], _, [], _, rfl, rfl, .nil, r⟩
  | cons e ds ih =>
    cases r with
    | cons r t =>
      obtain ⟨ws, v, G, L, rfl, rfl, q1, q2⟩ := ih t
      exact ⟨_, v, _, L, rfl, (List.append_assoc _ _ _).symm, .cons r q1, q2⟩
def dPop (i j : Nat) : Ds := fun η g => match η[i]? with
  | some (some (.lst ds)) => (match ds.getLast? with
    | some d => .nx ((η.set i (some (.lst ds.dropLast))).set j (some d)) g
    | none => .no)
  | _ => .no
theorem Ow.offL {h : HS} {B : Nat → Prop} {v : PV} {d : D} {F : List Nat} {n : Nat} {o : HB} (r : Ow h B v d F) (hn : n ∉ F) (hB : ¬ B n) : Ow (h.set n o) B v d F := r.off hn hB
theorem su_pop {k : Kd} {i j : Nat} (hi : κ[i]? = some k := by rfl) (hk : Own k := by decide) (nr : ∀ k ∈ κ, k ≠ .rk := by decide) : PuS rm κb κ (κ.set j .im) (mAsg (mMeth isLst lPop0 (mVar i) mNil) (gNm j)) (dPop i j) := by
  refine ⟨fun {Bz η g Pt Bl Fs ρ h} s => ?_⟩
  unfold dPop
  cases hd : η[i]? with
  | none => trivial
  | some o =>
    cases o with
    | none => trivial
    | some d0 =>
      cases d0 with
      | lst ds =>
        simp only []
        cases hl : ds.getLast? with
        | none => trivial
        | some d =>
          simp only []
          obtain ⟨es, rfl⟩ := List.getLast?_eq_some_iff.mp hl
          obtain ⟨n, vs, F, e1, e2, e3, r, h2⟩ := s.ownAt hi hk hd
          obtain ⟨ws, v, G, L, rfl, rfl, q1, q2⟩ := r.unsnoc
          have nF : n ∈ Fs.flatten := List.mem_flatten.mpr ⟨_, List.mem_of_getElem? e2, .head _⟩
          have nP : ¬ Pt n := s.fl n nF
          have nB : ¬ Bl n := fun z => nP (s.bl n z).1
          have nBO : ¬ BO k Bl n := by
            rcases hk with rfl | rfl
            · exact fun z => z
            · exact nB
          have nd : (n :: (G ++ L)).Nodup := (List.pairwise_flatten.mp s.nd).1 _ (List.mem_of_getElem? e2)
          have nd1 := List.nodup_cons.mp nd
          have nd2 := List.nodup_append.mp nd1.2
          have nG : n ∉ G := fun z => nd1.1 (List.mem_append_left _ z)
          have nL : n ∉ L := fun z => nd1.1 (List.mem_append_right _ z)
          obtain ⟨a, b⟩ := s.putAt (h' := h.set n (.lst ws)) (F' := n :: G) (E := []) (d' := .lst es) hi hk hd nr e1 e2 (.head _) rfl (.own h2 (by rw [List.getElem?_set_self (get_lt e3)]) (q1.off nG nBO)) (fun ds e => ⟨n, G, rfl, rfl⟩) (by
            rw [List.append_nil]
            exact .of (List.sublist_append_left (n :: G) L)) List.nodup_nil (fun x z => absurd z List.not_mem_nil) (fun x z => absurd z List.not_mem_nil) h2
          have LF : ∀ x ∈ L, x ∈ Fs.flatten := fun x hx => List.mem_flatten.mpr ⟨_, List.mem_of_getElem? e2, .tail _ (List.mem_append_right _ hx)⟩
          have Lout : ∀ x ∈ L, x ∉ (Fs.set i (n :: G)).flatten := fun x hx z => by
            have sb := flat_setF (Fs.set i []) i (n :: G)
            rw [List.set_set] at sb
            rcases List.mem_append.mp (sb.sub x z) with z | z
            · exact flat_rest s.nd e2 x (.tail _ (List.mem_append_right _ hx)) z
            · rcases List.mem_cons.mp z with rfl | z
              · exact nL hx
              · exact nd2.2.2 x z x hx rfl
          have s3 : Stt Bz κ (η.set i (some (.lst es))) g (fun m => Pt m ∨ m ∈ L) (fun m => Bl m ∨ m ∈ L) (Fs.set i (n :: G)) ρ (h.set n (.lst ws)) :=
            ⟨a.gr, a.sl.up .refl (fun _ => .inl) (fun _ => .inl), a.nd, fun x hx z => z.elim (a.fl x hx) fun z => Lout x z hx, fun x z => by
              rw [List.length_set]
              exact z.elim (s.pt x) fun z => (s.sl.lt x (LF x z)).2, fun x z => z.elim (fun z => ⟨.inl (s.bl x z).1, (s.bl x z).2⟩) fun z => ⟨.inr z, s.bz x (s.fl x (LF x z))⟩, fun x z => s.bz x fun p => z (.inl p)⟩
          have q3 : Ow (h.set n (.lst ws)) (fun m => Bl m ∨ m ∈ L) v d [] := (q2.off nL nBO).lend (fun m z => by
            rcases hk with rfl | rfl
            · exact z.elim
            · exact .inl z) fun m z => .inr z
          rw [List.dropLast_concat]
          refine ⟨ρ.set j (some v), h.set n (.lst ws), ?_, _, _, _, s3.slots (s3.sl.set (.im q3) j) (flat_set _ _), fun _ => .inl, fun _ => .inl, b⟩
          simp only [mAsg, mMeth, mVar, e1, R.bind_ok, isLst_of e3, if_true, mNil, lPop0, e3]
          simp only [List.length_append, List.length_cons, List.length_nil]
          have e7 : (ws ++ [v])[ws.length + (0 + 1) - 1]? = some v := by
            rw [show ws.length + (0 + 1) - 1 = ws.length by omega]
            simp
          rw [e7]
          simp only [List.dropLast_concat, R.bindS, gNm, R.thenS]
      | _ => trivial
end
end Lt
namespace Lt
open PySem L2
/-! ### what lies within a slot's own value, written -/
def D.putSeq : D → Nat → D → D
  | .lst xs, j, d => .lst (xs.set j d)
  | .tup xs, j, d => .tup (xs.set j d)
  | d, _, _ => d
/-- one item of a row, and all others -/
theorem Ows.hole {h : HS} {B : Nat → Prop} : ∀ {vs : List PV} {ds : List D} {F : List Nat} {j : Nat} {d : D}, Ows h B vs ds F → ds[j]? = some d → ∃ v G F1 F2, vs[j]? = some v ∧ Ow h B v d G ∧ F = F1 ++ (G ++ F2) ∧
    ∀ {h' : HS} {d' : D} {G' : List Nat}, (∀ n o, 2 ≤ n → h[n]? = some o → (B n ∨ n ∈ F1 ∨ n ∈ F2) → h'[n]? = some o) → Ow h' B v d' G' → Ows h' B vs (ds.set j d') (F1 ++ (G' ++ F2))
  | _, _, _, _, _, .nil, e => by simp at e
  | _, _, _, 0, d, .cons (F := F1) (G := F2) r t, e => by
    simp at e
    subst e
    exact ⟨_, F1, [], F2, rfl, r, rfl, fun {h' d' G'} k q => by rw [List.nil_append]; exact .cons q (t.mv (fun n o h2 e z => k n o h2 e (z.imp id .inr)) fun _ z => z)⟩
  | _, _, _, j + 1, d, .cons (F := Fa) r t, e => by
    obtain ⟨v, G, F1, F2, e1, q1, rfl, q2⟩ := Ows.hole (j := j) (d := d) t (by simpa using e)
    refine ⟨v, G, Fa ++ F1, F2, by simpa using e1, q1, by rw [List.append_assoc], fun {h' d' G'} k q => ?_⟩
    rw [List.append_assoc]
    exact .cons (r.mv (fun n o h2 e z => k n o h2 e (z.imp id fun z => .inl (List.mem_append_left _ z))) fun _ z => z) (q2 (fun n o h2 e z => k n o h2 e (z.imp id fun z => z.imp (fun z => List.mem_append_right _ z) id)) q)
theorem Sb.mid {F1 G G' F2 E : List Nat} (s : Sb G' (G ++ E)) : Sb (F1 ++ (G' ++ F2)) (F1 ++ (G ++ F2) ++ E) := by
  rw [List.append_assoc]
  refine (Sb.refl F1).app ?_
  refine (s.app (.refl F2)).trans ?_
  rw [List.append_assoc, List.append_assoc]
  exact (Sb.refl G).app (Sb.swap E F2)
/-- a list one step down in an own value -/
theorem Ow.down {h : HS} {v : PV} {d : D} {ds es : List D} {F : List Nat} {j : Nat} (r : Ow h BF v d F) (hs : d.seq = some ds) (e : ds[j]? = some (.lst es)) (nd : F.Nodup) :
    ∃ vs n ws G, seqOf h v = some vs ∧ vs[j]? = some (.ref n) ∧ h[n]? = some (.lst ws) ∧ Ows h BF ws es G ∧ n ∈ F ∧ 2 ≤ n ∧ n ∉ G ∧ (∀ x ∈ G, x ∈ F) ∧ (∀ o, seqOf (h.set n o) v = some vs) ∧
      ∀ {ws' : List PV} {es' : List D} {G' E : List Nat}, Ows h BF ws' es' G' → Sb G' (G ++ E) → E.Nodup → (∀ x ∈ E, x ∉ F) → ∃ F', Ow (h.set n (.lst ws')) BF v (d.putSeq j (.lst es')) F' ∧ Sb F' (F ++ E) ∧ (∀ k, F = k :: F.tail → v = .ref k → ∃ H, F' = k :: H) := by
  -- the row itself
  have key : ∀ {vs : List PV} {F0 : List Nat}, Ows h BF vs ds F0 → F0.Nodup → ∃ n ws G, vs[j]? = some (.ref n) ∧ h[n]? = some (.lst ws) ∧ Ows h BF ws es G ∧ n ∈ F0 ∧ 2 ≤ n ∧ n ∉ G ∧ (∀ x ∈ G, x ∈ F0) ∧
      ∀ {ws' : List PV} {es' : List D} {G' E : List Nat}, Ows h BF ws' es' G' → Sb G' (G ++ E) → E.Nodup → (∀ x ∈ E, x ∉ F0) → ∃ F', Ows (h.set n (.lst ws')) BF vs (ds.set j (.lst es')) F' ∧ Sb F' (F0 ++ E) := by
    intro vs F0 q nd0
    obtain ⟨w, G0, F1, F2, e1, q1, rfl, q2⟩ := q.hole e
    cases q1 with
    | bor _ _ _ b => exact b.elim
    | @own n ws _ G h2 g r1 =>
      obtain ⟨n1, n2, n3⟩ := List.nodup_append.mp nd0
      obtain ⟨n4, n5, n6⟩ := List.nodup_append.mp n2
      have nG := List.nodup_cons.mp n4
      refine ⟨n, ws, G, e1, g, r1, List.mem_append_right _ (List.mem_append_left _ (.head _)), h2, nG.1, fun x hx => List.mem_append_right _ (List.mem_append_left _ (.tail _ hx)), fun {ws' es' G' E} r2 sb nE dE => ?_⟩
      have nG' : n ∉ G' := fun z => by
        rcases List.mem_append.mp (sb.sub n z) with z | z
        · exact nG.1 z
        · exact dE n z (List.mem_append_right _ (List.mem_append_left _ (.head _)))
      refine ⟨F1 ++ ((n :: G') ++ F2), q2 (fun m o hm em z => ?_) (.own h2 (by rw [List.getElem?_set_self (get_lt g)]) (r2.off nG' fun z => z)), Sb.mid ((Sb.refl [n]).app sb)⟩
      rw [List.getElem?_set_ne fun z => ?_]
      · exact em
      · subst z
        rcases z with z | z | z
        · exact z
        · exact n3 _ z _ (List.mem_append_left _ (.head _)) rfl
        · exact n6 _ (.head _) _ z rfl
  cases r with
  | tup r =>
    cases hs
    obtain ⟨n, ws, G, k1, k2, k3, k4, k5, k6, k7, k8⟩ := key r nd
    refine ⟨_, n, ws, G, rfl, k1, k2, k3, k4, k5, k6, k7, fun _ => rfl, fun {ws' es' G' E} r2 sb nE dE => ?_⟩
    obtain ⟨F', a, b⟩ := k8 r2 sb nE dE
    exact ⟨F', .tup a, b, fun k _ z => by cases z⟩
  | bor _ _ _ b => exact b.elim
  | @own m vs _ F0 h2 g r =>
    cases hs
    have nd' := List.nodup_cons.mp nd
    obtain ⟨n, ws, G, k1, k2, k3, k4, k5, k6, k7, k8⟩ := key r nd'.2
    refine ⟨vs, n, ws, G, by rw [seqOf_ref, g], k1, k2, k3, .tail _ k4, k5, k6, fun x hx => .tail _ (k7 x hx), fun o => ?_, fun {ws' es' G' E} r2 sb nE dE => ?_⟩
    · rw [seqOf_ref, List.getElem?_set_ne fun z => ?_, g]
      subst z
      exact nd'.1 k4
    obtain ⟨F', a, b⟩ := k8 r2 sb nE (fun x hx z => dE x hx (.tail _ z))
    refine ⟨m :: F', .own h2 ?_ a, (Sb.refl [m]).app b, fun k e z => ?_⟩
    · rw [List.getElem?_set_ne fun z => ?_]
      · exact g
      · subst z
        exact nd'.1 k4
    · cases z
      exact ⟨F', rfl⟩
  | _ => cases hs
section
variable {rm : Md} {κb κ κ1 κ' : List Kd} {S : List Nat}
/-- the state behind a write one step down -/
theorem Stt.putDown {Bz : Nat → Prop} {η : Dn} {g : G} {Pt Bl : Nat → Prop} {Fs : List (List Nat)} {ρ : Pn} {h : HS} {i j : Nat} {d : D} {ds es : List D} (s : Stt Bz κ η g Pt Bl Fs ρ h) (hi : κ[i]? = some .tr) (hd : η[i]? = some (some d)) (nr : ∀ k ∈ κ, k ≠ .rk) (hs : d.seq = some ds) (e : ds[j]? = some (.lst es)) :
    ∃ v vs n ws G, ρ[i]? = some (some v) ∧ seqOf h v = some vs ∧ vs.length = ds.length ∧ vs[j]? = some (.ref n) ∧ h[n]? = some (.lst ws) ∧ Ows h BF ws es G ∧ (∀ o, seqOf (h.set n o) v = some vs) ∧
      ∀ {ws' : List PV} {es' : List D} {G' E : List Nat}, Ows h BF ws' es' G' → Sb G' (G ++ E) → E.Nodup → (∀ x ∈ E, ¬ Pt x) → (∀ x ∈ E, x ∉ Fs.flatten) → Nx Bz κ (η.set i (some (d.putSeq j (.lst es')))) g Pt Bl ρ h (h.set n (.lst ws')) := by
  obtain ⟨x, F, y, e1, e2, e3, q⟩ := s.sl.at hi
  rw [hd] at e1
  cases e1
  cases q with
  | @tr v _ _ r =>
    have ndF : F.Nodup := (List.pairwise_flatten.mp s.nd).1 _ (List.mem_of_getElem? e2)
    have FF : ∀ x ∈ F, x ∈ Fs.flatten := fun x hx => List.mem_flatten.mpr ⟨F, List.mem_of_getElem? e2, hx⟩
    obtain ⟨vs, n, ws, G, k1, k2, k3, k4, k5, k6, k7, k8, kS, k9⟩ := r.down hs e ndF
    obtain ⟨vs2, G2, k10, k11, _⟩ := r.seq hs
    rw [k1] at k10
    cases k10
    refine ⟨v, vs, n, ws, G, e3, k1, k11.length, k2, k3, k4, kS, fun {ws' es' G' E} r2 sb nE pE fE => ?_⟩
    obtain ⟨F', a, b, c⟩ := k9 r2 sb nE fun x hx z => fE x hx (FF x z)
    have ot : ∀ zs, d.putSeq j (.lst es') = .lst zs → ∃ k H, v = .ref k ∧ F' = k :: H := fun zs ez => by
      cases d with
      | lst xs =>
        clear b a
        cases r with
        | bor _ _ _ b => exact b.elim
        | own h2 g r =>
          obtain ⟨H, eH⟩ := c _ rfl rfl
          exact ⟨_, H, rfl, eH⟩
      | tup xs => simp [D.putSeq] at ez
      | _ => first | cases hs | cases ez
    obtain ⟨p1, p2⟩ := s.putAt (F' := F') (E := E) hi (.inl rfl) hd nr e3 e2 k5 rfl a ot b nE pE fE k6
    exact ⟨_, _, _, p1, fun _ z => z, fun _ z => z, p2⟩
/-! a list one step down: append, clear, x[i][j] = e -/
theorem getV_at {v : PV} {vs : List PV} {h : HS} {i : Int} {j : Nat} {w : PV} (e : seqOf h v = some vs) (hx : ixN vs.length i = some j) (hw : vs[j]? = some w) : getV v (.int i) h = .ok w h := by
  rw [getV_seq i e]
  unfold atI
  rw [hx]
  simp [hw]
def dDown (i : Nat) (fx : Di D) (u : Nat → List D → D → Dn → G → SD) : Ds := fun η g => match η[i]? with
  | some (some d) => (fx η g).bindS fun x g1 => match x with
    | .int a => (match d.seq with
      | some ds => (match ixN ds.length a with
        | some j => (match ds[j]? with
          | some (.lst es) => u j es d η g1
          | _ => .no)
        | none => .no)
      | none => .no)
    | _ => .no
  | _ => .no
def uUpd (i : Nat) (u : List D → List D) : Nat → List D → D → Dn → G → SD := fun j es d η g => .nx (η.set i (some (d.putSeq j (.lst (u es))))) g
theorem su_downU {i : Nat} {ix : Mi PV} {fx : Di D} {lf : PV → List PV → HS → R PV} {u : List D → List D} (ut : List PV → List PV) (hl : ∀ n h vs, h[n]? = some (.lst vs) → lf (.ref n) [] h = .ok .non (h.set n (.lst (ut vs)))) (hu : ∀ {h B vs ds F}, Ows h B vs ds F → ∃ G, Ows h B (ut vs) (u ds) G ∧ Sb G F) (hx : PuX κ [] ix fx (PR .rd)) (hi : κ[i]? = some .tr := by rfl) (nr : ∀ k ∈ κ, k ≠ .rk := by decide) :
    PuS rm κb κ κ (mDrop (mMeth isLst lf (m2 getV (mVar i) ix) mNil)) (dDown i fx (uUpd i u)) := by
  refine ⟨fun {Bz η g Pt Bl Fs ρ h} s => ?_⟩
  unfold dDown uUpd
  cases hd : η[i]? with
  | none => trivial
  | some o =>
    cases o with
    | none => trivial
    | some d =>
      simp only []
      have h1 := hx.run s
      obtain ⟨v0, e0, _⟩ := s.sl.get hi hd (by decide)
      cases e5 : fx η g with
      | no => trivial
      | ex c g' =>
        rw [e5] at h1
        obtain ⟨c', h', e6, k1, k2, k3⟩ := h1
        refine ⟨c', ρ, h', ?_, k1.fm s.pt, k2, k3⟩
        simp only [mDrop, mMeth, m2, mVar, e0, R.bind_ok, e6]
        rfl
      | ok x g1 =>
        rw [e5] at h1
        obtain ⟨w, h', e6, Bl', X, a⟩ := h1
        simp only [Rd.bindS]
        cases x <;> try trivial
        rename_i ai
        obtain ⟨rfl, rfl⟩ := int_of a.val
        simp only []
        cases hs : d.seq with
        | none => trivial
        | some ds =>
          simp only []
          cases hj : ixN ds.length ai with
          | none => trivial
          | some j =>
            simp only []
            cases he : ds[j]? with
            | none => trivial
            | some z =>
              cases z <;> try trivial
              rename_i es
              simp only []
              have s1 := s.step a
              obtain ⟨v, vs, n, ws, G, k1, k2, k3, k4, k5, k6, _, k7⟩ := s1.putDown hi hd nr hs he
              rw [e0] at k1
              cases k1
              obtain ⟨G', r1, sb⟩ := hu k6
              refine ⟨ρ, h'.set n (.lst (ut ws)), ?_, (k7 (E := []) r1 (by rw [List.append_nil]; exact sb) List.nodup_nil (fun x z => absurd z List.not_mem_nil) (fun x z => absurd z List.not_mem_nil)).from (fun _ => .inl) a.up (a.kp.fm s.pt)⟩
              simp only [mDrop, mMeth, m2, mVar, e0, R.bind_ok, e6, getV_at k2 (by rw [k3]; exact hj) k4, isLst_of k5, if_true, mNil, hl n h' ws k5]
              rfl
theorem su_downClear {i : Nat} {ix : Mi PV} {fx : Di D} (hx : PuX κ [] ix fx (PR .rd)) (hi : κ[i]? = some .tr := by rfl) (nr : ∀ k ∈ κ, k ≠ .rk := by decide) : PuS rm κb κ κ (mDrop (mMeth isLst lClear (m2 getV (mVar i) ix) mNil)) (dDown i fx (uUpd i fun _ => [])) :=
  su_downU (fun _ => []) (fun n h vs e => by simp only [lClear, e]) (fun r => ⟨[], .nil, .of (List.nil_sublist _)⟩) hx hi nr
theorem su_downRev {i : Nat} {ix : Mi PV} {fx : Di D} (hx : PuX κ [] ix fx (PR .rd)) (hi : κ[i]? = some .tr := by rfl) (nr : ∀ k ∈ κ, k ≠ .rk := by decide) : PuS rm κb κ κ (mDrop (mMeth isLst lRev (m2 getV (mVar i) ix) mNil)) (dDown i fx (uUpd i List.reverse)) :=
  su_downU List.reverse (fun n h vs e => by simp only [lRev, e]) (fun r => r.rev) hx hi nr
def uApp (i : Nat) (f : Di D) : Nat → List D → D → Dn → G → SD := fun j es d η g => (f η g).bindS fun y g1 => if es.length < 16777216 then .nx (η.set i (some (d.putSeq j (.lst (es ++ [y]))))) g1 else .no
theorem su_downApp {i : Nat} {ix e : Mi PV} {fx f : Di D} (hx : PuX κ [] ix fx (PR .rd)) (he : PuX κ [] e f (PR .fr)) (hi : κ[i]? = some .tr := by rfl) (nr : ∀ k ∈ κ, k ≠ .rk := by decide) :
    PuS rm κb κ κ (mDrop (mMeth isLst lApp (m2 getV (mVar i) ix) (mCons e mNil))) (dDown i fx (uApp i f)) := by
  refine ⟨fun {Bz η g Pt Bl Fs ρ h} s => ?_⟩
  unfold dDown uApp
  cases hd : η[i]? with
  | none => trivial
  | some o =>
    cases o with
    | none => trivial
    | some d =>
      simp only []
      have h1 := hx.run s
      obtain ⟨v0, e0, _⟩ := s.sl.get hi hd (by decide)
      cases e5 : fx η g with
      | no => trivial
      | ex c g' =>
        rw [e5] at h1
        obtain ⟨c', h', e6, k1, k2, k3⟩ := h1
        refine ⟨c', ρ, h', ?_, k1.fm s.pt, k2, k3⟩
        simp only [mDrop, mMeth, m2, mVar, e0, R.bind_ok, e6]
        rfl
      | ok x g1 =>
        rw [e5] at h1
        obtain ⟨w, h', e6, Bl', X, a⟩ := h1
        simp only [Rd.bindS]
        cases x <;> try trivial
        rename_i ai
        obtain ⟨rfl, rfl⟩ := int_of a.val
        simp only []
        cases hs : d.seq with
        | none => trivial
        | some ds =>
          simp only []
          cases hj : ixN ds.length ai with
          | none => trivial
          | some j =>
            simp only []
            cases hz : ds[j]? with
            | none => trivial
            | some z =>
              cases z <;> try trivial
              rename_i es
              simp only []
              have s1 := s.step a
              obtain ⟨v, vs, n, ws, G, k1, k2, k3, k4, k5, k6, _, _⟩ := s1.putDown hi hd nr hs hz
              rw [e0] at k1
              cases k1
              have h2 := he.run s1
              cases e7 : f η g1 with
              | no => trivial
              | ex c g' =>
                rw [e7] at h2
                obtain ⟨c', h'', e8, q1, q2, q3⟩ := h2
                refine ⟨c', ρ, h'', ?_, (a.kp.trans q1).fm s.pt, q2, q3⟩
                simp only [mDrop, mMeth, m2, mVar, e0, R.bind_ok, e6, getV_at k2 (by rw [k3]; exact hj) k4, isLst_of k5, if_true, mCons, e8]
                rfl
              | ok y g2 =>
                rw [e7] at h2
                obtain ⟨yv, h'', e8, Bl2, E, b⟩ := h2
                simp only [Rd.bindS]
                by_cases hlen : es.length < 16777216
                · rw [if_pos hlen]
                  have s2 := s1.step b
                  obtain ⟨v2, vs2, n2, ws2, G2, l1, l2, l3, l4, l5, l6, _, l7⟩ := s2.putDown hi hd nr hs hz
                  rw [e0] at l1
                  cases l1
                  have en : n2 = n := by
                    have : seqOf h'' v0 = some vs := by
                      cases v0 with
                      | tup xs => exact k2
                      | ref m =>
                        obtain ⟨x0, F0, y0, m1, m2', m3, m4⟩ := s1.sl.at hi
                        rw [hd] at m1
                        cases m1
                        rw [e0] at m3
                        cases m3
                        cases m4 with
                        | tr r =>
                          cases r with
                          | stt => cases hs
                          | bor _ _ _ b => exact b.elim
                          | borD _ _ _ b => exact b.elim
                          | own h2 g _ =>
                            simp only [seqOf_ref] at k2 ⊢
                            rw [b.kp.eq _ h2 (get_lt g)]
                            exact k2
                          | ownD => cases hs
                      | _ => cases k2
                    rw [this] at l2
                    cases l2
                    rw [k4] at l4
                    cases l4
                    rfl
                  subst en
                  have fr : ∀ x ∈ E, h'.length ≤ x := fun x z => (b.fr x z).resolve_left sown_of
                  have val := b.val.1
                  refine ⟨ρ, h''.set n2 (.lst (ws2 ++ [yv])), ?_, (l7 (E := E) (l6.snoc val) (.refl _) b.nd (fun x hx p => ?_) (fun x hx p => ?_)).from (fun _ z => .inl (.inl z)) (fun n z => b.up n (a.up n z)) ((a.kp.trans b.kp).fm s.pt)⟩
                  · simp only [mDrop, mMeth, m2, mVar, e0, R.bind_ok, e6, getV_at k2 (by rw [k3]; exact hj) k4, isLst_of k5, if_true, mCons, e8, mNil, lApp, l5]
                    rw [l6.length, if_pos hlen]
                    rfl
                  · rcases p with p | p
                    · have := s1.pt x p
                      have := fr x hx
                      omega
                    · exact b.nb x hx p
                  · have := (s1.sl.lt x p).2
                    have := fr x hx
                    omega
                · rw [if_neg hlen]
                  trivial
end
end Lt
namespace Lt
open PySem L2
/-! ### every row of an own table, written through a name of its own -/
section
variable {rm : Md} {κb κ κ1 κ' : List Kd} {S : List Nat}
/-- what one round does: the row at j, through the name -/
structure PuA (κ : List Kd) (i v : Nat) (b : Ms) (u : Nat → List D → D → Dn → G → SD) : Prop where
  run : ∀ {Bz : Nat → Prop} {η : Dn} {g : G} {Pt Bl : Nat → Prop} {Fs : List (List Nat)} {ρ : Pn} {h : HS} {j : Nat} {d : D} {ds es : List D} {v0 w : PV} {vs : List PV}, Stt Bz κ η g Pt Bl Fs ρ h → η[i]? = some (some d) → d.seq = some ds → ds[j]? = some (.lst es) →
    ρ[i]? = some (some v0) → seqOf h v0 = some vs → vs[j]? = some w → ρ[v]? = some (some w) → match u j es d η g with
    | .nx η' g' => ∃ h', b ρ h = .nx ρ h' ∧ Nx Bz κ η' g' Pt Bl ρ h h' ∧ seqOf h' v0 = some vs
    | .ex c g' => ∃ c' ρ' h', b ρ h = .ex c' ρ' h' ∧ Fm Pt h h' ∧ GR g' h' ∧ XR h' c' c
    | .no => True
    | _ => False
theorem Stt.seqKp {Bz : Nat → Prop} {η : Dn} {g : G} {Pt Bl : Nat → Prop} {Fs : List (List Nat)} {ρ : Pn} {h h' : HS} {i : Nat} {d : D} {ds : List D} {v0 : PV} {vs : List PV} (s : Stt Bz κ η g Pt Bl Fs ρ h) (hi : κ[i]? = some .tr) (hd : η[i]? = some (some d)) (hs : d.seq = some ds) (e0 : ρ[i]? = some (some v0)) (k2 : seqOf h v0 = some vs) (kp : Kp h h') : seqOf h' v0 = some vs := by
  cases v0 with
  | tup xs => exact k2
  | ref m =>
    obtain ⟨x0, F0, y0, m1, m2', m3, m4⟩ := s.sl.at hi
    rw [hd] at m1
    cases m1
    rw [e0] at m3
    cases m3
    cases m4 with
    | tr r =>
      cases r with
      | stt => cases hs
      | bor _ _ _ b => exact b.elim
      | borD _ _ _ b => exact b.elim
      | own h2 g _ =>
        simp only [seqOf_ref] at k2 ⊢
        rw [kp.eq _ h2 (get_lt g)]
        exact k2
      | ownD => cases hs
  | _ => cases k2
theorem pa_app {i v : Nat} {e : Mi PV} {f : Di D} (he : PuX κ [] e f (PR .fr)) (hi : κ[i]? = some .tr := by rfl) (nr : ∀ k ∈ κ, k ≠ .rk := by decide) :
    PuA κ i v (mDrop (mMeth isLst lApp (mVar v) (mCons e mNil))) (uApp i f) := by
  refine ⟨fun {Bz η g Pt Bl Fs ρ h j d ds es v0 w vs} s hd hs hz e0 eS eW eV => ?_⟩
  unfold uApp
  obtain ⟨v', vs', n, ws, G, k1, k2, k3, k4, k5, k6, _, _⟩ := s.putDown hi hd nr hs hz
  rw [e0] at k1
  cases k1
  rw [eS] at k2
  cases k2
  rw [eW] at k4
  cases k4
  have h2 := he.run s
  cases e7 : f η g with
  | no => trivial
  | ex c g' =>
    rw [e7] at h2
    obtain ⟨c', h'', e8, q1, q2, q3⟩ := h2
    refine ⟨c', ρ, h'', ?_, q1.fm s.pt, q2, q3⟩
    simp only [mDrop, mMeth, m2, mVar, eV, R.bind_ok, isLst_of k5, if_true, mCons, e8]
    rfl
  | ok y g2 =>
    rw [e7] at h2
    obtain ⟨yv, h'', e8, Bl2, E, b⟩ := h2
    simp only [Rd.bindS]
    by_cases hlen : es.length < 16777216
    · rw [if_pos hlen]
      have s2 := s.step b
      obtain ⟨v2, vs2, n2, ws2, G2, l1, l2, l3, l4, l5, l6, lS, l7⟩ := s2.putDown hi hd nr hs hz
      rw [e0] at l1
      cases l1
      rw [s.seqKp hi hd hs e0 eS b.kp] at l2
      cases l2
      rw [eW] at l4
      cases l4
      have fr : ∀ x ∈ E, h.length ≤ x := fun x z => (b.fr x z).resolve_left sown_of
      have val := b.val.1
      refine ⟨h''.set n (.lst (ws2 ++ [yv])), ?_, (l7 (E := E) (l6.snoc val) (.refl _) b.nd (fun x hx p => ?_) (fun x hx p => ?_)).from (fun _ z => .inl z) (fun n z => b.up n z) (b.kp.fm s.pt), lS _⟩
      · simp only [mDrop, mMeth, m2, mVar, eV, R.bind_ok, isLst_of k5, if_true, mCons, e8, mNil, lApp, l5]
        rw [l6.length, if_pos hlen]
        rfl
      · rcases p with p | p
        · have := s.pt x p
          have := fr x hx
          omega
        · exact b.nb x hx p
      · have := (s.sl.lt x p).2
        have := fr x hx
        omega
    · rw [if_neg hlen]
      trivial
def uSet (i : Nat) (fx f : Di D) : Nat → List D → D → Dn → G → SD := fun j es d η g => (f η g).bindS fun y g1 => match fx η g1 with
  | .ok (.int a) g2 => (match ixN es.length a with
    | some l => .nx (η.set i (some (d.putSeq j (.lst (es.set l y))))) g2
    | none => .no)
  | _ => .no
theorem pa_set {i v : Nat} {e ix : Mi PV} {f fx : Di D} (he : PuX κ [] e f (PR .fr)) (hx : PuX κ [] ix fx (PR .rd)) (hi : κ[i]? = some .tr := by rfl) (nr : ∀ k ∈ κ, k ≠ .rk := by decide) :
    PuA κ i v (mAsg e (gSb (mVar v) ix)) (uSet i fx f) := by
  refine ⟨fun {Bz η g Pt Bl Fs ρ h j d ds es v0 w vs} s hd hs hz e0 eS eW eV => ?_⟩
  unfold uSet mAsg
  have h2 := he.run s
  cases e7 : f η g with
  | no => trivial
  | ex c g' =>
    rw [e7] at h2
    obtain ⟨c', h'', e8, q1, q2, q3⟩ := h2
    exact ⟨c', ρ, h'', by rw [e8]; rfl, q1.fm s.pt, q2, q3⟩
  | ok y g1 =>
    rw [e7] at h2
    obtain ⟨yv, h1, e8, Bl1, E, a⟩ := h2
    simp only [Rd.bindS]
    rw [e8]
    simp only [R.bindS]
    have s1 := s.step a
    have h3 := hx.run s1
    cases e9 : fx η g1 with
    | no => trivial
    | ex c g' => trivial
    | ok dj g2 =>
      cases dj with
      | int ai =>
        simp only []
        rw [e9] at h3
        obtain ⟨xw, h2, e10, Bl2, X, b⟩ := h3
        obtain ⟨rfl, rfl⟩ := int_of b.val
        have s2 := s1.step b
        cases hj : ixN es.length ai with
        | none => trivial
        | some l =>
          simp only []
          obtain ⟨v2, vs2, n, ws, G, l1, l2, l3, l4, l5, l6, lS, l7⟩ := s2.putDown hi hd nr hs hz
          rw [e0] at l1
          cases l1
          rw [s1.seqKp hi hd hs e0 (s.seqKp hi hd hs e0 eS a.kp) b.kp] at l2
          cases l2
          rw [eW] at l4
          cases l4
          have fr : ∀ x ∈ E, h.length ≤ x ∧ x < h1.length := fun x z => ⟨(a.fr x z).resolve_left sown_of, (a.val.1.lt x z).2⟩
          have val := (a.val.1.kp b.kp).up (BM.up b.up)
          obtain ⟨G', r1, sb⟩ := l6.set val l
          refine ⟨h2.set n (.lst (ws.set l yv)), ?_, (l7 (E := E) r1 sb a.nd (fun x hx p => ?_) (fun x hx p => ?_)).from (fun _ z => .inl (.inl z)) (fun n z => b.up n (a.up n z)) ((a.kp.trans b.kp).fm s.pt), lS _⟩
          · simp only [gSb, mVar, eV, R.thenR, e10, setV, l5]
            rw [l6.length, hj]
            rfl
          · rcases p with (p | p) | p
            · have := s.pt x p
              have := fr x hx
              omega
            · exact a.nb x hx p
            · rcases b.dn x p with p | p
              · exact a.nb x hx p
              · have := fr x hx
                omega
          · have := (s.sl.lt x p).2
            have := fr x hx
            omega
      | _ => trivial
def eachD (i : Nat) (u : Nat → List D → D → Dn → G → SD) : Nat → Nat → Dn → G → SD
  | 0, _, η, g => .nx η g
  | n + 1, j, η, g => match η[i]? with
    | some (some d) => (match d.seq with
      | some ds => (match ds[j]? with
        | some (.lst es) => (u j es d η g).loop (eachD i u n (j + 1))
        | _ => .no)
      | none => .no)
    | _ => .no
def dEach (i : Nat) (u : Nat → List D → D → Dn → G → SD) : Ds := fun η g => match η[i]? with
  | some (some d) => (match d.seq with
    | some ds => eachD i u ds.length 0 η g
    | none => .no)
  | _ => .no
theorem Stt.named {Bz : Nat → Prop} {η : Dn} {g : G} {Pt Bl : Nat → Prop} {Fs : List (List Nat)} {ρ : Pn} {h : HS} {v : Nat} {y : Option PV} (s : Stt Bz κ η g Pt Bl Fs ρ h) (hv : κ[v]? = some .xx) : ∃ Fs', Stt Bz κ η g Pt Bl Fs' (ρ.set v y) h := by
  obtain ⟨x, F, z, e1, e2, e3, _⟩ := s.sl.at hv
  have q := s.sl.set (Sl.xx x y) v
  have a1 : κ.set v .xx = κ := by
    apply List.ext_getElem?
    intro k
    rw [List.getElem?_set]
    split
    · rename_i e; subst e
      split
      · exact hv.symm
      · rename_i l; rw [List.getElem?_eq_none (by omega)]
    · rfl
  have a2 : η.set v x = η := by
    apply List.ext_getElem?
    intro k
    rw [List.getElem?_set]
    split
    · rename_i e; subst e
      split
      · exact e1.symm
      · rename_i l; rw [List.getElem?_eq_none (by omega)]
    · rfl
  rw [a1, a2] at q
  exact ⟨_, s.slots q (flat_set Fs v)⟩
theorem each_go {i v : Nat} {b : Ms} {u : Nat → List D → D → Dn → G → SD} (hb : PuA κ i v b u) (hi : κ[i]? = some .tr) (hv : κ[v]? = some .xx) (ne : v ≠ i) {Bz : Nat → Prop} {v0 : PV} {vs : List PV} : ∀ (n : Nat) {j : Nat} {η : Dn} {g : G} {Pt Bl : Nat → Prop} {Fs : List (List Nat)} {ρ : Pn} {h : HS}, Stt Bz κ η g Pt Bl Fs ρ h → vs.length = j + n → ρ[i]? = some (some v0) → seqOf h v0 = some vs →
    match eachD i u n j η g with
    | .nx η' g' => ∃ ρ' h', forGo (fun h' => seqOf h' v0 = some vs) (gNm v) b (vs.drop j) ρ h = .nx ρ' h' ∧ Nx Bz κ η' g' Pt Bl ρ' h h'
    | .ex c g' => ∃ c' ρ' h', forGo (fun h' => seqOf h' v0 = some vs) (gNm v) b (vs.drop j) ρ h = .ex c' ρ' h' ∧ Fm Pt h h' ∧ GR g' h' ∧ XR h' c' c
    | .no => True
    | _ => False
  | 0, j, η, g, Pt, Bl, Fs, ρ, h, s, hl, e0, eS => by
    simp only [eachD]
    rw [List.drop_eq_nil_of_le (by omega)]
    exact ⟨ρ, h, forGo_nil eS, s.nx⟩
  | n + 1, j, η, g, Pt, Bl, Fs, ρ, h, s, hl, e0, eS => by
    simp only [eachD]
    cases hd : η[i]? with
    | none => trivial
    | some o =>
      cases o with
      | none => trivial
      | some d =>
        simp only []
        cases hs : d.seq with
        | none => trivial
        | some ds =>
          simp only []
          cases hz : ds[j]? with
          | none => trivial
          | some z =>
            cases z with
            | lst es =>
              simp only []
              have hj : j < vs.length := by omega
              rw [List.drop_eq_getElem_cons hj, forGo_cons (guard := fun h' => seqOf h' v0 = some vs) eS]
              obtain ⟨Fs1, s1⟩ := s.named (y := some vs[j]) hv
              have l : v < ρ.length := by
                obtain ⟨_, _, _, _, _, e3, _⟩ := s.sl.at hv
                exact (List.getElem?_eq_some_iff.mp e3).1
              have h1 := hb.run (w := vs[j]) s1 hd hs hz (by rw [List.getElem?_set_ne ne]; exact e0) eS (List.getElem?_eq_getElem hj) (by rw [List.getElem?_set_self l])
              simp only [gNm, R.thenS_ok]
              cases e5 : u j es d η g with
              | no => trivial
              | rt d g' => rw [e5] at h1; exact h1.elim
              | bk d g' => rw [e5] at h1; exact h1.elim
              | ct d g' => rw [e5] at h1; exact h1.elim
              | ex c g' =>
                rw [e5] at h1
                obtain ⟨c', ρ', h', e6, q⟩ := h1
                rw [e6]
                exact ⟨c', ρ', h', rfl, q⟩
              | nx η1 g1 =>
                rw [e5] at h1
                obtain ⟨h', e6, ⟨P2, B2, F2, s2, p2, b2, f2⟩, eS2⟩ := h1
                rw [e6]
                have h2 := each_go hb hi hv ne n (j := j + 1) s2 (by omega) (by rw [List.getElem?_set_ne ne]; exact e0) eS2
                simp only [SD.loop, SR.loop]
                cases e7 : eachD i u n (j + 1) η1 g1 with
                | no => trivial
                | rt d g' => rw [e7] at h2; exact h2.elim
                | bk d g' => rw [e7] at h2; exact h2.elim
                | ct d g' => rw [e7] at h2; exact h2.elim
                | ex c g' =>
                  rw [e7] at h2
                  obtain ⟨c', ρ', h'', e8, q1, q2, q3⟩ := h2
                  exact ⟨c', ρ', h'', e8, f2.trans p2 q1, q2, q3⟩
                | nx η2 g2 =>
                  rw [e7] at h2
                  obtain ⟨ρ', h'', e8, q⟩ := h2
                  exact ⟨ρ', h'', e8, q.from p2 b2 f2⟩
            | _ => trivial
theorem ps_each {i v : Nat} {b : Ms} {u : Nat → List D → D → Dn → G → SD} (hb : PuA κ i v b u) (hi : κ[i]? = some .tr := by rfl) (hv : κ[v]? = some .xx := by rfl) (ne : v ≠ i := by decide) : PuS rm κb κ κ (mFor (m1 srcOf (mVar i)) (gNm v) b) (dEach i u) := by
  refine ⟨fun {Bz η g Pt Bl Fs ρ h} s => ?_⟩
  unfold dEach
  cases hd : η[i]? with
  | none => trivial
  | some o =>
    cases o with
    | none => trivial
    | some d =>
      simp only []
      cases hs : d.seq with
      | none => trivial
      | some ds =>
        simp only []
        obtain ⟨x, F, y, e1, e2, e3, q⟩ := s.sl.at hi
        rw [hd] at e1
        cases e1
        cases q with
        | @tr v0 _ _ r =>
          obtain ⟨vs, G2, k10, k11, _⟩ := r.seq hs
          have es : srcOf v0 h = .ok ⟨vs, fun h' => seqOf h' v0 = some vs⟩ h := by simp only [srcOf, k10]
          have h1 := each_go hb hi hv ne ds.length (j := 0) s (by rw [k11.length]; omega) e3 k10
          have em : mFor (m1 srcOf (mVar i)) (gNm v) b ρ h = forGo (fun h' => seqOf h' v0 = some vs) (gNm v) b (vs.drop 0) ρ h := by
            simp only [mFor, m1, mVar, e3, R.bind_ok, es, R.bindS, List.drop_zero]
          rw [em]
          cases e7 : eachD i u ds.length 0 η g with
          | no => trivial
          | rt d g' => rw [e7] at h1; exact h1.elim
          | bk d g' => rw [e7] at h1; exact h1.elim
          | ct d g' => rw [e7] at h1; exact h1.elim
          | ex c g' => rw [e7] at h1; exact h1
          | nx η2 g2 => rw [e7] at h1; exact h1
end
end Lt
namespace Lt
open PySem PySem.Spec PyProof.Rows L2
/-! ### list(range(..)) -/
def rgPV (a b : Int) : List PV := (List.range (b - a).toNat).map fun (i : Nat) => PV.int (a + (i : Int))
noncomputable def lrg (a b : Int) (h : HS) : R PV := @ite _ (-1000000 ≤ a ∧ a ≤ 1000000 ∧ -1000000 ≤ b ∧ b ≤ 1000000) (Classical.propDecidable _) (.ok (.ref h.length) (h ++ [.lst (rgPV a b)])) .no
noncomputable def lrg1 (v : PV) (h : HS) : R PV := match v with
  | .int b => lrg 0 b h
  | _ => .no
noncomputable def lrg2 (v w : PV) (h : HS) : R PV := match v, w with
  | .int a, .int b => lrg a b h
  | _, _ => .no
section
variable {X : Cx} {W : WX} {pos p p2 : Pos}
theorem rgPV_rv {m : List Addr} {H : Hp} (a b : Int) : RVs m H (rgPV a b) (rgV a b) := by
  unfold rgPV rgV
  induction List.range (b - a).toNat with
  | nil => exact .nil
  | cons k ks ih => exact .cons (.int _) ih
theorem rgOk_of {a b : Int} (h : -1000000 ≤ a ∧ a ≤ 1000000 ∧ -1000000 ≤ b ∧ b ≤ 1000000) : RgOk a b := by
  unfold RgOk
  refine ⟨by omega, by omega, by omega, by omega, ?_⟩
  have : (b - a).toNat ≤ 2000000 := by omega
  exact Nat.le_trans this (by decide)
theorem em_listRg1 {a : Expr} {ma : Mi PV} (hl : X.mg "list" = none) (hr : X.mg "range" = none) (ha : PEm X W a ma) (hc : X.calm = true := by rfl) (hg : Gl X "list" := by rfl) (hg2 : Gl X "range" := by rfl)
    (h1 : starEach [.Call (.Name "range" p2) [a] [] p] X.env = (false, eval (.Call (.Name "range" p2) [a] [] p) X.env) :: starEach [] X.env := by rfl) (h2 : starEach [a] X.env = (false, eval a X.env) :: starEach [] X.env := by rfl) {p3 : Pos} :
    PEm X W (.Call (.Name "list" p3) [.Call (.Name "range" p2) [a] [] p] [] pos) (m1 lrg1 ma) :=
  wkE (pe_listRg hc hg hl (prg_1 hg2 hr ha h2) h1) fun σ H Q ⟨m, ρ, h, s, rs, o⟩ => ⟨m, ρ, h, s, rs, o.bind.mono fun x H1 ⟨m1, h1, v, l1, s1, r1, o1⟩ => by
    unfold lrg1 lrg at o1
    split at o1
    · cases r1
      split at o1
      · rename_i hb
        exact ⟨_, rfl, rgOk_of hb, fun q hq => new_lst s1 (rgPV_rv _ _) hq o1⟩
      · exact o1.elim
    · exact o1.elim⟩
theorem em_listRg2 {a b : Expr} {ma mb : Mi PV} (hl : X.mg "list" = none) (hr : X.mg "range" = none) (ha : PEm X W a ma) (hb : PEm X W b mb) (hc : X.calm = true := by rfl) (hg : Gl X "list" := by rfl) (hg2 : Gl X "range" := by rfl)
    (h1 : starEach [.Call (.Name "range" p2) [a, b] [] p] X.env = (false, eval (.Call (.Name "range" p2) [a, b] [] p) X.env) :: starEach [] X.env := by rfl) (h2 : starEach [a, b] X.env = (false, eval a X.env) :: starEach [b] X.env := by rfl) (h3 : starEach [b] X.env = (false, eval b X.env) :: starEach [] X.env := by rfl) (h4 : ((backTo p (starEach [b] X.env)).any fun x => x.fst) = false := by rfl) {p3 : Pos} :
    PEm X W (.Call (.Name "list" p3) [.Call (.Name "range" p2) [a, b] [] p] [] pos) (m2 lrg2 ma mb) :=
  wkE (pe_listRg hc hg hl (prg_2 hg2 hr ha hb h2 h3 h4) h1) fun σ H Q ⟨m, ρ, h, s, rs, o⟩ => ⟨m, ρ, h, s, rs, o.bind.mono fun x H1 ⟨m1, h1, v, l1, s1, r1, o1⟩ => ⟨m1, ρ, h1, s1, rs.le l1, o1.bind.mono fun y H2 ⟨m2, h2', w, l2, s2, r2, o2⟩ => by
    unfold lrg2 lrg at o2
    split at o2
    · cases r1
      cases r2
      split at o2
      · rename_i hb
        exact ⟨_, _, rfl, rfl, rgOk_of hb, fun q hq => new_lst s2 (rgPV_rv _ _) hq o2⟩
      · exact o2.elim
    · exact o2.elim⟩⟩
end
/-! and on data -/
noncomputable def lrgD (a b : Int) : Option (List D) := @ite _ (-1000000 ≤ a ∧ a ≤ 1000000 ∧ -1000000 ≤ b ∧ b ≤ 1000000) (Classical.propDecidable _) (some (rngL a (b - a).toNat)) none
noncomputable def lrg1T : D → Option (List D)
  | .int b => lrgD 0 b
  | _ => none
noncomputable def lrg2T : D × D → Option (List D)
  | (.int a, .int b) => lrgD a b
  | _ => none
@[simp] theorem lrg1T_is {b : Int} (h3 : 0 ≤ b) (h4 : b ≤ 1000000) : lrg1T (.int b) = some (rngL 0 b.toNat) := by
  show lrgD 0 b = _
  unfold lrgD
  rw [if_pos ⟨by decide, by decide, by omega, h4⟩, Int.sub_zero]
@[simp] theorem lrg2T_is {a b : Int} (h1 : -1000000 ≤ a) (h2 : a ≤ 1000000) (h3 : -1000000 ≤ b) (h4 : b ≤ 1000000) : lrg2T (.int a, .int b) = some (rngL a (b - a).toNat) := if_pos ⟨h1, h2, h3, h4⟩
theorem ows_rg {h : HS} {B : Nat → Prop} (a b : Int) : Ows h B (rgPV a b) (rngL a (b - a).toNat) [] := by
  unfold rgPV rngL
  induction List.range (b - a).toNat with
  | nil => exact .nil
  | cons k ks ih => exact .cons (F := []) (.int _) ih
theorem lrg_of {a b : Int} {h : HS} {ds : List D} (e : lrgD a b = some ds) : lrg a b h = .ok (.ref h.length) (h ++ [.lst (rgPV a b)]) ∧ ds = rngL a (b - a).toNat := by
  unfold lrgD at e
  split at e
  · rename_i hc
    cases e
    exact ⟨if_pos hc, rfl⟩
  · cases e
theorem pp_lrg1 : Op (PR .rd) (PR .fr) lrg1 (dO fun b => (lrg1T b).map .lst) := op_new (by decide) fun a b h B F ds p e => by
  unfold lrg1T at e
  split at e
  · obtain ⟨e1, rfl⟩ := lrg_of (h := h) e
    rw [(int_of p).1]
    exact ⟨_, [], e1, ows_rg _ _, .of (List.nil_sublist _)⟩
  · cases e
theorem pp_lrg2 : Op RR (PR .fr) (fun p => lrg2 p.1 p.2) (dO fun b => (lrg2T b).map .lst) := op_new (by decide) fun a b h B F ds p e => by
  obtain ⟨F1, F2, _, p1, p2⟩ := p
  obtain ⟨v, w⟩ := a
  obtain ⟨d1, d2⟩ := b
  unfold lrg2T at e
  split at e
  · rename_i heq
    cases heq
    obtain ⟨e1, rfl⟩ := lrg_of (h := h) e
    refine ⟨_, [], ?_, ows_rg _ _, .of (List.nil_sublist _)⟩
    have q1 : v = _ := (int_of p1).1
    have q2 : w = _ := (int_of p2).1
    subst q1 q2
    exact e1
  · cases e
noncomputable def lrg2D : D → D → G → Rd D := fun x y => dO (fun b => (lrg2T b).map .lst) (x, y)
/-! ### int(..) of a number or a truth value -/
def intV (x : PV) (h : HS) : R PV := match x with
  | .int i => .ok (.int i) h
  | .bl b => .ok (.int (if b then 1 else 0)) h
  | _ => .no
theorem b_int {X : Cx} {W : WX} : CallM X W (.type "int") (c1 intV) := by
  refine ⟨_, call_int1, fun m h H σ Q xs vs s r o => ?_⟩
  obtain ⟨x, v, rfl, r, o⟩ := c1_out r o
  unfold intV at o
  split at o
  · cases r
    exact .inl ⟨_, rfl, o_int s o⟩
  · cases r
    exact .inr ⟨_, rfl, o_int s o⟩
  · exact o.elim
def intT : D → Option D
  | .int i => some (.int i)
  | .bl b => some (.int (if b then 1 else 0))
  | _ => none
@[simp] theorem intT_int (i : Int) : intT (.int i) = some (.int i) := rfl
@[simp] theorem intT_bl (b : Bool) : intT (.bl b) = some (.int (if b then 1 else 0)) := rfl
theorem pp_int : Op (PR .rd) (PR .fr) intV (dO intT) := op_flat fun a b h B F d p e => by
  obtain ⟨p, _⟩ := p
  cases p <;> simp only [intT] at e <;> cases e
  · exact ⟨_, rfl, .int _⟩
  · exact ⟨_, rfl, .int _⟩
end Lt
namespace Lt
open PySem L2
section
variable {rm : Md} {κb κ κ1 κ' : List Kd} {S : List Nat}
/-! ### x[i][j] = e -/
def dSetDown (i : Nat) (fx fx2 f : Di D) : Ds := fun η g => (f η g).bindS fun y g1 => match fx η g1 with
  | .ok (.int a) g2 => (match η[i]? with
    | some (some d) => (match d.seq with
      | some ds => (match ixN ds.length a with
        | some j => (match ds[j]? with
          | some (.lst es) => (match fx2 η g2 with
            | .ok (.int b) g3 => (match ixN es.length b with
              | some l => .nx (η.set i (some (d.putSeq j (.lst (es.set l y))))) g3
              | none => .no)
            | _ => .no)
          | _ => .no)
        | none => .no)
      | none => .no)
    | _ => .no)
  | _ => .no
theorem su_setDown {i : Nat} {e ix ix2 : Mi PV} {f fx fx2 : Di D} (he : PuX κ [] e f (PR .fr)) (hx : PuX κ [] ix fx (PR .rd)) (hx2 : PuX κ [] ix2 fx2 (PR .rd)) (hi : κ[i]? = some .tr := by rfl) (nr : ∀ k ∈ κ, k ≠ .rk := by decide) :
    PuS rm κb κ κ (mAsg e (gSb (m2 getV (mVar i) ix) ix2)) (dSetDown i fx fx2 f) := by
  refine ⟨fun {Bz η g Pt Bl Fs ρ h} s => ?_⟩
  unfold dSetDown mAsg
  have h2 := he.run s
  cases e7 : f η g with
  | no => trivial
  | ex c g' =>
    rw [e7] at h2
    obtain ⟨c', h'', e8, q1, q2, q3⟩ := h2
    exact ⟨c', ρ, h'', by rw [e8]; rfl, q1.fm s.pt, q2, q3⟩
  | ok y g1 =>
    rw [e7] at h2
    obtain ⟨yv, h1, e8, Bl1, E, a⟩ := h2
    simp only [Rd.bindS]
    rw [e8]
    simp only [R.bindS]
    have s1 := s.step a
    have h3 := hx.run s1
    cases e9 : fx η g1 with
    | no => trivial
    | ex c g' => trivial
    | ok dj g2 =>
      cases dj with
      | int ai =>
        simp only []
        rw [e9] at h3
        obtain ⟨xw, h2, e10, Bl2, X, b⟩ := h3
        obtain ⟨rfl, rfl⟩ := int_of b.val
        have s2 := s1.step b
        cases hd : η[i]? with
        | none => trivial
        | some o =>
          cases o with
          | none => trivial
          | some d =>
            simp only []
            cases hs : d.seq with
            | none => trivial
            | some ds =>
              simp only []
              cases hj : ixN ds.length ai with
              | none => trivial
              | some j =>
                simp only []
                cases hz : ds[j]? with
                | none => trivial
                | some z =>
                  cases z with
                  | lst es =>
                    simp only []
                    have h4 := hx2.run s2
                    cases e11 : fx2 η g2 with
                    | no => trivial
                    | ex c g' => trivial
                    | ok dk g3 =>
                      cases dk with
                      | int bi =>
                        simp only []
                        rw [e11] at h4
                        obtain ⟨xw2, h3', e12, Bl3, X2, c⟩ := h4
                        obtain ⟨rfl, rfl⟩ := int_of c.val
                        have s3 := s2.step c
                        cases hl : ixN es.length bi with
                        | none => trivial
                        | some l =>
                          simp only []
                          obtain ⟨v0, vs, n, ws, G, k1, k2, k3, k4, k5, k6, _, _⟩ := s2.putDown hi hd nr hs hz
                          obtain ⟨v2, vs2, n2, ws2, G2, l1, l2, l3, l4, l5, l6, lS, l7⟩ := s3.putDown hi hd nr hs hz
                          have e0 := k1
                          rw [e0] at l1
                          cases l1
                          rw [s2.seqKp hi hd hs e0 k2 c.kp] at l2
                          cases l2
                          rw [k4] at l4
                          cases l4
                          have fr : ∀ x ∈ E, h.length ≤ x ∧ x < h1.length := fun x z => ⟨(a.fr x z).resolve_left sown_of, (a.val.1.lt x z).2⟩
                          have val := ((a.val.1.kp b.kp).up (BM.up b.up)).kp c.kp |>.up (BM.up c.up)
                          obtain ⟨G', r1, sb⟩ := l6.set val l
                          have hle : h1.length ≤ h2.length := b.kp.le
                          refine ⟨ρ, h3'.set n (.lst (ws2.set l yv)), ?_, (l7 (E := E) r1 sb a.nd (fun x hx p => ?_) (fun x hx p => ?_)).from (fun _ z => .inl (.inl (.inl z))) (fun n z => c.up n (b.up n (a.up n z))) (((a.kp.trans b.kp).trans c.kp).fm s.pt)⟩
                          · simp only [gSb, m2, mVar, e0, R.bind_ok, e10, getV_at k2 (by rw [k3]; exact hj) k4, R.thenR, e12, setV, l5]
                            rw [l6.length, hl]
                            rfl
                          · have h1 := fr x hx
                            rcases p with ((p | p) | p) | p
                            · have := s.pt x p
                              omega
                            · exact a.nb x hx p
                            · rcases b.dn x p with p | p
                              · exact a.nb x hx p
                              · omega
                            · rcases c.dn x p with p | p
                              · rcases b.dn x p with p | p
                                · exact a.nb x hx p
                                · omega
                              · omega
                          · have := (s.sl.lt x p).2
                            have := fr x hx
                            omega
                      | _ => trivial
                  | _ => trivial
      | _ => trivial
/-! ### a pair of its own taken apart -/
def dUnp (x i j : Nat) : Ds := fun η g => match η[x]? with
  | some (some (.tup [d1, d2])) => .nx ((η.set i (some d1)).set j (some d2)) g
  | _ => .no
theorem sa_unp {x i j : Nat} (hi : κ[x]? = some .tr := by rfl) : PuS rm κb κ (((κ.set x .xx).set i .tr).set j .tr) (mAsg (mVar x) (gTp 2 (gC (gNm i) (gC (gNm j) gN0)))) (dUnp x i j) := by
  refine ⟨fun {Bz η g Pt Bl Fs ρ h} s => ?_⟩
  by_cases hq : ∃ d1 d2, η[x]? = some (some (.tup [d1, d2]))
  · obtain ⟨d1, d2, hd⟩ := hq
    have ed : dUnp x i j η g = .nx ((η.set i (some d1)).set j (some d2)) g := by
      unfold dUnp
      rw [hd]
    rw [ed]
    obtain ⟨x0, F, y, e1, e2, e3, q⟩ := s.sl.at hi
    rw [hd] at e1
    cases e1
    cases q with
    | @tr v _ _ r =>
      cases r with
      | @tup vs _ _ r =>
        cases r with
        | @cons v1 _ vs _ F1 G1 r1 t =>
          cases t with
          | @cons v2 _ vs _ F2 G2 r2 t =>
            cases t
            have nd := (List.pairwise_flatten.mp s.nd).1 _ (List.mem_of_getElem? e2)
            rw [List.append_nil] at nd e2
            obtain ⟨n1, n2, n3⟩ := List.nodup_append.mp nd
            have s0 : Stt Bz (κ.set x .xx) η g Pt Bl (Fs.set x []) ρ h := by
              have q := s.sl.set (Sl.xx (h := h) (Pt := Pt) (Bl := Bl) (some (.tup [d1, d2])) (some (.tup [v1, v2]))) x
              have a2 : η.set x (some (.tup [d1, d2])) = η := by
                apply List.ext_getElem?
                intro k
                rw [List.getElem?_set]
                split
                · rename_i e; subst e
                  split
                  · exact hd.symm
                  · rename_i l; rw [List.getElem?_eq_none (by omega)]
                · rfl
              have a3 : ρ.set x (some (.tup [v1, v2])) = ρ := by
                apply List.ext_getElem?
                intro k
                rw [List.getElem?_set]
                split
                · rename_i e; subst e
                  split
                  · exact e3.symm
                  · rename_i l; rw [List.getElem?_eq_none (by omega)]
                · rfl
              rw [a2, a3] at q
              exact s.slots q (flat_set Fs x)
            have out : ∀ n ∈ F1 ++ F2, n ∉ (Fs.set x []).flatten := fun n hn => flat_rest s.nd e2 n hn
            have np : ∀ n ∈ F1 ++ F2, ¬ Pt n := fun n hn => s.fl n (List.mem_flatten.mpr ⟨_, List.mem_of_getElem? e2, hn⟩)
            have s1 := s0.own_new i (.tr r1) n1 (fun n z => np n (List.mem_append_left _ z)) fun n z => out n (List.mem_append_left _ z)
            have s2 := s1.own_new j (.tr r2) n2 (fun n z => np n (List.mem_append_right _ z)) fun n z p => (List.mem_append.mp ((flat_setF (Fs.set x []) i F1).sub n p)).elim (out n (List.mem_append_right _ z)) fun p => n3 n p n z rfl
            refine ⟨(ρ.set i (some v1)).set j (some v2), h, ?_, ⟨_, _, _, s2, fun _ z => z, fun _ z => z, .refl⟩⟩
            simp only [mAsg, mVar, e3, R.bindS, gTp, seqOf_tup, List.length_cons, List.length_nil, if_true, gC, gNm, R.thenR, gN0, R.thenS]
  · have ed : dUnp x i j η g = .no := by
      unfold dUnp
      split
      · rename_i d1 d2 hd
        exact absurd ⟨d1, d2, hd⟩ hq
      · rfl
    rw [ed]
    trivial
/-! ### an own list put into another one -/
theorem Stt.drop {Bz : Nat → Prop} {η : Dn} {g : G} {Pt Bl : Nat → Prop} {Fs : List (List Nat)} {ρ : Pn} {h : HS} {y : Nat} {d : D} (s : Stt Bz κ η g Pt Bl Fs ρ h) (hy : κ[y]? = some .tr) (hd : η[y]? = some (some d)) :
    ∃ v F, ρ[y]? = some (some v) ∧ Ow h BF v d F ∧ F.Nodup ∧ (∀ n ∈ F, ¬ Pt n) ∧ (∀ n ∈ F, n ∉ (Fs.set y []).flatten) ∧ Stt Bz (κ.set y .xx) η g Pt Bl (Fs.set y []) ρ h := by
  obtain ⟨x0, F, w, e1, e2, e3, q⟩ := s.sl.at hy
  rw [hd] at e1
  cases e1
  cases q with
  | @tr v _ _ r =>
    refine ⟨v, F, e3, r, (List.pairwise_flatten.mp s.nd).1 _ (List.mem_of_getElem? e2), fun n hn => s.fl n (List.mem_flatten.mpr ⟨_, List.mem_of_getElem? e2, hn⟩), fun n hn => flat_rest s.nd e2 n hn, ?_⟩
    have q := s.sl.set (Sl.xx (h := h) (Pt := Pt) (Bl := Bl) (some d) (some v)) y
    have a2 : η.set y (some d) = η := by
      apply List.ext_getElem?
      intro k
      rw [List.getElem?_set]
      split
      · rename_i e; subst e
        split
        · exact hd.symm
        · rename_i l; rw [List.getElem?_eq_none (by omega)]
      · rfl
    have a3 : ρ.set y (some v) = ρ := by
      apply List.ext_getElem?
      intro k
      rw [List.getElem?_set]
      split
      · rename_i e; subst e
        split
        · exact e3.symm
        · rename_i l; rw [List.getElem?_eq_none (by omega)]
      · rfl
    rw [a2, a3] at q
    exact s.slots q (flat_set Fs y)
theorem su_appMv {i y : Nat} (hi : κ[i]? = some .tr := by rfl) (hy : κ[y]? = some .tr := by rfl) (ne : y ≠ i := by decide) (nr : ∀ k ∈ κ.set y .xx, k ≠ .rk := by decide) : PuS rm κb κ (κ.set y .xx) (mDrop (mMeth isLst lApp (mVar i) (mCons (mVar y) mNil))) (dApp i (dVar y)) := by
  refine ⟨fun {Bz η g Pt Bl Fs ρ h} s => ?_⟩
  unfold dApp dVar
  cases hd : η[i]? with
  | none => trivial
  | some o =>
    cases o with
    | none => trivial
    | some d0 =>
      cases d0 with
      | lst ds =>
        simp only []
        cases hd2 : η[y]? with
        | none => trivial
        | some o =>
          cases o with
          | none => trivial
          | some d =>
            simp only [Rd.bindS]
            by_cases hlen : ds.length < 16777216
            · rw [if_pos hlen]
              obtain ⟨v, F, e1, r, nF, nP, out, s0⟩ := s.drop hy hd2
              have hi' : (κ.set y .xx)[i]? = some .tr := by rw [List.getElem?_set_ne ne]; exact hi
              obtain ⟨n, vs, F', f1, f2, f3, r', h2⟩ := s0.ownAt hi' (.inl rfl) hd
              refine ⟨ρ, h.set n (.lst (vs ++ [v])), ?_, s0.putTop hi' (.inl rfl) hd nr f1 f2 h2 (get_lt f3) (r'.snoc r) (.refl _) nF nP out⟩
              simp only [mDrop, mMeth, mVar, f1, e1, R.bind_ok, isLst_of f3, if_true, mCons, m2, mNil, lApp, f3]
              rw [r'.length, if_pos hlen]
              rfl
            · rw [if_neg hlen]
              trivial
      | _ => trivial
end
end Lt
namespace Lt
open PySem PySem.Spec PyProof.Rows L2
/-! ### list.pop(i) -/
noncomputable def lPopAt : PV → List PV → HS → R PV := fun x xs h => match x, xs with
  | .ref n, [.int i] => match h[n]? with
    | some (.lst ys) => @ite _ (-1000000 ≤ i ∧ i ≤ 1000000) (Classical.propDecidable _) (match ixN ys.length i with
      | some k => match ys[k]? with
        | some y => .ok y (h.set n (.lst (ys.eraseIdx k)))
        | none => .no
      | none => .no) .no
    | _ => .no
  | _, _ => .no
theorem seqIndex_ixN {n : Nat} {i : Int} {k : Nat} (h : ixN n i = some k) : seqIndex? i n = some k := by
  unfold ixN at h
  unfold seqIndex?
  split at h
  · rename_i h0
    split at h
    · rename_i h1
      cases h
      simp [show ¬ i < 0 by omega, h0, h1]
    · cases h
  · rename_i h0
    split at h
    · rename_i h1
      cases h
      have : 0 ≤ i + (n : Int) := by omega
      have h2 : i + (n : Int) < n := by omega
      simp [show i < 0 by omega, this, h2]
    · cases h
theorem RVs.erase {m : List Addr} {H : Hp} {xs : List PV} {vs : List V} (r : RVs m H xs vs) (k : Nat) : RVs m H (xs.eraseIdx k) (vs.eraseIdx k) := by
  rw [List.eraseIdx_eq_take_drop_succ, List.eraseIdx_eq_take_drop_succ]
  exact (r.take k).app (r.drop (k + 1))
theorem l_popAt {X : Cx} {W : WX} : MtM' X W "list.pop" lPopAt := by
  refine ⟨_, mt_popAt, fun m h H σ Q x xs v vs s r rr o => ?_⟩
  unfold lPopAt at o
  split at o
  · rename_i n i
    obtain ⟨w0, rfl, ri⟩ := rr.one
    cases ri
    split at o
    · rename_i ys e
      split at o
      · rename_i hb
        split at o
        · rename_i k ek
          split at o
          · rename_i y ey
            cases r with
            | ref g =>
              obtain ⟨us, q, rz⟩ := s.obj _ _ _ e g
              obtain ⟨w, ew, rw'⟩ := rz.get ey
              exact ⟨_, us, i, k, w, rfl, rfl, q, by omega, by omega, by rw [← rz.length]; exact seqIndex_ixN ek, ew, new_put s e g q (rz.erase k) rw' o⟩
          · exact o.elim
        · exact o.elim
      · exact o.elim
    · exact o.elim
  · exact o.elim
end Lt
namespace Lt
open PySem L2
/-! ### y = x.pop(i), of an own list -/
theorem Ows.erase {h : HS} {B : Nat → Prop} : ∀ {vs : List PV} {ds : List D} {F : List Nat} {k : Nat} {d : D}, Ows h B vs ds F → ds[k]? = some d → ∃ v F1 G F2, vs[k]? = some v ∧ Ow h B v d G ∧ F = F1 ++ (G ++ F2) ∧ Ows h B (vs.eraseIdx k) (ds.eraseIdx k) (F1 ++ F2)
  | _, _, _, _, _, .nil, e => by simp at e
  | _, _, _, 0, d, .cons (F := F1) (G := F2) r t, e => by
    simp at e
    subst e
    exact ⟨_, [], F1, F2, rfl, r, rfl, t⟩
  | _, _, _, k + 1, d, .cons (F := Fa) r t, e => by
    obtain ⟨v, F1, G, F2, e1, q1, rfl, q2⟩ := Ows.erase (k := k) (d := d) t (by simpa using e)
    refine ⟨v, Fa ++ F1, G, F2, by simpa using e1, q1, by rw [List.append_assoc], ?_⟩
    rw [List.append_assoc]
    exact .cons r q2
section
variable {rm : Md} {κb κ κ1 κ' : List Kd} {S : List Nat}
def dPopAt (i j : Nat) (f : Di D) : Ds := fun η g => match f η g with
  | .ok (.int a) g1 => if -1000000 ≤ a ∧ a ≤ 1000000 then (match η[i]? with
    | some (some (.lst ds)) => (match ixN ds.length a with
      | some k => (match ds[k]? with
        | some d => .nx ((η.set i (some (.lst (ds.eraseIdx k)))).set j (some d)) g1
        | none => .no)
      | none => .no)
    | _ => .no) else .no
  | _ => .no
theorem su_popAt {k : Kd} {i j : Nat} {e : Mi PV} {f : Di D} (he : PuX κ [] e f (PR .rd)) (hi : κ[i]? = some k := by rfl) (hk : Own k := by decide) (nr : ∀ k ∈ κ, k ≠ .rk := by decide) : PuS rm κb κ (κ.set j .im) (mAsg (mMeth isLst lPopAt (mVar i) (mCons e mNil)) (gNm j)) (dPopAt i j f) := by
  refine ⟨fun {Bz η g Pt Bl Fs ρ h} s0 => ?_⟩
  have h1 := he.run s0
  unfold dPopAt
  cases e5 : f η g with
  | no => trivial
  | ex c g' => trivial
  | ok da g1 =>
    cases da with
    | int a =>
      simp only []
      rw [e5] at h1
      obtain ⟨w, h', e6, Bl', X, b⟩ := h1
      obtain ⟨rfl, rfl⟩ := int_of b.val
      by_cases hb : -1000000 ≤ a ∧ a ≤ 1000000
      · rw [if_pos hb]
        cases hd : η[i]? with
        | none => trivial
        | some o =>
          cases o with
          | none => trivial
          | some d0 =>
            cases d0 with
            | lst ds =>
              simp only []
              cases hx : ixN ds.length a with
              | none => trivial
              | some kk =>
                simp only []
                cases hl : ds[kk]? with
                | none => trivial
                | some d =>
                  simp only []
                  obtain ⟨n0, vs0, F0, e01, e02, e03, _, _⟩ := s0.ownAt hi hk hd
                  have s := s0.step b
                  obtain ⟨n, vs, F, e1, e2, e3, r, h2⟩ := s.ownAt hi hk hd
                  have en : n = n0 := by
                    rw [e01] at e1
                    cases e1
                    rfl
                  subst en
                  have vl := r.length
                  obtain ⟨v, F1, L, F2, ev, q2, rfl, q1⟩ := r.erase hl
                  have nF : n ∈ Fs.flatten := List.mem_flatten.mpr ⟨_, List.mem_of_getElem? e2, .head _⟩
                  have nP := s.fl n nF
                  have nB : ¬ Bl' n := fun z => nP (s.bl n z).1
                  have nBO : ¬ BO k Bl' n := by
                    rcases hk with rfl | rfl
                    · exact fun z => z
                    · exact nB
                  have nd : (n :: (F1 ++ (L ++ F2))).Nodup := (List.pairwise_flatten.mp s.nd).1 _ (List.mem_of_getElem? e2)
                  have nd1 := List.nodup_cons.mp nd
                  have nd2 := List.nodup_append.mp nd1.2
                  have nd3 := List.nodup_append.mp nd2.2.1
                  have nG : n ∉ F1 ++ F2 := fun z => nd1.1 ((List.mem_append.mp z).elim (fun z => List.mem_append_left _ z) fun z => List.mem_append_right _ (List.mem_append_right _ z))
                  have nL : n ∉ L := fun z => nd1.1 (List.mem_append_right _ (List.mem_append_left _ z))
                  obtain ⟨a', b'⟩ := s.putAt (h' := h'.set n (.lst (vs.eraseIdx kk))) (F' := n :: (F1 ++ F2)) (E := []) (d' := .lst (ds.eraseIdx kk)) hi hk hd nr e01 e2 (.head _) rfl (.own h2 (by rw [List.getElem?_set_self (get_lt e3)]) (q1.off nG nBO)) (fun ds e => ⟨n, _, rfl, rfl⟩) (by
                    rw [List.append_nil]
                    exact .of (List.Sublist.cons₂ n (List.Sublist.append (List.Sublist.refl F1) (List.sublist_append_right L F2)))) List.nodup_nil (fun x z => absurd z List.not_mem_nil) (fun x z => absurd z List.not_mem_nil) h2
                  have LF : ∀ x ∈ L, x ∈ Fs.flatten := fun x hx => List.mem_flatten.mpr ⟨_, List.mem_of_getElem? e2, .tail _ (List.mem_append_right _ (List.mem_append_left _ hx))⟩
                  have Lout : ∀ x ∈ L, x ∉ (Fs.set i (n :: (F1 ++ F2))).flatten := fun x hx z => by
                    have sb := flat_setF (Fs.set i []) i (n :: (F1 ++ F2))
                    rw [List.set_set] at sb
                    rcases List.mem_append.mp (sb.sub x z) with z | z
                    · exact flat_rest s.nd e2 x (.tail _ (List.mem_append_right _ (List.mem_append_left _ hx))) z
                    · rcases List.mem_cons.mp z with rfl | z
                      · exact nL hx
                      · rcases List.mem_append.mp z with z | z
                        · exact nd2.2.2 x z x (List.mem_append_left _ hx) rfl
                        · exact nd3.2.2 x hx x z rfl
                  have s3 : Stt Bz κ (η.set i (some (.lst (ds.eraseIdx kk)))) g1 (fun m => (Pt m ∨ Bl' m) ∨ m ∈ L) (fun m => Bl' m ∨ m ∈ L) (Fs.set i (n :: (F1 ++ F2))) ρ (h'.set n (.lst (vs.eraseIdx kk))) :=
                    ⟨a'.gr, a'.sl.up .refl (fun _ => .inl) (fun _ => .inl), a'.nd, fun x hx z => z.elim (a'.fl x hx) fun z => Lout x z hx, fun x z => by
                      rw [List.length_set]
                      exact z.elim (s.pt x) fun z => (s.sl.lt x (LF x z)).2, fun x z => z.elim (fun z => ⟨.inl (s.bl x z).1, (s.bl x z).2⟩) fun z => ⟨.inr z, s.bz x (s.fl x (LF x z))⟩, fun x z => s.bz x fun p => z (.inl p)⟩
                  have q3 : Ow (h'.set n (.lst (vs.eraseIdx kk))) (fun m => Bl' m ∨ m ∈ L) v d [] := (q2.off nL nBO).lend (fun m z => by
                    rcases hk with rfl | rfl
                    · exact z.elim
                    · exact .inl z) fun m z => .inr z
                  refine ⟨ρ.set j (some v), h'.set n (.lst (vs.eraseIdx kk)), ?_, Nx.from (show Nx Bz _ _ _ (fun m => Pt m ∨ Bl' m) Bl' _ h' _ from ⟨_, _, _, s3.slots (s3.sl.set (.im q3) j) (flat_set _ _), fun _ => .inl, fun _ => .inl, b'⟩) (fun _ => .inl) b.up (b.kp.fm s0.pt)⟩
                  simp only [mAsg, mMeth, m2, mVar, e01, R.bind_ok, isLst_of e03, if_true, mCons, e6, mNil]
                  unfold lPopAt
                  simp only [e3]
                  rw [if_pos hb, vl, hx]
                  simp only [ev, R.bindS, gNm, R.thenS]
            | _ => trivial
      · rw [if_neg hb]
        trivial
    | _ => trivial
end
end Lt
namespace Lt
open PySem PySem.Spec PyProof.Rows L2
/-! ### three rows at once -/
def ItP3 (K : PySem.W.Frag) (k l m : Bool) (a b c : Addr) : It where
  go := fun i H => ∃ xs ys zs x y z, SqE K k H a xs ∧ SqE K l H b ys ∧ SqE K m H c zs ∧ xs[i]? = some x ∧ ys[i]? = some y ∧ zs[i]? = some z
  yld := fun i H v H' => ∃ T x y z, v = .ref T ∧ H T = none ∧ H' = upd H T (.tup [x, y, z]) ∧ (∀ xs, SqE K k H a xs → xs[i]? = some x) ∧ (∀ ys, SqE K l H b ys → ys[i]? = some y) ∧ ∀ zs, SqE K m H c zs → zs[i]? = some z
  stop := fun i H => ∃ xs ys zs, SqE K k H a xs ∧ SqE K l H b ys ∧ SqE K m H c zs ∧ i ≤ xs.length ∧ i ≤ ys.length ∧ i ≤ zs.length ∧ (i = xs.length ∨ i = ys.length ∨ i = zs.length)
def stP3 (k l m : Bool) (a b c z TI TO i1 i2 i3 : Addr) (i : Nat) (h : Heap) : Prop := IsZip h z TI TO .none ∧ IsTupOf3 h TI (.ref i1) (.ref i2) (.ref i3) ∧ (∃ x y w, IsTupOf3 h TO x y w) ∧ AtI k h i1 a i ∧ AtI l h i2 b i ∧ AtI m h i3 c i
theorem turn_three {P : Program} {w : World} {K : PySem.W.Frag} {elts : List Expr} {kk : Nat} {tpos : Pos} {k l m : Bool} {a b c0 z TI TO i1 i2 i3 : Addr} (S : ZipSep3 z TI TO i1 i2 i3 [i1, a] [i2, b] [i3, c0]) (na : a ≠ i1) (nb : b ≠ i2) (nc : c0 ≠ i3) :
    Turn P w K (.Tuple elts kk tpos) (ItP3 K k l m a b c0) [z, TI, TO, i1, i2, i3] z (stP3 k l m a b c0 z TI TO i1 i2 i3) where
  mem := .head _
  obj := by
    rintro i h ⟨q1, q2, ⟨u, v, w, q3⟩, q4, q5, q6⟩ c hc
    rcases (by simpa using hc : c = z ∨ c = TI ∨ c = TO ∨ c = i1 ∨ c = i2 ∨ c = i3) with rfl | rfl | rfl | rfl | rfl | rfl
    · exact ⟨_, q1, nofun⟩
    · exact ⟨_, q2, nofun⟩
    · exact ⟨_, q3, nofun⟩
    · exact q4.obj
    · exact q5.obj
    · exact q6.obj
  keep := by
    rintro i h h' ⟨q1, q2, ⟨u, v, w, q3⟩, q4, q5, q6⟩ m
    refine ⟨m z ?_ _ q1, m TI ?_ _ q2, ⟨u, v, w, m TO ?_ _ q3⟩, q4.keep fun o e => m i1 ?_ o e, q5.keep fun o e => m i2 ?_ o e, q6.keep fun o e => m i3 ?_ o e⟩ <;> simp
  item := by
    rintro X rfl rfl rfl calm i pins s σ H E I hf ⟨q1, q2, ⟨u, v, w', q3⟩, q4, q5, q6⟩ ⟨xs, ys, zs, x, y, zz, sa, sb, sc, gx, gy, gz⟩
    obtain ⟨_, us, ra, _, da⟩ := sq_draws I sa
    obtain ⟨_, vs, rb, _, db⟩ := sq_draws I sb
    obtain ⟨_, ws, rc, _, dc⟩ := sq_draws I sc
    obtain ⟨st1, D1, s1, t1⟩ := da (w := X.w) (A := X.A.in1) X.prog i1 (I.ok.hd calm) na
    obtain ⟨st2, D2, s2, t2⟩ := db (w := X.w) (A := X.A.in1) X.prog i2 (I.ok.hd calm) nb
    obtain ⟨st3, D3, s3, t3⟩ := dc (w := X.w) (A := X.A.in1) X.prog i3 (I.ok.hd calm) nc
    obtain ⟨ux, eux, rx⟩ := ra.get gx
    obtain ⟨uy, euy, ry⟩ := rb.get gy
    obtain ⟨uz, euz, rz⟩ := rc.get gz
    have lz : z < s.heap.objs.size := Heap.lt_size q1
    have l1 : i < us.length := (List.getElem?_eq_some_iff.mp eux).1
    have l2 : i < vs.length := (List.getElem?_eq_some_iff.mp euy).1
    have l3 : i < ws.length := (List.getElem?_eq_some_iff.mp euz).1
    refine wpAny_pyNext_zipD3_item S D1 D2 D3 q1 q2 q3 (s1 i q4) (s2 i q5) (s3 i q6) l1 l2 l3 fun v1 v2 v3 g tk e1 e2 e3 z1 z2 z3 z4 z5 z6 _ kp => ?_
    rw [eux] at e1
    rw [euy] at e2
    rw [euz] at e3
    cases e1
    cases e2
    cases e3
    refine ⟨_, rfl, wpAny_letOwnedTupleGo_zip (s := { s with heap := g, toks := tk }) z1 fun g' zq sm => ?_⟩
    have up : ∀ c, c ≠ z → ∀ o, g.get? c = some o → g'.get? c = some o := fun c n o e => (sm.2 c n).trans e
    have nz := up _ (Nat.ne_of_gt lz) _ z6
    have J : Inv X pins σ (upd H s.heap.objs.size (.tup [x, y, zz])) { s with heap := g', toks := tk } :=
      I.turnedNew (ch := [z, TI, TO, i1, i2, i3]) (fun c o hc e => by
        have hc' : ¬ (c = z ∨ c = TI ∨ c = TO ∨ c = i1 ∨ c = i2 ∨ c = i3) := by simpa using hc
        simp only [not_or] at hc'
        exact up c hc'.1 o (kp c o hc'.1 hc'.2.2.1 hc'.2.2.2.1 hc'.2.2.2.2.1 hc'.2.2.2.2.2 e)) hf (Nat.le_refl _)
        (show ObjOk X.prog X.w _ g' _ (.tup [x, y, zz]) from ⟨by show 3 ≤ sizeLine; decide, [ux, uy, uz], .cons rx (.cons ry (.cons rz .nil)), ⟨_, nz, rfl, _, rfl⟩⟩)
    refine ⟨.ref s.heap.objs.size, _, J, rfl, ⟨_, x, y, zz, rfl, I.hok.fresh (Nat.le_refl _), rfl, fun xs' m => ?_, fun ys' m => ?_, fun zs' m => ?_⟩, ⟨zq, ?_, ⟨ux, uy, uz, ?_⟩, ?_, ?_, ?_⟩, fun c hc => ?_⟩
    · rw [sq_inj I m sa]; exact gx
    · rw [sq_inj I m sb]; exact gy
    · rw [sq_inj I m sc]; exact gz
    · exact up TI S.TIz _ (kp TI _ S.TIz S.TITO S.TIi1 S.TIi2 S.TIi3 q2)
    · exact up TO S.TOz _ z2
    · exact (t1 _ _ z3).keep fun o e => up i1 S.zi1.symm o e
    · exact (t2 _ _ z4).keep fun o e => up i2 S.zi2.symm o e
    · exact (t3 _ _ z5).keep fun o e => up i3 S.zi3.symm o e
    · have lc : c < s.heap.objs.size := by
        rcases (by simpa using hc : c = z ∨ c = TI ∨ c = TO ∨ c = i1 ∨ c = i2 ∨ c = i3) with rfl | rfl | rfl | rfl | rfl | rfl
        · exact lz
        · exact Heap.lt_size q2
        · exact Heap.lt_size q3
        · obtain ⟨o, e, _⟩ := q4.obj; exact Heap.lt_size e
        · obtain ⟨o, e, _⟩ := q5.obj; exact Heap.lt_size e
        · obtain ⟨o, e, _⟩ := q6.obj; exact Heap.lt_size e
      rw [upd_ne (Nat.ne_of_lt lc)]
      exact (hf c hc).1
  done := by
    rintro X rfl rfl rfl calm i pins s σ H E I hf ⟨q1, q2, ⟨u, v, w', q3⟩, q4, q5, q6⟩ ⟨xs, ys, zs, sa, sb, sc, la, lb, lc, en⟩
    obtain ⟨_, us, ra, _, da⟩ := sq_draws I sa
    obtain ⟨_, vs, rb, _, db⟩ := sq_draws I sb
    obtain ⟨_, ws, rc, _, dc⟩ := sq_draws I sc
    obtain ⟨st1, D1, s1, t1⟩ := da (w := X.w) (A := X.A.in1) X.prog i1 (I.ok.hd calm) na
    obtain ⟨st2, D2, s2, t2⟩ := db (w := X.w) (A := X.A.in1) X.prog i2 (I.ok.hd calm) nb
    obtain ⟨st3, D3, s3, t3⟩ := dc (w := X.w) (A := X.A.in1) X.prog i3 (I.ok.hd calm) nc
    rw [ra.length] at la en
    rw [rb.length] at lb en
    rw [rc.length] at lc en
    refine wpAny_pyNext_zipD3_end S D1 D2 D3 q1 q2 q3 (s1 i q4) (s2 i q5) (s3 i q6) la lb lc en fun g tk kp => ⟨rfl, I.turnedL (ch := [z, TI, TO, i1, i2, i3]) (fun c o hc e => ?_) hf⟩
    have hc' : ¬ (c = z ∨ c = TI ∨ c = TO ∨ c = i1 ∨ c = i2 ∨ c = i3) := by simpa using hc
    simp only [not_or] at hc'
    exact kp c o hc'.1 hc'.2.2.1 hc'.2.2.2.1 hc'.2.2.2.2.1 hc'.2.2.2.2.2 e
  self := fun A i s Q E q hQ => wpAny_pyIter_zip q.1 hQ
def iThree (K : PySem.W.Frag) (ta : TA) : TI := fun σ H R => ta σ H fun vs H1 => ∃ a b c k l m xs ys zs, vs = [.ref a, .ref b, .ref c] ∧ SqE K k H1 a xs ∧ SqE K l H1 b ys ∧ SqE K m H1 c zs ∧ R (ItP3 K k l m a b c) H1
theorem pi_three {X : Cx} {e e2 e3 : Expr} {ta : TA} {p pos tpos : Pos} {elts : List Expr} {kk : Nat} (hg : Gl X "zip") (hm : X.mg "zip" = none) (ha : PA X [e, e2, e3] ta)
    (hs : starEach [e, e2, e3] X.env = (false, eval e X.env) :: starEach [e2, e3] X.env := by rfl) (hpl : (backTo pos (starEach [e2, e3] X.env)).any (·.1) = false := by rfl) :
    L2.PI X (.Tuple elts kk tpos) (.Call (.Name "zip" p) [e, e2, e3] [] pos) (iThree X.K ta) :=
  ⟨fun pins s σ H R I m => Call_ (ld_blt I hg hm PyProof.Rows.boot_zip (PyProof.Rows.callWith_type1 (thn (ha.run pos pins s σ H _ I m) fun us t ⟨vs, H1, I1, r1, o⟩ => by
    obtain ⟨a, b, c, k, l, m, xs, ys, zs, rfl, sa, sb, sc, o⟩ := o
    cases r1 with
    | cons ru rr =>
      cases rr with
      | cons rv rr =>
        cases rr with
        | cons rw' rr =>
          cases rr
          cases ru
          cases rv
          cases rw'
          obtain ⟨la, _, _, ⟨ha0, hb0, B1⟩, _⟩ := sq_draws I1 sa
          obtain ⟨lb, _, _, ⟨ha1, hb1, B2⟩, _⟩ := sq_draws I1 sb
          obtain ⟨lc, _, _, ⟨ha2, hb2, B3⟩, _⟩ := sq_draws I1 sc
          refine zip_begins3 B1 B2 B3 hb0 hb1 hb2 fun g z1 z2 z3 z4 z5 z6 _ kp => wpAny_pyIter_zip z1 ?_
          have I2 : Inv X pins σ H1 { t with heap := g } := I1.kept (t' := t.toks) kp
          have S : ZipSep3 (t.heap.objs.size + 5) (t.heap.objs.size + 3) (t.heap.objs.size + 4) t.heap.objs.size (t.heap.objs.size + 1) (t.heap.objs.size + 2) [t.heap.objs.size, a] [t.heap.objs.size + 1, b] [t.heap.objs.size + 2, c] :=
            zip_sep3 (fp1 := [a]) (fp2 := [b]) (fp3 := [c]) (fun c hc => by rw [List.mem_singleton.mp hc]; exact la) (fun c hc => by rw [List.mem_singleton.mp hc]; exact lb) (fun c hc => by rw [List.mem_singleton.mp hc]; exact lc)
          refine ⟨_, [t.heap.objs.size + 5, t.heap.objs.size + 3, t.heap.objs.size + 4, t.heap.objs.size, t.heap.objs.size + 1, t.heap.objs.size + 2], _, _, H1, rfl, I2, turn_three S (Nat.ne_of_lt la) (Nat.ne_of_lt (Nat.lt_succ_of_lt lb)) (Nat.ne_of_lt (Nat.lt_succ_of_lt (Nat.lt_succ_of_lt lc))), ⟨z1, z2, ⟨_, _, _, z3⟩, newI_at k z4, newI_at l z5, newI_at m z6⟩, fun c hc => ?_, o⟩
          have : t.heap.objs.size ≤ c := by
            rcases (by simpa using hc : c = t.heap.objs.size + 5 ∨ c = t.heap.objs.size + 3 ∨ c = t.heap.objs.size + 4 ∨ c = t.heap.objs.size ∨ c = t.heap.objs.size + 1 ∨ c = t.heap.objs.size + 2) with rfl | rfl | rfl | rfl | rfl | rfl
            · exact Nat.le_add_right _ _
            · exact Nat.le_add_right _ _
            · exact Nat.le_add_right _ _
            · exact Nat.le_refl _
            · exact Nat.le_add_right _ _
            · exact Nat.le_add_right _ _
          exact I1.fpOk this (I1.hok.fresh this)) hs hpl))⟩
def zw3 {α β γ δ : Type} (f : α → β → γ → δ) : List α → List β → List γ → List δ
  | x :: xs, y :: ys, z :: zs => f x y z :: zw3 f xs ys zs
  | _, _, _ => []
theorem zw3_len {α β γ δ : Type} (f : α → β → γ → δ) : ∀ (xs : List α) (ys : List β) (zs : List γ), (zw3 f xs ys zs).length = min xs.length (min ys.length zs.length)
  | x :: xs, y :: ys, z :: zs => by simp [zw3, zw3_len f xs ys zs]
  | [], _, _ => by simp [zw3]
  | _ :: _, [], _ => by simp [zw3]
  | _ :: _, _ :: _, [] => by simp [zw3]
theorem zw3_get {α β γ δ : Type} {f : α → β → γ → δ} : ∀ {xs : List α} {ys : List β} {zs : List γ} {i : Nat} {u : δ}, (zw3 f xs ys zs)[i]? = some u → ∃ x y z, xs[i]? = some x ∧ ys[i]? = some y ∧ zs[i]? = some z ∧ u = f x y z
  | x :: xs, y :: ys, z :: zs, 0, u, e => ⟨x, y, z, rfl, rfl, rfl, (Option.some.inj e).symm⟩
  | x :: xs, y :: ys, z :: zs, i + 1, u, e => zw3_get (xs := xs) (ys := ys) (zs := zs) (i := i) (by simpa [zw3] using e)
  | [], _, _, i, u, e => by simp [zw3] at e
  | _ :: _, [], _, i, u, e => by simp [zw3] at e
  | _ :: _, _ :: _, [], i, u, e => by simp [zw3] at e
@[simp] def tripP (x y z : PV) : PV := .tup [x, y, z]
@[simp] def zip3S : List PV → HS → R Src
  | [x, y, z], h => match seqOf h x, seqOf h y, seqOf h z with
    | some xs, some ys, some zs => .ok ⟨zw3 tripP xs ys zs, fun h' => seqOf h' x = some xs ∧ seqOf h' y = some ys ∧ seqOf h' z = some zs⟩ h
    | _, _, _ => .no
  | _, _ => .no
section
variable {X : Cx} {W : WX} {m : List Addr} {H : Hp} {h : HS} {K : PySem.W.Frag} {mg : Str → Option Value}
theorem le_trip {T : Addr} {x y z : PV} {v w u : V} (s : Sim K mg m h H) (hT : H T = none) (rx : RV m H x v) (ry : RV m H y w) (rz : RV m H z u) : Le m H m (upd H T (.tup [v, w, u])) ∧ Sim K mg m h (upd H T (.tup [v, w, u])) ∧ RV m (upd H T (.tup [v, w, u])) (.tup [x, y, z]) (.ref T) :=
  ⟨le_new hT _, s.junk hT _, .tup upd_same (.cons (rx.le (le_new hT _)) (.cons (ry.le (le_new hT _)) (.cons (rz.le (le_new hT _)) .nil)))⟩
theorem ri_three {x y z : PV} {a b c : Addr} {xs ys zs : List PV} (rx : RV m H x (.ref a)) (ry : RV m H y (.ref b)) (rz : RV m H z (.ref c)) :
    RI K mg m H ⟨zw3 tripP xs ys zs, fun h' => seqOf h' x = some xs ∧ seqOf h' y = some ys ∧ seqOf h' z = some zs⟩ (ItP3 K (isL x) (isL y) (isL z) a b c) := fun i m2 h2 H2 l2 s2 ⟨g1, g2, g3⟩ => by
  obtain ⟨_, vs, e1, q1, r1⟩ := sq_of s2 (rx.le l2) g1
  obtain ⟨_, ws, e2, q2, r2⟩ := sq_of s2 (ry.le l2) g2
  obtain ⟨_, us, e3, q3, r3⟩ := sq_of s2 (rz.le l2) g3
  cases e1
  cases e2
  cases e3
  refine ⟨fun t ht => ?_, fun hl => ⟨vs, ws, us, q1, q2, q3, ?_⟩⟩
  · obtain ⟨x', y', z', e1, e2, e3, rfl⟩ := zw3_get ht
    obtain ⟨v, ev, rv⟩ := r1.get e1
    obtain ⟨w, ew, rw'⟩ := r2.get e2
    obtain ⟨u, eu, ru⟩ := r3.get e3
    refine ⟨⟨vs, ws, us, v, w, u, q1, q2, q3, ev, ew, eu⟩, fun u' H' ⟨T, x2, y2, z2, eu', hT, eH, f1, f2, f3⟩ => ?_⟩
    have e4 := f1 _ q1
    have e5 := f2 _ q2
    have e6 := f3 _ q3
    rw [ev] at e4
    rw [ew] at e5
    rw [eu] at e6
    cases e4
    cases e5
    cases e6
    subst eu' eH
    exact le_trip s2 hT rv rw' ru
  · simp only [zw3_len] at hl
    rw [r1.length, r2.length, r3.length] at hl
    omega
theorem im_zip3 {e e2 e3 : Expr} {ma : Mi (List PV)} {p pos tpos : Pos} {elts : List Expr} {kk : Nat} (hm : X.mg "zip" = none) (ha : PAm X W [e, e2, e3] ma) (hg : Gl X "zip" := by rfl)
    (hs : starEach [e, e2, e3] X.env = (false, eval e X.env) :: starEach [e2, e3] X.env := by rfl) (hpl : (backTo pos (starEach [e2, e3] X.env)).any (·.1) = false := by rfl) : PIm X W (.Tuple elts kk tpos) (.Call (.Name "zip" p) [e, e2, e3] [] pos) (m1 zip3S ma) :=
  wkI (pi_three hg hm ha hs hpl) fun σ H R ⟨m, ρ, h, s, rs, o⟩ => ⟨m, ρ, h, s, rs, o.bind.mono fun vs H1 ⟨m1, h1, av, l1, s1, r1, o1⟩ => by
    have inv : ∃ x y z xs ys zs, av = [x, y, z] ∧ seqOf h1 x = some xs ∧ seqOf h1 y = some ys ∧ seqOf h1 z = some zs ∧ zip3S av h1 = .ok ⟨zw3 tripP xs ys zs, fun h' => seqOf h' x = some xs ∧ seqOf h' y = some ys ∧ seqOf h' z = some zs⟩ h1 := by
      revert o1
      unfold zip3S
      intro o1
      split at o1
      · split at o1
        · exact ⟨_, _, _, _, _, _, rfl, by assumption, by assumption, by assumption, rfl⟩
        · exact o1.elim
      · exact o1.elim
    obtain ⟨x, y, z, xs, ys, zs, rfl, e1, e2, e3, ez⟩ := inv
    rw [ez] at o1
    obtain ⟨v, w, u, rfl, rx, ry, rz⟩ := r1.three
    obtain ⟨a, vs, rfl, qa, _⟩ := sq_of s1 rx e1
    obtain ⟨b, ws, rfl, qb, _⟩ := sq_of s1 ry e2
    obtain ⟨c, us, rfl, qc, _⟩ := sq_of s1 rz e3
    exact ⟨a, b, c, _, _, _, vs, ws, us, rfl, qa, qb, qc, o1 m1 H1 _ .refl s1 (ri_three rx ry rz)⟩⟩
end
/-! and on data -/
@[simp] def zip3T : List D → Option (List D)
  | [x, y, z] => match x.seq, y.seq, z.seq with
    | some xs, some ys, some zs => some (zw3 (fun a b c => .tup [a, b, c]) xs ys zs)
    | _, _, _ => none
  | _ => none
theorem Ows.zip3 {h : HS} {B : Nat → Prop} : ∀ {vs ws us : List PV} {ds es fs : List D}, Ows h B vs ds [] → Ows h B ws es [] → Ows h B us fs [] → Ows h B (zw3 tripP vs ws us) (zw3 (fun a b c => .tup [a, b, c]) ds es fs) []
  | [], _, _, ds, es, fs, r, q, p => by
    cases r
    exact .nil
  | v :: vs, [], _, ds, es, fs, r, q, p => by
    cases q
    cases ds <;> exact .nil
  | v :: vs, w :: ws, [], ds, es, fs, r, q, p => by
    cases p
    cases ds <;> cases es <;> exact .nil
  | v :: vs, w :: ws, u :: us, ds, es, fs, r, q, p => by
    generalize hF : ([] : List Nat) = F0 at r
    cases r with
    | cons r t =>
      obtain ⟨rfl, rfl⟩ := nil_app hF.symm
      generalize hG : ([] : List Nat) = G0 at q
      cases q with
      | cons r2 t2 =>
        obtain ⟨rfl, rfl⟩ := nil_app hG.symm
        generalize hK : ([] : List Nat) = K0 at p
        cases p with
        | cons r3 t3 =>
          obtain ⟨rfl, rfl⟩ := nil_app hK.symm
          exact .cons (F := []) (.tup (.cons (F := []) r (.cons (F := []) r2 (.cons (F := []) r3 .nil)))) (Ows.zip3 t t2 t3)
theorem pi_zip3 {κ : List Kd} {S : List Nat} {k : Kd} {e : Mi (List PV)} {f : Di (List D)} (h : PuX κ S e f (PKs k)) : PuX κ S (m1 zip3S e) (d1 (dO zip3T) f) (PI k) := h.map (op_src fun a b h B F ds p e => by
  unfold zip3T at e
  split at e
  · rename_i x y z
    split at e
    · rename_i xs ys zs e1 e2 e3
      cases e
      obtain ⟨v, w, u, rfl, r1, r2, r3⟩ := ows3 p.1
      obtain ⟨vs, g1, q1, s1, t1⟩ := seq_src r1 e1
      obtain ⟨ws, g2, q2, s2, t2⟩ := seq_src r2 e2
      obtain ⟨us, g3, q3, s3, t3⟩ := seq_src r3 e3
      exact ⟨⟨zw3 tripP vs ws us, fun h' => seqOf h' v = some vs ∧ seqOf h' w = some ws ∧ seqOf h' u = some us⟩, by simp only [zip3S, g1, g2, g3], q1.zip3 q2 q3, fun h' kp => ⟨s1 h' kp, s2 h' kp, s3 h' kp⟩, fun hk h' hl q => ⟨t1 hk h' hl q, t2 hk h' hl q, t3 hk h' hl q⟩⟩
    · cases e
  · cases e)
end Lt
namespace Lt
open PySem PySem.Spec PyProof.Rows L2
/-! ### the set of a row of ints -/
section
variable {P : Program} {w : World} {A : Around} {E : Value → Shared → Prop} {s : Shared}
abbrev bareSet (w : World) : Obj := { cls := .type "set", dict := none, data := .set #[] 0 (.fresh 0 0 (!w.params.followText "set-order")) }
/-- whole numbers that are told: each place's value -/
theorem told_at {us : Array Value} {ns : List Int} (told : IntsAre us.toList ns) (i : Nat) (v : Value) (e : us[i]? = some v) : ∃ k t, ns[i]? = some k ∧ v = .int k t := by
  have ⟨t, ev⟩ := PyProof.Rows.IntsAre.int_at told i v (by simpa using e)
  have inside : i < ns.length := by
    have len := IntsAre.length told
    have ⟨lt, _⟩ := Array.getElem?_eq_some_iff.mp e
    simp only [Array.length_toList] at len
    omega
  have here : ns[i]? = some ns[i] := List.getElem?_eq_getElem inside
  rw [List.getD_eq_getElem?_getD, here] at ev
  exact ⟨ns[i], t, here, ev⟩
/-- what filling a bare set at S with told numbers leaves -/
structure Filled (w : World) (ns : List Int) (S : Addr) (before : Shared) (r : Value) (after : Shared) : Prop where
  none : r = .none
  ex : ∃ (h' : Heap) (tk c : Nat), after = { before with heap := h', toks := tk } ∧ SetR w h' S (fun j => decide (j ∈ ns)) c ∧ c ≤ ns.length ∧ ∀ b o, b ≠ S → before.heap.get? b = some o → h'.get? b = some o
set_option maxRecDepth 100000 in
set_option maxHeartbeats 3200000 in
theorem fill_set {S l : Addr} {us : Array Value} {ns : List Int} {R : Value → Shared → Prop} (calm : A.handled = none) (bare : s.heap.get? S = some (bareSet w)) (ll : s.heap.IsList l us) (told : IntsAre us.toList ns) (few : ns.length + 1 < scanBound) (apart : l ≠ S)
    (ok : ∀ r s', Filled w ns S s r s' → R r s') :
    wpAny (model P w) A.in1 (Builtin.«set.__init__» ⟨[.ref S, .ref l], []⟩)
      (fun fin z => match fin with | .done f => wants R E (.ok f) z | .again c => c.quiet = true ∧ codeAny (model P w) A c (wants R E) z) (fun e z => wants R E (.error e) z) s := by
  have isS : s.TypeIs (.ref S) "set" := ⟨_, bare, rfl⟩
  have many : us.size = ns.length := by simpa using IntsAre.length told
  have below : ∀ {b : Addr} {o : Obj}, s.heap.get? b = some o → b ≠ s.heap.objs.size := fun there => Nat.ne_of_lt (Heap.lt_size there)
  obtain ⟨⟨_, dict, _, slots⟩, there, rfl, n, rfl⟩ := id ll
  have notSet := F.sub_list_set
  have notFrozen := F.sub_list_frozenset
  have notDict : (Value.type "list" == Value.type "dict") = false := by decide
  have away : S ∉ [s.heap.objs.size, l] := by
    simp only [List.mem_cons, List.not_mem_nil, or_false, not_or]
    exact ⟨below bare, Ne.symm apart⟩
  have inner : A.in1.in1.handled = none := by simp [calm]
  delta Builtin.«set.__init__» noKeywords Builtin.Frozenset.updateFrom
  generalize iter : pyIter = walkIt
  wp_walk
  subst iter
  apply wpAny_pyIter_list ll
  apply wpAny_bind
  apply wpAny_runValue
  have walks := (Walks.list (prog := P) (w := w) inner s.heap.objs.size l (below there) us).toS
  apply set_update_ints walks S away ns many few (fun i v e => told_at told i v e) us.size 0 _ (Nat.sub_zero _) (Nat.zero_le _) ⟨⟨_, Heap.get?_push_size _ rfl, rfl, rfl⟩, ll.push _⟩ ⟨0, Nat.le_refl 0, setR_new_at (Heap.get?_push_of_some _ bare)⟩
  rintro ⟨h', _, _, tk, _⟩ c ⟨kept, rfl, rfl, rfl, _⟩ le filled
  apply wpAny_pure
  apply wpAny_pure
  refine ok _ _ ⟨rfl, h', tk, c, rfl, filled, many ▸ le, fun b o ne there => ?_⟩
  have new := below there
  exact kept b o (by simp [ne, new]) (Heap.get?_push_of_some _ there)
set_option maxRecDepth 100000 in
set_option maxHeartbeats 3200000 in
theorem set_of_lst {l : Addr} {us : Array Value} (ns : List Int) {Q : Value → Shared → Prop} (hh : A.handled = none) (hl : s.heap.IsList l us) (hit : IntsAre us.toList ns) (hb : ns.length + 1 < scanBound)
    (q : ∀ (h' : Heap) (tk c : Nat), SetR w h' s.heap.objs.size (fun j => decide (j ∈ ns)) c → c ≤ ns.length → (∀ b o, s.heap.get? b = some o → h'.get? b = some o) → Q (.ref s.heap.objs.size) { s with heap := h', toks := tk }) :
    wpAny (model P w) A (call (.type "set") [.ref l]) Q E s := by
  obtain ⟨_, _, order⟩ := F.called_set.mro
  have made := F.called_set.made
  have under := F.called_set.sub
  have notType := F.called_set.notType
  have can := F.called_set.canCreate
  have arity := F.typeCall_set_1 (.ref l)
  have find := F.called_set.init.lookup
  have bind' := F.called_set.init.bind (.ref s.heap.objs.size)
  have bare : (s.heap.push (bareSet w)).get? s.heap.objs.size = some (bareSet w) := Heap.get?_push_size _ rfl
  have isS : Shared.TypeIs { s with heap := s.heap.push (bareSet w) } (.ref s.heap.objs.size) "set" := ⟨_, bare, rfl⟩
  have ⟨_, there, _⟩ := id hl
  apply wpAny_call
  apply codeAny_of_tree
  show wpAny _ _ (callAny (.type "set") _) _ _ _
  apply wpAny_pure
  refine ⟨Code.quiet_builtin _ (by decide +kernel), ?_⟩
  apply codeAny_builtin F.entry_type_call
  rw [Around.under_plain (weight_type_call_type "set" _ _) rfl]
  repeat any_goals first | wp_step | assumption
  apply codeAny_mono (code_set_led1 (.ref l) (E := E) (Q₁ := fun u z => u = .ref s.heap.objs.size ∧ z = { s with heap := s.heap.push (bareSet w) }) ⟨rfl, rfl⟩)
  rintro (e | ⟨⟩ | ⟨⟩ | ⟨⟩ | u) s1 got
  any_goals exact got
  obtain ⟨rfl, rfl⟩ := got
  repeat any_goals first | wp_step | assumption
  have filling := fill_set (A := A.in1) (P := P) (E := E) (s := { s with heap := s.heap.push (bareSet w) }) (l := l) (ns := ns) (R := fun r z => Filled w ns s.heap.objs.size { s with heap := s.heap.push (bareSet w) } r z) (by simp [hh]) bare (hl.push _) hit hb (Nat.ne_of_lt (Heap.lt_size there)) fun _ _ f => f
  apply codeAny_mono (codeAny_call_builtin F.called_set.init.plain F.entry_set_init (check_set_init_1 isS filling))
  rintro (e | ⟨⟩ | ⟨⟩ | ⟨⟩ | r) s2 full
  any_goals exact full
  all_goals try exact False.elim full
  obtain ⟨rfl, h', tk, c, rfl, filled, le, kept⟩ := full
  repeat any_goals first | wp_step | assumption
  exact q h' tk c filled le fun b o old => kept b o (Nat.ne_of_lt (Heap.lt_size old)) (Heap.get?_push_of_some _ old)
end
section
variable {X : Cx} {W : WX}
/-- set(xs), ints in a row of either kind -/
def rSetI (K : PySem.W.Frag) (w : World) : List V → Hp → VK → Prop := fun vs H Q => ∃ (l : Addr) (ns : List Int), vs = [V.ref l] ∧ (SqL K H l (ns.map V.int) ∨ SqT K H l (ns.map V.int)) ∧ ns.length ≤ 1000 ∧
  ∀ (p : Addr) (c : Nat), H p = none → c ≤ ns.length → Q (.ref p) (upd H p (SetO w p (fun j => decide (j ∈ ns)) c))
theorem cr_setI (hc : X.calm = true) : CallR X (.type "set") (rSetI X.K X.w) := by
  intro pins s σ H vs us Q I r h
  obtain ⟨l, ns, rfl, hq, hn, q⟩ := h
  rw [Vals.ref1 r]
  have hb : ns.length + 1 < scanBound := by unfold scanBound; omega
  rcases hq with hq | hq
  · obtain ⟨its, rv, pl, _⟩ := I.list hq
    refine set_of_lst ns (I.ok.hd hc) pl.isList (by simpa using rv.ints) hb fun h' tk c z1 z2 z3 => ?_
    exact ⟨.ref _, upd H s.heap.objs.size (SetO X.w s.heap.objs.size (fun j => decide (j ∈ ns)) c), I.laid (t' := tk) (fun b u e => z3 b u e) (Nat.le_refl _) (setO_new z1), rfl, q _ _ (I.hok.fresh (Nat.le_refl _)) z2⟩
  · obtain ⟨its, rv, pl, _⟩ := I.tuple hq
    refine call_set_tupI ns (I.ok.hd hc) pl (by simpa using rv.ints) hb fun h' tk c z1 z2 z3 => ?_
    exact ⟨.ref _, upd H s.heap.objs.size (SetO X.w s.heap.objs.size (fun j => decide (j ∈ ns)) c), I.laid (t' := tk) (fun b u e => z3 b u e) (Nat.le_refl _) (setO_new z1), rfl, q _ _ (I.hok.fresh (Nat.le_refl _)) z2⟩
/-- len(a set of ints) -/
def rLenS (w : World) : List V → Hp → VK → Prop := fun vs H Q => ∃ (a : Addr) (S : Int → Bool) (n : Nat), vs = [V.ref a] ∧ H a = some (SetO w a S n) ∧
  ∀ ks : List Int, ks.Nodup → (∀ k, k ∈ ks ↔ S k = true) → Q (.int ks.length) H
theorem cr_lenS : CallR X (.builtin "len") (rLenS X.w) := by
  intro pins s σ H vs us Q I r h
  obtain ⟨a, S, n, rfl, ha, q⟩ := h
  obtain ⟨o, es, ep, t, ho, hx, hd, g, nd, hm, hb, hf, hn, _⟩ := setO_get I ha
  rw [Vals.ref1 r]
  have hq := q (es.toList.map L2.keyOf) nd fun k => (hm k).symm
  rw [List.length_map, Array.length_toList] at hq
  exact call_len_set ho hx hd hf (by unfold scanBound at hb; omega) ⟨.int es.size, H, I.tok _, ⟨_, rfl⟩, hq⟩
end
end Lt
namespace Lt
open PySem PySem.Spec PyProof.Rows L2
/-! ### in, of flat items, of keys, of a sign -/
@[simp] def flatP : PV → Bool
  | .non => true
  | .bl _ => true
  | .int _ => true
  | .str _ => true
  | _ => false
@[simp] def eqP : PV → PV → Bool
  | .non, .non => true
  | .bl a, .bl b => a == b
  | .bl a, .int b => (if a then 1 else 0) == b
  | .int a, .bl b => a == (if b then 1 else 0)
  | .int a, .int b => a == b
  | .str a, .str b => a == b
  | _, _ => false
section
variable {X : Cx} {W : WX} {m : List Addr} {h : HS} {H : Hp}
theorem flat_at1 {x : PV} {v : V} (r : RV m H x v) (f : flatP x = true) : flatV v = true := by
  cases r <;> simp at f <;> rfl
theorem eq_at1 {x y : PV} {v w : V} (r : RV m H x v) (q : RV m H y w) (f : flatP x = true) (g : flatP y = true) : L2.eqV v w = eqP x y := by
  cases r <;> simp at f <;> cases q <;> simp at g <;> rfl
theorem flat_ats {xs : List PV} {vs : List V} (r : RVs m H xs vs) (f : xs.all flatP = true) : vs.all flatV = true := by
  rw [List.all_eq_true] at f ⊢
  intro v hv
  obtain ⟨i, hi⟩ := List.getElem?_of_mem hv
  have hl : i < xs.length := by rw [r.length]; exact (List.getElem?_eq_some_iff.mp hi).1
  obtain ⟨w, e, rw'⟩ := r.get (List.getElem?_eq_getElem hl)
  rw [hi] at e
  cases e
  exact flat_at1 rw' (f _ (List.getElem_mem hl))
theorem any_at {x : PV} {v : V} (r : RV m H x v) (g : flatP x = true) : ∀ {xs : List PV} {vs : List V}, RVs m H xs vs → xs.all flatP = true → L2.inV v vs = xs.any fun z => eqP z x
  | _, _, .nil, _ => rfl
  | _, _, .cons (x := y) r1 t, f => by
    simp only [List.all_cons, Bool.and_eq_true] at f
    have ih := any_at r g t f.2
    unfold L2.inV at ih ⊢
    rw [List.any_cons, List.any_cons, ih, eq_at1 r1 r f.1 g]
def inB (x y : PV) (h : HS) : Option Bool := match seqOf h y with
  | some ys => if flatP x = true ∧ ys.all flatP = true then some (ys.any fun z => eqP z x) else none
  | none => match y with
    | .ref n => (match h[n]? with
      | some (.dic kvs) => (keyOf x).map fun k => (valP kvs k).isSome
      | _ => none)
    | .str z => (match x with
      | .str s => (match s.cps.toList with
        | [c] => some (decide (c ∈ z.cps.toList))
        | _ => none)
      | _ => none)
    | _ => none
def inV (x y : PV) (h : HS) : R PV := match inB x y h with
  | some b => .ok (.bl b) h
  | none => .no
def notinV (x y : PV) (h : HS) : R PV := match inB x y h with
  | some b => .ok (.bl (!b)) h
  | none => .no
theorem op_din (hu : X.A.units + 1 < cLine) : OpR X (compareOp .In) (fun x y H Q => ∃ a o, y = .ref a ∧ DGet H a x o ∧ Q (.bl o.isSome) H) := by
  intro pins s σ H x y v u Q I rx ry ⟨a, o, ey, g, q⟩
  subst ey
  obtain rfl : u = Value.ref a := ry
  exact d_in hu I g rx fun s3 I3 => ⟨.bl o.isSome, H, I3, rfl, q⟩
theorem op_dnotin (hu : X.A.units + 1 < cLine) : OpR X (compareOp .NotIn) (fun x y H Q => ∃ a o, y = .ref a ∧ DGet H a x o ∧ Q (.bl (!o.isSome)) H) := by
  intro pins s σ H x y v u Q I rx ry ⟨a, o, ey, g, q⟩
  subst ey
  obtain rfl : u = Value.ref a := ry
  exact d_notIn hu I g rx fun s3 I3 => ⟨.bl (!o.isSome), H, I3, rfl, q⟩
/-- what a membership asks below -/
theorem in_ways {x y : PV} {v w : V} {b : Bool} (s : Sim X.K X.mg m h H) (rx : RV m H x v) (ry : RV m H y w) (e : inB x y h = some b) :
    (∃ p ys, w = .ref p ∧ (SqL X.K H p ys ∨ SqT X.K H p ys) ∧ flatV v = true ∧ ys.all flatV = true ∧ L2.inV v ys = b) ∨
    (∃ a o, w = .ref a ∧ DGet H a v o ∧ o.isSome = b) ∨
    (∃ (c : Nat) (z : Str), v = .str ⟨#[c]⟩ ∧ w = .str z ∧ decide (c ∈ z.cps.toList) = b) := by
  unfold inB at e
  split at e
  · rename_i ys es
    split at e
    · rename_i hf
      cases e
      obtain ⟨a, vs, rfl, q, rr⟩ := sq_of s ry es
      refine .inl ⟨a, vs, rfl, ?_, flat_at1 rx hf.1, flat_ats rr hf.2, any_at rx hf.1 rr hf.2⟩
      unfold SqE at q
      split at q
      · exact .inl q
      · exact .inr q
    · cases e
  · cases ry with
    | ref g =>
      simp only [] at e
      split at e
      · rename_i kvs eh
        obtain ⟨vs, q, rk⟩ := s.obj _ _ _ eh g
        simp only [Option.map_eq_some_iff] at e
        obtain ⟨k, ek, rfl⟩ := e
        have ev : v = kV k := by
          cases x <;> simp only [keyOf] at ek <;> cases ek <;> cases rx <;> rfl
        subst ev
        refine .inr (.inl ⟨_, valV vs k, rfl, DGet.k q, ?_⟩)
        rcases rk.val k with ⟨e1, e2⟩ | ⟨x', v', e1, e2, _⟩
        · rw [e1, e2]; rfl
        · rw [e1, e2]; rfl
      · cases e
    | str z =>
      simp only [] at e
      cases rx with
      | str s' =>
        simp only [] at e
        split at e
        · rename_i c ec
          cases e
          refine .inr (.inr ⟨c, z, ?_, rfl, rfl⟩)
          congr 1
          cases s' with
          | mk cps =>
            congr 1
            have : cps.toList = [c] := ec
            rw [← Array.toArray_toList (xs := cps), this]
        · cases e
      | _ => cases e
    | _ => cases e
theorem o_in {k : Nat} (hr : Room k X.A) : OpM X W (compareOp .In) inV := by
  refine ⟨_, op_in_seq.or ((op_din (hu_of hr)).or op_in_sign), fun m h H σ Q x y v w s rx ry o => ?_⟩
  unfold inV at o
  split at o
  · rename_i b e
    rcases in_ways s rx ry e with ⟨p, ys, rfl, q, f1, f2, e1⟩ | ⟨a, o', rfl, q, e1⟩ | ⟨c, z, rfl, rfl, e1⟩
    · refine .inl ⟨p, ys, rfl, q, f1, f2, ?_⟩
      simp only [Bool.false_eq_true, if_false]
      rw [e1]
      exact o_bl s o
    · refine .inr (.inl ⟨a, o', rfl, q, ?_⟩)
      rw [e1]
      exact o_bl s o
    · refine .inr (.inr ⟨c, z, rfl, rfl, ?_⟩)
      rw [e1]
      exact o_bl s o
  · exact o.elim
theorem o_notin {k : Nat} (hr : Room k X.A) : OpM X W (compareOp .NotIn) notinV := by
  refine ⟨_, op_notIn_seq.or ((op_dnotin (hu_of hr)).or op_notIn_sign), fun m h H σ Q x y v w s rx ry o => ?_⟩
  unfold notinV at o
  split at o
  · rename_i b e
    rcases in_ways s rx ry e with ⟨p, ys, rfl, q, f1, f2, e1⟩ | ⟨a, o', rfl, q, e1⟩ | ⟨c, z, rfl, rfl, e1⟩
    · refine .inl ⟨p, ys, rfl, q, f1, f2, ?_⟩
      simp only [if_true]
      rw [e1]
      exact o_bl s o
    · refine .inr (.inl ⟨a, o', rfl, q, ?_⟩)
      rw [e1]
      exact o_bl s o
    · refine .inr (.inr ⟨c, z, rfl, rfl, ?_⟩)
      rw [e1]
      exact o_bl s o
  · exact o.elim
/-! ### index -/
noncomputable def lIndex : PV → List PV → HS → R PV := fun x xs h => match x, xs with
  | .ref n, [y] => match h[n]? with
    | some (.lst ys) => if flatP y = true ∧ ys.all flatP = true then (match ys.findIdx? fun z => eqP z y with
      | some k => .ok (.int (k : Int)) h
      | none => .no) else .no
    | _ => .no
  | _, _ => .no
theorem l_index : MtM' X W "list.index" lIndex := by
  refine ⟨_, mt_index, fun m h H σ Q x xs v vs s r rr o => ?_⟩
  unfold lIndex at o
  split at o
  · rename_i n y
    obtain ⟨w0, rfl, ry⟩ := rr.one
    split at o
    · rename_i ys e
      split at o
      · rename_i hf
        split at o
        · rename_i k ek
          cases r with
          | ref g =>
            obtain ⟨us, q, rz⟩ := s.obj _ _ _ e g
            obtain ⟨hk, e1, e2⟩ := List.findIdx?_eq_some_iff_getElem.mp ek
            obtain ⟨z, ez, rz1⟩ := rz.get (List.getElem?_eq_getElem hk)
            refine ⟨_, us, w0, k, z, rfl, rfl, SqL.of q, flat_at1 ry hf.1, flat_ats rz hf.2, ez, ?_, fun j z' hj hz' => ?_, o_int s o⟩
            · rw [eq_at1 rz1 ry (List.all_eq_true.mp hf.2 _ (List.getElem_mem hk)) hf.1]
              exact e1
            · have hjl : j < ys.length := by omega
              obtain ⟨z2, ez2, rz2⟩ := rz.get (List.getElem?_eq_getElem hjl)
              rw [hz'] at ez2
              cases ez2
              rw [eq_at1 rz2 ry (List.all_eq_true.mp hf.2 _ (List.getElem_mem hjl)) hf.1]
              simpa using e2 j hj
        · exact o.elim
      · exact o.elim
    · exact o.elim
  · exact o.elim
/-! ### sorted -/
noncomputable def srtI (ns : List Int) : List Int := ns.mergeSort fun a b => decide (a ≤ b)
theorem srtI_perm (ns : List Int) : (srtI ns).Perm ns := List.mergeSort_perm _ _
theorem srtI_rise (ns : List Int) : (srtI ns).Pairwise (· ≤ ·) := by
  have := List.pairwise_mergeSort (le := fun a b : Int => decide (a ≤ b)) (fun a b c => by simp; omega) (fun a b => by simp; omega) ns
  exact this.imp fun h => by simpa using h
theorem rise_uniq : ∀ {xs ys : List Int}, xs.Pairwise (· ≤ ·) → ys.Pairwise (· ≤ ·) → xs.Perm ys → xs = ys
  | [], ys, _, _, p => by simpa using p
  | x :: xs, [], _, _, p => by simpa using p
  | x :: xs, y :: ys, hx, hy, p => by
    rw [List.pairwise_cons] at hx hy
    have e : x = y := by
      have h1 : x ∈ y :: ys := p.subset (.head _)
      have h2 : y ∈ x :: xs := p.symm.subset (.head _)
      rcases List.mem_cons.mp h1 with h1 | h1
      · exact h1
      · rcases List.mem_cons.mp h2 with h2 | h2
        · exact h2.symm
        · have := hx.1 y h2
          have := hy.1 x h1
          omega
    subst e
    rw [rise_uniq hx.2 hy.2 (List.Perm.cons_inv p)]
theorem rise_srt {ns ns' : List Int} (p : ns'.Perm ns) (h : ns'.Pairwise (· ≤ ·)) : ns' = srtI ns := rise_uniq h (srtI_rise ns) (p.trans (srtI_perm ns).symm)
noncomputable def sortV (x : PV) (h : HS) : R PV := match (lstOf h x).bind intsOf with
  | some bs => .ok (.ref h.length) (h ++ [.lst ((srtI bs).map PV.int)])
  | none => .no
theorem b_sorted : CallM X W (.builtin "sorted") (c1 sortV) := by
  refine ⟨_, cr_sortedI, fun m h H σ Q xs vs s r o => ?_⟩
  obtain ⟨x, v, rfl, r, o⟩ := c1_out r o
  unfold sortV at o
  split at o
  · rename_i bs e
    obtain ⟨a, rfl, q⟩ := ints_at s r e
    refine ⟨a, bs, rfl, q, fun ns' p h1 h2 hp => ?_⟩
    rw [rise_srt h1 h2]
    exact new_lst s (RVs.ints _) hp o
  · exact o.elim
/-! ### len(set(..)), sorted(set(..)), of ints -/
def onceI : List Int → List Int
  | [] => []
  | x :: xs => if x ∈ xs then onceI xs else x :: onceI xs
theorem onceI_mem : ∀ (ns : List Int) (k : Int), k ∈ onceI ns ↔ k ∈ ns
  | [], k => Iff.rfl
  | x :: xs, k => by
    unfold onceI
    split
    · rw [onceI_mem xs k, List.mem_cons]
      constructor
      · exact .inr
      · rintro (rfl | h)
        · assumption
        · exact h
    · rw [List.mem_cons, List.mem_cons, onceI_mem xs k]
theorem onceI_nodup : ∀ (ns : List Int), (onceI ns).Nodup
  | [] => List.nodup_nil
  | x :: xs => by
    unfold onceI
    split
    · exact onceI_nodup xs
    · rename_i h
      exact List.nodup_cons.mpr ⟨fun z => h ((onceI_mem xs x).mp z), onceI_nodup xs⟩
noncomputable def uniqI (ns : List Int) : List Int := srtI (onceI ns)
theorem uniqI_mem (ns : List Int) (k : Int) : k ∈ uniqI ns ↔ k ∈ ns := by
  unfold uniqI
  rw [(srtI_perm _).mem_iff, onceI_mem]
theorem uniqI_nodup (ns : List Int) : (uniqI ns).Nodup := by
  unfold uniqI
  rw [(srtI_perm _).nodup_iff]
  exact onceI_nodup ns
theorem uniqI_lt (ns : List Int) : (uniqI ns).Pairwise (· < ·) := by
  have h1 : (uniqI ns).Pairwise (· ≤ ·) := srtI_rise _
  have h2 := uniqI_nodup ns
  exact (h1.and h2).imp fun ⟨a, b⟩ => by omega
theorem lt_uniq {ns ns' : List Int} (h : ns'.Pairwise (· < ·)) (k : ∀ z, z ∈ ns' ↔ z ∈ ns) : ns' = uniqI ns := by
  refine rise_uniq (h.imp fun h => by omega) ((uniqI_lt ns).imp fun h => by omega) ?_
  refine (List.perm_ext_iff_of_nodup (h.imp fun h => by omega) (uniqI_nodup ns)).mpr fun z => ?_
  rw [k, uniqI_mem]
end
end Lt
namespace Lt
open PySem PySem.Spec PyProof.Rows L2
section
variable {X : Cx} {W : WX} {pos p p2 p3 : Pos}
noncomputable def lenSetV (x : PV) (h : HS) : R PV := match (seqOf h x).bind intsOf with
  | some bs => if bs.length ≤ 1000 then .ok (.int (uniqI bs).length) h else .no
  | none => .no
noncomputable def sortSetV (x : PV) (h : HS) : R PV := match (seqOf h x).bind intsOf with
  | some bs => if bs.length ≤ 60 then .ok (.ref h.length) (h ++ [.lst ((uniqI bs).map PV.int)]) else .no
  | none => .no
theorem sqi_at {m : List Addr} {h : HS} {H : Hp} (s : Sim X.K X.mg m h H) {x : PV} {v : V} {bs : List Int} (r : RV m H x v) (e : (seqOf h x).bind intsOf = some bs) : ∃ a, v = .ref a ∧ (SqL X.K H a (bs.map V.int) ∨ SqT X.K H a (bs.map V.int)) := by
  obtain ⟨ys, e1, e2⟩ := Option.bind_eq_some_iff.mp e
  obtain ⟨a, ws, rfl, q, rr⟩ := sq_of s r e1
  rw [intsOf_at rr e2] at q
  refine ⟨a, rfl, ?_⟩
  unfold SqE at q
  split at q
  · exact .inl q
  · exact .inr q
theorem new_len {p : Addr} {m : List Addr} {h : HS} {H : Hp} (s : Sim X.K X.mg m h H) (hp : H p = none) (x : HO) : Le m H m (upd H p x) ∧ Sim X.K X.mg m h (upd H p x) := ⟨le_new hp x, s.junk hp x⟩
theorem em_lenSet {a : Expr} {ma : Mi PV} (hl : X.mg "len" = none) (hs : X.mg "set" = none) (ha : PEm X W a ma) (hc : X.calm = true := by rfl) (hg : Gl X "len" := by rfl) (hg2 : Gl X "set" := by rfl)
    (h1 : starEach [.Call (.Name "set" p2) [a] [] p] X.env = (false, eval (.Call (.Name "set" p2) [a] [] p) X.env) :: starEach [] X.env := by rfl) (h2 : starEach [a] X.env = (false, eval a X.env) :: starEach [] X.env := by rfl) :
    PEm X W (.Call (.Name "len" p3) [.Call (.Name "set" p2) [a] [] p] [] pos) (m1 lenSetV ma) :=
  wkE (L2.pe_callB cr_lenS hg hl boot_len (L2.pa_cons (L2.pe_callTy (cr_setI hc) hg2 hs boot_set (L2.pa_cons ha L2.pa_nil h2) (he := h2)) L2.pa_nil h1) (he := h1)) fun σ H Q ⟨m, ρ, h, s, rs, o⟩ => ⟨m, ρ, h, s, rs, o.bind.mono fun x H1 ⟨m1, h1, v, l1, s1, r1, o1⟩ => by
    unfold lenSetV at o1
    split at o1
    · rename_i bs e
      split at o1
      · rename_i hn
        obtain ⟨a, rfl, q⟩ := sqi_at s1 r1 e
        refine ⟨a, bs, rfl, q, hn, fun p' c hp _ => ⟨p', _, _, rfl, upd_same, fun ks k1 k2 => ?_⟩⟩
        obtain ⟨l2, s2⟩ := new_len s1 hp (SetO X.w p' (fun j => decide (j ∈ bs)) c)
        have e1 : ks.length = (uniqI bs).length := by
          refine ((List.perm_ext_iff_of_nodup k1 (uniqI_nodup bs)).mpr fun z => ?_).length_eq
          rw [k2, uniqI_mem]
          simp
        rw [e1]
        exact o_int s2 (o1.later l2)
      · exact o1.elim
    · exact o1.elim⟩
theorem em_sortSet {a : Expr} {ma : Mi PV} (hl : X.mg "sorted" = none) (hs : X.mg "set" = none) (ha : PEm X W a ma) (hc : X.calm = true := by rfl) (hg : Gl X "sorted" := by rfl) (hg2 : Gl X "set" := by rfl)
    (h1 : starEach [.Call (.Name "set" p2) [a] [] p] X.env = (false, eval (.Call (.Name "set" p2) [a] [] p) X.env) :: starEach [] X.env := by rfl) (h2 : starEach [a] X.env = (false, eval a X.env) :: starEach [] X.env := by rfl) :
    PEm X W (.Call (.Name "sorted" p3) [.Call (.Name "set" p2) [a] [] p] [] pos) (m1 sortSetV ma) :=
  wkE (L2.pe_callB (cr_sortedSet hc) hg hl (by decide +kernel) (L2.pa_cons (L2.pe_callTy (cr_setI hc) hg2 hs boot_set (L2.pa_cons ha L2.pa_nil h2) (he := h2)) L2.pa_nil h1) (he := h1)) fun σ H Q ⟨m, ρ, h, s, rs, o⟩ => ⟨m, ρ, h, s, rs, o.bind.mono fun x H1 ⟨m1, h1, v, l1, s1, r1, o1⟩ => by
    unfold sortSetV at o1
    split at o1
    · rename_i bs e
      split at o1
      · rename_i hn
        obtain ⟨a, rfl, q⟩ := sqi_at s1 r1 e
        refine ⟨a, bs, rfl, q, by omega, fun p' c hp hcn => ⟨p', _, c, rfl, upd_same, by omega, fun ks p'' k1 k2 k3 hp2 => ?_⟩⟩
        obtain ⟨l2, s2⟩ := new_len s1 hp (SetO X.w p' (fun j => decide (j ∈ bs)) c)
        rw [lt_uniq (ns := bs) k1 fun z => by rw [k2]; simp]
        exact new_lst s2 (RVs.ints _) hp2 (o1.later l2)
      · exact o1.elim
    · exact o1.elim⟩
/-! ### min(xs, default=d) -/
theorem minOf_ok : ∀ (xs : List Int) (x : Int), PySem.W.minOf x xs ∈ x :: xs ∧ ∀ y ∈ x :: xs, PySem.W.minOf x xs ≤ y
  | [], x => by simp [PySem.W.minOf]
  | y :: ys, x => by
    have e : PySem.W.minOf x (y :: ys) = PySem.W.minOf (if PySem.W.DatumOrd.lt y x = true then y else x) ys := rfl
    obtain ⟨h1, h2⟩ := minOf_ok ys (if PySem.W.DatumOrd.lt y x = true then y else x)
    rw [e]
    cases d : PySem.W.DatumOrd.lt y x with
    | true =>
      have hc : y < x := of_decide_eq_true d
      rw [d] at h1 h2
      simp only [if_true] at h1 h2 ⊢
      refine ⟨.tail _ h1, fun z hz => ?_⟩
      rcases List.mem_cons.mp hz with rfl | hz
      · have := h2 y (.head _)
        omega
      · exact h2 z hz
    | false =>
      have hc : ¬ y < x := of_decide_eq_false d
      rw [d] at h1 h2
      simp only [Bool.false_eq_true, if_false] at h1 h2 ⊢
      refine ⟨?_, fun z hz => ?_⟩
      · rcases List.mem_cons.mp h1 with h1 | h1
        · rw [h1]; exact .head _
        · exact .tail _ (.tail _ h1)
      · rcases List.mem_cons.mp hz with rfl | hz
        · exact h2 _ (.head _)
        · rcases List.mem_cons.mp hz with rfl | hz
          · have := h2 x (.head _)
            omega
          · exact h2 z (.tail _ hz)
def rMinD (K : PySem.W.Frag) : List V → List V → Hp → VK → Prop := fun xs zs H Q => ∃ (a : Addr) (ns : List Int) (d : V), xs = [.ref a] ∧ zs = [d] ∧ SqL K H a (ns.map V.int) ∧ (ns = [] → Q d H) ∧ (ns ≠ [] → Q (.int (minL ns)) H)
theorem hold_ints {h : Heap} : ∀ {us : List Value} {ns : List Int}, IntsAre us ns → PySem.W.HoldAll h us ns
  | _, _, .nil => ⟨_, .nil⟩
  | _, _, .cons k t r => by
    obtain ⟨as, q⟩ := hold_ints (h := h) r
    exact ⟨_, .cons (.int _ _) q⟩
theorem cr_minD (hc : X.calm = true) (hu : X.A.units + 1 < cLine) : CallRK X (.builtin "min") [Str.ofString "default"] (rMinD X.K) := by
  intro pins s σ H xs zs us ws Q I r1 r2 ⟨a, ns, d, ex, ez, hq, q0, q1⟩
  subst ex ez
  rw [Vals.ref1 r1]
  cases r2 with
  | cons rd rr =>
    cases rr
    obtain ⟨its, rv, pl, _⟩ := I.list hq
    refine PySem.W.min_list_datum_default (xs := ns) (I.ok.hd hc) pl.isList (hold_ints (by simpa using rv.ints)) (by show X.A.units + 1 + 0 < cLine; omega) (fun e h' tk kp => ?_) fun y ys i v h' tk e hi hv kp => ?_
    · exact ⟨_, H, I.kept (t' := tk) kp, rd, q0 e⟩
    · subst e
      obtain ⟨as, rd'⟩ := hv
      have hm := minOf_ok ys y
      have : PySem.W.minOf y ys = minL (y :: ys) := min_eq (by simp) hm.1 hm.2
      rw [this] at rd'
      generalize hz : minL (y :: ys) = z at rd'
      have hx := q1 (by simp)
      rw [hz] at hx
      cases rd'
      exact ⟨.int z, H, I.kept (t' := tk) kp, ⟨_, rfl⟩, hx⟩
noncomputable def minDV (x d : PV) (h : HS) : R PV := match (lstOf h x).bind intsOf with
  | some [] => .ok d h
  | some (y :: r) => .ok (.int (minL (y :: r))) h
  | none => .no
theorem em_minD {a b : Expr} {ma mb : Mi PV} {kp : Pos} {k : Nat} (hr : Room k X.A) (hl : X.mg "min" = none) (ha : PEm X W a ma) (hb : PEm X W b mb) (hc : X.calm = true := by rfl) (hg : Gl X "min" := by rfl)
    (h1 : starEach [a] X.env = (false, eval a X.env) :: starEach [] X.env := by rfl)
    (he : backTo pos (starEach [a] X.env) = (false, eval a X.env) :: backTo pos (starEach [] X.env) := by rfl) (hpl : (backTo pos (starEach [a] X.env)).any (·.1) = false := by rfl)
    (hall : (backToKw pos (keywordEach [⟨some "default", b, kp⟩] X.env)).all (·.1.isSome) = true := by rfl) (hnone : (backToKw pos (keywordEach [⟨some "default", b, kp⟩] X.env)).any (·.1.isNone) = false := by rfl) (hks : (backToKw pos (keywordEach [⟨some "default", b, kp⟩] X.env)).filterMap (·.1) = [Str.ofString "default"] := by rfl) :
    PEm X W (.Call (.Name "min" p3) [a] [⟨some "default", b, kp⟩] pos) (m2 minDV ma mb) :=
  wkE (pe_callBK (cr_minD hc (by have := hu_of hr; omega)) hg hl (by decide +kernel) (L2.pa_cons ha L2.pa_nil h1) (pk_cons hb pk_nil) (by decide) (by decide) he hpl hall hnone hks) fun σ H Q ⟨m, ρ, h, s, rs, o⟩ => ⟨m, ρ, h, s, rs, o.bind.mono fun x H1 ⟨m1, h1, v, l1, s1, r1, o1⟩ => ⟨m1, ρ, h1, s1, rs.le l1, o1.bind.mono fun y H2 ⟨m2, h2, w, l2, s2, r2, o2⟩ => by
    have r1' := r1.le l2
    unfold minDV at o2
    split at o2
    · rename_i e
      obtain ⟨a, rfl, q⟩ := ints_at s2 r1' e
      exact ⟨a, [], y, rfl, rfl, q, fun _ => o2 m2 H2 _ .refl s2 r2, fun z => absurd rfl z⟩
    · rename_i y' t e
      obtain ⟨a, rfl, q⟩ := ints_at s2 r1' e
      exact ⟨a, y' :: t, y, rfl, rfl, q, fun z => (nomatch z), fun _ => o_int s2 o2⟩
    · exact o2.elim⟩⟩
end
end Lt
namespace Lt
open PySem L2
/-! ### the same on data -/
@[simp] def flatA : D → Bool
  | .non => true
  | .bl _ => true
  | .int _ => true
  | .str _ => true
  | _ => false
@[simp] def eqA : D → D → Bool
  | .non, .non => true
  | .bl a, .bl b => a == b
  | .bl a, .int b => (if a then 1 else 0) == b
  | .int a, .bl b => a == (if b then 1 else 0)
  | .int a, .int b => a == b
  | .str a, .str b => a == b
  | _, _ => false
section
variable {h : HS} {B : Nat → Prop}
theorem flatA_of {v : PV} {d : D} {F : List Nat} (r : Ow h B v d F) (f : flatA d = true) : flatP v = true := by
  cases r <;> simp at f <;> rfl
theorem eqA_of {v w : PV} {d e : D} {F G : List Nat} (r : Ow h B v d F) (q : Ow h B w e G) (f : flatA d = true) (g : flatA e = true) : eqP v w = eqA d e := by
  cases r <;> simp at f <;> cases q <;> simp at g <;> rfl
theorem flatA_all : ∀ {vs : List PV} {ds : List D} {F : List Nat}, Ows h B vs ds F → ds.all flatA = true → vs.all flatP = true
  | _, _, _, .nil, _ => rfl
  | _, _, _, .cons r t, f => by
    simp only [List.all_cons, Bool.and_eq_true] at f ⊢
    exact ⟨flatA_of r f.1, flatA_all t f.2⟩
theorem anyA_of {x : PV} {d : D} {G : List Nat} (q : Ow h B x d G) (g : flatA d = true) : ∀ {vs : List PV} {ds : List D} {F : List Nat}, Ows h B vs ds F → ds.all flatA = true → (vs.any fun z => eqP z x) = ds.any fun z => eqA z d
  | _, _, _, .nil, _ => rfl
  | _, _, _, .cons r t, f => by
    simp only [List.all_cons, Bool.and_eq_true] at f
    rw [List.any_cons, List.any_cons, eqA_of r q f.1 g, anyA_of q g t f.2]
theorem findA_of {x : PV} {d : D} {G : List Nat} (q : Ow h B x d G) (g : flatA d = true) : ∀ {vs : List PV} {ds : List D} {F : List Nat}, Ows h B vs ds F → ds.all flatA = true → (vs.findIdx? fun z => eqP z x) = ds.findIdx? fun z => eqA z d
  | _, _, _, .nil, _ => rfl
  | _, _, _, .cons r t, f => by
    simp only [List.all_cons, Bool.and_eq_true] at f
    rw [List.findIdx?_cons, List.findIdx?_cons, eqA_of r q f.1 g, findA_of q g t f.2]
def inT (x y : D) : Option Bool := match y.seq with
  | some ys => if flatA x = true ∧ ys.all flatA = true then some (ys.any fun z => eqA z x) else none
  | none => match y with
    | .dic kvs => (keyD x).map fun k => (valD kvs k).isSome
    | .str z => (match x with
      | .str s => (match s.cps.toList with
        | [c] => some (decide (c ∈ z.cps.toList))
        | _ => none)
      | _ => none)
    | _ => none
theorem OwK.valN {vs : List (Key × PV)} {ds : List (Key × D)} {F : List Nat} (r : OwK h B vs ds F) (k : Key) : (valP vs k).isSome = (valD ds k).isSome := by
  revert r
  induction vs generalizing ds F with
  | nil => intro r; cases r; rfl
  | cons kv vs ih =>
    intro r
    cases r with
    | @cons k' v d' _ ds F1 F2 r t =>
      have := ih t
      by_cases hk : k' = k
      · subst hk
        simp [valP, valD, List.find?_cons]
      · simpa [valP, valD, List.find?_cons, hk] using this
theorem inT_of {v w : PV} {x y : D} {F G : List Nat} {b : Bool} (p : Ow h B v x F) (q : Ow h B w y G) (e : inT x y = some b) : inB v w h = some b := by
  unfold inT at e
  unfold inB
  split at e
  · rename_i ys es
    obtain ⟨vs, G', e1, r1, _⟩ := q.seq es
    rw [e1]
    simp only []
    split at e
    · rename_i hf
      cases e
      rw [if_pos ⟨flatA_of p hf.1, flatA_all r1 hf.2⟩, anyA_of p hf.1 r1 hf.2]
    · cases e
  · cases q with
    | borD h2 g r b' =>
      simp only [] at e
      simp only [seqOf_ref, g]
      simp only [Option.map_eq_some_iff] at e ⊢
      obtain ⟨k, e1, rfl⟩ := e
      exact ⟨k, by cases x <;> simp only [keyD] at e1 <;> cases e1 <;> cases p <;> rfl, r.valN k⟩
    | ownD h2 g r =>
      simp only [] at e
      simp only [seqOf_ref, g]
      simp only [Option.map_eq_some_iff] at e ⊢
      obtain ⟨k, e1, rfl⟩ := e
      exact ⟨k, by cases x <;> simp only [keyD] at e1 <;> cases e1 <;> cases p <;> rfl, r.valN k⟩
    | str z =>
      cases x <;> simp only [] at e <;> try cases e
      cases p
      exact e
    | _ => first | cases e | (rename_i hn _ _; exact absurd rfl (by first | exact hn | nofun))
end
@[simp] def inD : D → D → G → Rd D := fun x y => dO (fun p : D × D => (inT p.1 p.2).map .bl) (x, y)
@[simp] def notinD : D → D → G → Rd D := fun x y => dO (fun p : D × D => (inT p.1 p.2).map fun b => .bl (!b)) (x, y)
theorem pp_in : Op RR (PR .fr) (fun p => inV p.1 p.2) (fun p => inD p.1 p.2) := op_flat fun a b h B F d p e => by
  obtain ⟨F1, F2, _, p1, p2⟩ := p
  simp only [Option.map_eq_some_iff] at e
  obtain ⟨c, e, rfl⟩ := e
  exact ⟨_, by simp only [inV, inT_of p1.1 p2.1 e], .bl _⟩
theorem pp_notin : Op RR (PR .fr) (fun p => notinV p.1 p.2) (fun p => notinD p.1 p.2) := op_flat fun a b h B F d p e => by
  obtain ⟨F1, F2, _, p1, p2⟩ := p
  simp only [Option.map_eq_some_iff] at e
  obtain ⟨c, e, rfl⟩ := e
  exact ⟨_, by simp only [notinV, inT_of p1.1 p2.1 e], .bl _⟩
/-! a method that tells what is flat -/
def lstT : D → Option D
  | .lst ds => some (.lst ds)
  | _ => none
@[simp] theorem lstT_lst (ds : List D) : lstT (.lst ds) = some (.lst ds) := rfl
theorem pe_meth1 {κ : List Kd} {e a : Mi PV} {f fa : Di D} {v : PV → List PV → HS → R PV} {k : D → D → Option D} (ho : Op RR (PR .fr) (fun p => v p.1 [p.2]) (fun p => dO (fun p : D × D => k p.1 p.2) (p.1, p.2))) (he : PuX κ [] e f (PR .rd)) (ha : PuX κ [] a fa (PR .rd)) :
    PuX κ [] (mMeth isLst v e (mCons a mNil)) (d2 (fun x y => dO (fun p : D × D => k p.1 p.2) (x, y)) (d1 (dO lstT) f) fa) (PR .fr) := by
  have hl : Op (PR .rd) (PR .rd) (fun x h => if isLst x h = true then R.ok x h else .no) (dO lstT) := op_same fun a b h B F d p e => by
    unfold lstT at e
    split at e
    · cases e
      obtain ⟨n, vs, F1, rfl, g1, r1, s1⟩ := seq_ref p.1
      exact ⟨.ref n, F, by simp only [isLst_of g1, if_true], p, .refl _⟩
    · cases e
  have := PuX.map2 (k := fun x y => v x [y]) (f := fun x y => dO (fun p : D × D => k p.1 p.2) (x, y)) PR.mon ho (he.map hl) ha
  refine ⟨fun {Bz η g Pt Bl Fs ρ h} s => ?_⟩
  have e1 : mMeth isLst v e (mCons a mNil) ρ h = m2 (fun x y => v x [y]) (m1 (fun x h => if isLst x h = true then R.ok x h else .no) e) a ρ h := by
    simp only [mMeth, mCons, m2, m1, mNil]
    cases e ρ h with
    | no => rfl
    | ex c h' => rfl
    | ok x h' =>
      simp only [R.bind_ok]
      split
      · simp only [R.bind_ok]
        cases a ρ h' <;> rfl
      · rfl
  have q := this.run s
  rw [← e1] at q
  exact q
def idxT (x y : D) : Option D := match x with
  | .lst ds => if flatA y = true ∧ ds.all flatA = true then (ds.findIdx? fun z => eqA z y).map fun (k : Nat) => D.int (k : Int) else none
  | _ => none
theorem pp_index : Op RR (PR .fr) (fun p => lIndex p.1 [p.2]) (fun p => dO (fun p : D × D => idxT p.1 p.2) (p.1, p.2)) := op_flat fun a b h B F d p e => by
  obtain ⟨F1, F2, _, p1, p2⟩ := p
  obtain ⟨x, y⟩ := b
  obtain ⟨v, w⟩ := a
  unfold idxT at e
  simp only [] at e
  split at e
  · rename_i ds
    split at e
    · rename_i hf
      simp only [Option.map_eq_some_iff] at e
      obtain ⟨k, e, rfl⟩ := e
      obtain ⟨n, vs, F3, e3, g1, r1, s1⟩ := seq_ref p1.1
      have e3 : v = .ref n := e3
      subst e3
      refine ⟨_, ?_, .int _⟩
      simp only [lIndex, g1]
      rw [if_pos ⟨flatA_of p2.1 hf.1, flatA_all r1 hf.2⟩, findA_of p2.1 hf.1 r1 hf.2, e]
    · cases e
  · cases e
theorem po_none {κ : List Kd} : PuX κ [] (fun _ h => R.ok (none : Option Int) h) (fun _ g => Rd.ok (none : Option Int) g) PE :=
  ⟨fun {Bz η g Pt Bl Fs ρ h} s => ⟨none, h, rfl, Bl, [], .refl, s.gr, fun _ z => z, fun _ z => .inl z, List.nodup_nil, fun n z => absurd z List.not_mem_nil, fun n z => absurd z List.not_mem_nil, rfl, rfl⟩⟩
/-! sorted, sets, min -/
noncomputable def sortL (d : D) : Option (List D) := (d.lis.bind intsD).map fun bs => (srtI bs).map D.int
theorem ows_ints {h : HS} {B : Nat → Prop} : ∀ bs : List Int, Ows h B (bs.map PV.int) (bs.map D.int) []
  | [] => .nil
  | b :: bs => .cons (F := []) (.int b) (ows_ints bs)
theorem pp_sorted : Op (PR .rd) (PR .fr) sortV (dO fun b => (sortL b).map .lst) := op_new (by decide) fun a b h B F ds p e => by
  unfold sortL at e
  simp only [Option.map_eq_some_iff] at e
  obtain ⟨bs, e1, rfl⟩ := e
  refine ⟨_, [], ?_, ows_ints _, .of (List.nil_sublist _)⟩
  unfold sortV
  rw [inl_of p.1 e1]
theorem inq_of {h : HS} {B : Nat → Prop} {v : PV} {d : D} {F : List Nat} {bs : List Int} (r : Ow h B v d F) (q : d.seq.bind intsD = some bs) : (seqOf h v).bind intsOf = some bs := by
  simp only [Option.bind_eq_some_iff] at q
  obtain ⟨ds, e1, e2⟩ := q
  obtain ⟨vs, G, e3, r3, _⟩ := r.seq e1
  rw [e3]
  exact ints_of r3 e2
noncomputable def lenSetT (d : D) : Option D := (d.seq.bind intsD).bind fun bs => if bs.length ≤ 1000 then some (.int (uniqI bs).length) else none
noncomputable def sortSetL (d : D) : Option (List D) := (d.seq.bind intsD).bind fun bs => if bs.length ≤ 60 then some ((uniqI bs).map D.int) else none
theorem pp_lenSet : Op (PR .rd) (PR .fr) lenSetV (dO lenSetT) := op_flat fun a b h B F d p e => by
  unfold lenSetT at e
  obtain ⟨bs, e1, e2⟩ := Option.bind_eq_some_iff.mp e
  split at e2
  · rename_i hl
    cases e2
    refine ⟨_, ?_, .int _⟩
    unfold lenSetV
    rw [inq_of p.1 e1]
    simp only []
    rw [if_pos hl]
  · cases e2
theorem pp_sortSet : Op (PR .rd) (PR .fr) sortSetV (dO fun b => (sortSetL b).map .lst) := op_new (by decide) fun a b h B F ds p e => by
  unfold sortSetL at e
  obtain ⟨bs, e1, e2⟩ := Option.bind_eq_some_iff.mp e
  split at e2
  · rename_i hl
    cases e2
    refine ⟨_, [], ?_, ows_ints _, .of (List.nil_sublist _)⟩
    unfold sortSetV
    rw [inq_of p.1 e1]
    simp only []
    rw [if_pos hl]
  · cases e2
def minDT (p : D × D) : Option D := match p.1.lis.bind intsD with
  | some [] => chk (some p.2)
  | some (y :: r) => some (.int (minL (y :: r)))
  | none => none
@[simp] def minDD : D → D → G → Rd D := fun x y => dO minDT (x, y)
theorem pp_minD : Op RR (PR .fr) (fun p => minDV p.1 p.2) (fun p => minDD p.1 p.2) := op_flat fun a b h B F d p e => by
  obtain ⟨F1, F2, _, p1, p2⟩ := p
  unfold minDT at e
  split at e
  · rename_i e1
    obtain ⟨e2, hf⟩ := chk_some e
    cases e2
    exact ⟨_, by simp only [minDV, inl_of p1.1 e1], p2.1.flat _ _ hf⟩
  · rename_i y r e1
    cases e
    exact ⟨_, by simp only [minDV, inl_of p1.1 e1], .int _⟩
  · cases e
end Lt
namespace Lt
open PySem L2
/-! ### the law's drawing, with its number -/
def kTakeCB (k : Int) : Ms :=
    (mSeq (mAsg (m2 addV (m2 getV (mVar 0) (mC (.str "turn"))) (mC (.int 1))) (gNm 2))
    (mSeq (mAsg (mVar 2) (gSb (mVar 0) (mC (.str "turn"))))
    (mSeq (mAsg (m2 modV (mVar 2) (m1 (c1 lenV) (mCons (m2 getV (mVar 0) (mC (.str "cells"))) mNil))) (gNm 3))
    (mSeq (mAsg (m2 getV (m2 getV (mVar 0) (mC (.str "cells"))) (mVar 3)) (gNm 4))
    (mSeq (mIfS (m1 asB (m2 geV (mVar 4) (m2 powV (mC (.int 10)) (mC (.int 18)))))
    (mSeq (mAsg (m1 (c2 divmodV) (mCons (mVar 4) (mCons (mVar 1) mNil))) (gTp 2 (gC (gSb (m2 getV (mVar 0) (mC (.str "cells"))) (mVar 3)) (gC (gNm 5) gN0))))
    (mRet (mVar 5)))
    mSkip)
    (mSeq (mAsg (m2 modV (m2 mulV (m2 addV (m2 addV (m2 modV (mVar 4) (mC (.int 2147483629))) (m2 mulV (m2 mulV (mVar 2) (mVar 2)) (mC (.int 7919)))) (mC (.int 11))) (mC (.int 48271))) (mC (.int 2147483647))) (gNm 6))
    (mSeq (mAsg (m2 modV (m2 mulV (mVar 6) (mVar 6)) (mC (.int 2147483587))) (gNm 6))
    (mRet (m2 modV (m2 fdivV (m2 modV (m2 mulV (m2 addV (mVar 6) (m2 mulV (mVar 2) (mC (.int 104729)))) (mC (.int k))) (mC (.int 2147483629))) (mC (.int 64))) (mVar 1))))))))))
def kTakeC (k : Int) : List PV → HS → R PV := mDef 2 5 (kTakeCB k)
def mixK (k c t many : Int) : Int := (mix2 (mix1 c t) + t * 104729) * k % 2147483629 / 64 % many
/-- the law's drawing, on data -/
def takeG (k : Int) (g : G) (many : Int) : Option (Int × G) :=
  if g.cs ≠ [] ∧ 0 ≤ g.t ∧ g.t < 2 ^ 60 ∧ 1 ≤ many ∧ many < 2 ^ 100 then
    match atI g.cs ((g.t + 1) % (g.cs.length : Int)) with
    | some c => if 1000000000000000000 ≤ c then some (c % many, ⟨g.cs.set ((g.t + 1) % (g.cs.length : Int)).toNat (c / many), g.t + 1⟩) else some (mixK k c (g.t + 1) many, ⟨g.cs, g.t + 1⟩)
    | none => none
  else none
def takeD (k : Int) : List D → G → Rd D
  | [.stt, .int many], g => match takeG k g many with
    | some (d, g') => .ok (.int d) g'
    | none => .no
  | _, _ => .no
theorem takeC_eq {k : Int} (hk : 0 ≤ k ∧ k < 100000) {g g' : G} {many d : Int} (tl : HS) (e : takeG k g many = some (d, g')) : kTakeC k [.ref 1, .int many] (Sh g.cs g.t tl) = .ok (.int d) (Sh g'.cs g'.t tl) := by
  obtain ⟨cs, t⟩ := g
  unfold takeG at e
  split at e
  · rename_i hc
    obtain ⟨hne, ht0, ht1, h1, h2⟩ := hc
    dsimp only at hne ht0 ht1 e
    split at e
    · rename_i c hc
      have hpos : 0 < (cs.length : Int) := by
        have := List.length_pos_iff.mpr hne
        omega
      have hm0 : 0 ≤ (t + 1) % (cs.length : Int) := Int.emod_nonneg _ (by omega)
      have hm1 : (t + 1) % (cs.length : Int) < cs.length := Int.emod_lt_of_pos _ hpos
      obtain ⟨c', hc', hix⟩ := atI_ints hm0 hm1
      rw [List.length_map] at hix
      have : c' = c := by
        have e1 : atI (cs.map PV.int) ((t + 1) % (cs.length : Int)) = (atI cs ((t + 1) % (cs.length : Int))).map PV.int := by
          unfold atI
          rw [List.length_map]
          cases ixN cs.length ((t + 1) % (cs.length : Int)) with
          | none => rfl
          | some j => simp
        rw [hc', hc] at e1
        simp at e1
        exact e1
      subst this
      have hp2 : 0 < cs.length := by omega
      have hm2 : 0 < many := by omega
      have h2' : many < 2 ^ 200 := by omega
      split at e
      · rename_i hb
        cases e
        apply W.eq
        simp [kTakeC, kTakeCB, Sh, stDic, valP, putP, List.find?_cons, hp2, hm2, hc', hix, hb, h1, h2', ks_ct, ks_tc, List.map_set]
        omega
      · rename_i hb
        cases e
        have q0 : 0 ≤ (t + 1) * (t + 1) := Int.mul_nonneg (by omega) (by omega)
        have q1 : (t + 1) * (t + 1) ≤ 2 ^ 60 * 2 ^ 60 := Int.mul_le_mul (by omega) (by omega) (by omega) (by decide)
        have s1 : small (t + 1) := small_lt (by omega) (by omega)
        have s2 : small ((t + 1) * (t + 1)) := small_lt (by omega) (by omega)
        have s3 : small (c' % 2147483629 + (t + 1) * (t + 1) * 7919 + 11) := small_lt (by omega) (by omega)
        have s4 : small ((c' % 2147483629 + (t + 1) * (t + 1) * 7919 + 11) * 48271 % 2147483647) := small_lt (by omega) (by omega)
        have s5 : small ((c' % 2147483629 + (t + 1) * (t + 1) * 7919 + 11) * 48271 % 2147483647 * ((c' % 2147483629 + (t + 1) * (t + 1) * 7919 + 11) * 48271 % 2147483647) % 2147483587 + (t + 1) * 104729) := small_lt (by omega) (by omega)
        have k1 : small 7919 := small_lt (by decide) (by decide)
        have k2 : small 48271 := small_lt (by decide) (by decide)
        have k3 : small 104729 := small_lt (by decide) (by decide)
        have k4 : small k := small_lt (by omega) (by omega)
        apply W.eq
        simp [kTakeC, kTakeCB, Sh, stDic, valP, putP, List.find?_cons, hp2, hm2, hc', hix, hb, h1, ks_ct, ks_tc, s1, s2, s3, s4, s5, k1, k2, k3, k4, mix1, mix2, mixK]
    · cases e
  · cases e
theorem GR.sh {g : G} {h : HS} (r : GR g h) : h = Sh g.cs g.t (h.drop 2) := by
  match h, r with
  | [], r => cases r.1
  | [_], r => cases r.2
  | a :: b :: tl, r =>
    have h1 := r.1
    have h2 := r.2
    simp at h1 h2
    subst h1 h2
    rfl
theorem fu_kTake {k : Int} (hk : 0 ≤ k ∧ k < 100000) : FnF (kTakeC k) (takeD k) := by
  intro vs ds g h Bl F gr p nd nb lt
  generalize hr : takeD k ds g = r
  cases r with
  | no => trivial
  | ex c g' =>
    unfold takeD at hr
    split at hr
    · split at hr <;> cases hr
    · cases hr
  | ok d0 g' =>
  unfold takeD at hr
  split at hr
  case h_2 => cases hr
  split at hr
  case h_2 => cases hr
  rename_i many _ d g1 e
  cases hr
  obtain ⟨v, w, rfl, q1, q2⟩ := args2 p
  have e2 := (int_of q2).1
  subst e2
  obtain ⟨r1, _⟩ := q1
  cases r1
  have hF : F = [] := p.2 rfl
  have eq := takeC_eq hk (h.drop 2) e
  rw [← gr.sh] at eq
  have hl := gr.sh
  refine ⟨.int d, _, eq, Bl, [], ⟨?_, fun n h2 hn => ?_⟩, ⟨rfl, rfl⟩, fun _ z => z, fun _ z => .inl z, List.nodup_nil, fun n z => absurd z List.not_mem_nil, fun n z => absurd z List.not_mem_nil, .int d, fun _ => rfl⟩
  · have := gr.two
    simp [Sh]
    omega
  · conv => rhs; rw [hl]
    match n, h2 with
    | n + 2, _ => rfl
end Lt
namespace Lt
open PySem L2
/-! ### what holds at the end, on data -/
def PW {α : Type} (r : Rd α) (Q : α → G → Prop) (E : DX → G → Prop) : Prop := match r with
  | .ok a g => Q a g
  | .ex e g => E e g
  | .no => False
structure Pd where
  nx : Dn → G → Prop := fun _ _ => False
  rt : D → G → Prop := fun _ _ => False
  bk : Dn → G → Prop := fun _ _ => False
  ct : Dn → G → Prop := fun _ _ => False
  ex : DX → G → Prop := fun _ _ => False
def PS (r : SD) (D : Pd) : Prop := match r with
  | .nx η g => D.nx η g
  | .rt v g => D.rt v g
  | .bk η g => D.bk η g
  | .ct η g => D.ct η g
  | .ex e g => D.ex e g
  | .no => False
/-- of what may be none -/
def OQ {α : Type} (r : Option α) (Q : α → Prop) : Prop := match r with
  | some a => Q a
  | none => False
@[simp] theorem OQ_some {α : Type} (a : α) (Q : α → Prop) : OQ (some a) Q = Q a := rfl
@[simp] theorem OQ_none {α : Type} (Q : α → Prop) : OQ none Q = False := rfl
@[simp] theorem OQ_ite {α : Type} {c : Prop} [Decidable c] (a b : Option α) (Q : α → Prop) : OQ (if c then a else b) Q = if c then OQ a Q else OQ b Q := by split <;> rfl
@[simp] theorem OQ_map {α β : Type} (a : Option α) (f : α → β) (Q : β → Prop) : OQ (a.map f) Q = OQ a fun x => Q (f x) := by cases a <;> rfl
@[simp] theorem OQ_bind {α β : Type} (a : Option α) (f : α → Option β) (Q : β → Prop) : OQ (a.bind f) Q = OQ a fun x => OQ (f x) Q := by cases a <;> rfl
theorem OQ.get {α : Type} {r : Option α} {Q : α → Prop} (w : OQ r Q) : ∃ a, r = some a ∧ Q a := by
  cases r with
  | some a => exact ⟨a, rfl, w⟩
  | none => exact w.elim
theorem OQ.mono {α : Type} {r : Option α} {Q Q' : α → Prop} (w : OQ r Q) (q : ∀ a, Q a → Q' a) : OQ r Q' := by
  cases r with
  | some a => exact q a w
  | none => exact w
abbrev Qd (α : Type) := α → G → Prop
abbrev Ed := DX → G → Prop
def eF : Ed := fun _ _ => False
@[simp] theorem eF_eq (e : DX) (g : G) : eF e g = False := rfl
section
variable {α β γ δ : Type} {Q : Qd α} {E : Ed} {Dp : Pd}
@[simp] theorem PW_ok (a : α) (g : G) : PW (.ok a g) Q E = Q a g := rfl
@[simp] theorem PW_ex (e : DX) (g : G) : PW (.ex e g) Q E = E e g := rfl
@[simp] theorem PW_no : PW .no Q E = False := rfl
@[simp] theorem PW_bind (r : Rd β) (f : β → G → Rd α) : PW (r.bind f) Q E = PW r (fun a g => PW (f a g) Q E) E := by cases r <;> rfl
@[simp] theorem PW_ite {c : Prop} [Decidable c] (a b : Rd α) : PW (if c then a else b) Q E = if c then PW a Q E else PW b Q E := by split <;> rfl
@[simp] theorem PS_nx (η : Dn) (g : G) : PS (.nx η g) Dp = Dp.nx η g := rfl
@[simp] theorem PS_rt (v : D) (g : G) : PS (.rt v g) Dp = Dp.rt v g := rfl
@[simp] theorem PS_bk (η : Dn) (g : G) : PS (.bk η g) Dp = Dp.bk η g := rfl
@[simp] theorem PS_ct (η : Dn) (g : G) : PS (.ct η g) Dp = Dp.ct η g := rfl
@[simp] theorem PS_ex (e : DX) (g : G) : PS (.ex e g) Dp = Dp.ex e g := rfl
@[simp] theorem PS_no : PS .no Dp = False := rfl
@[simp] theorem PS_ite {c : Prop} [Decidable c] (a b : SD) : PS (if c then a else b) Dp = if c then PS a Dp else PS b Dp := by split <;> rfl
theorem PW.mono {r : Rd α} {Q' : Qd α} {E' : Ed} (w : PW r Q E) (q : ∀ a g, Q a g → Q' a g) (e : ∀ a g, E a g → E' a g) : PW r Q' E' := by
  cases r with
  | ok a g => exact q a g w
  | ex a g => exact e a g w
  | no => exact w
theorem PW.of {r : Rd α} {a : α} {g : G} (e : r = .ok a g) (q : Q a g) : PW r Q E := by rw [e]; exact q
theorem PW.eq {r : Rd α} {v : α} {g : G} (w : PW r (fun v' g' => v' = v ∧ g' = g) eF) : r = .ok v g := by
  cases r with
  | ok a g' => obtain ⟨rfl, rfl⟩ := w; rfl
  | ex a g => exact w.elim
  | no => exact w.elim
theorem PS.mono {r : SD} {D' : Pd} (w : PS r Dp) (h1 : ∀ η g, Dp.nx η g → D'.nx η g) (h2 : ∀ v g, Dp.rt v g → D'.rt v g) (h3 : ∀ η g, Dp.bk η g → D'.bk η g) (h4 : ∀ η g, Dp.ct η g → D'.ct η g) (h5 : ∀ e g, Dp.ex e g → D'.ex e g) : PS r D' := by
  cases r with
  | nx η g => exact h1 _ _ w
  | rt v g => exact h2 _ _ w
  | bk η g => exact h3 _ _ w
  | ct η g => exact h4 _ _ w
  | ex e g => exact h5 _ _ w
  | no => exact w
@[simp] theorem Rd.bind_ok (a : α) (g : G) (f : α → G → Rd β) : (Rd.ok a g).bind f = f a g := rfl
@[simp] theorem Rd.bind_ex (a : DX) (g : G) (f : α → G → Rd β) : (Rd.ex a g).bind f = .ex a g := rfl
@[simp] theorem Rd.bind_no (f : α → G → Rd β) : (Rd.no).bind f = .no := rfl
/-! what is still to come, by names -/
@[simp] def q1 (k : α → G → Rd β) (Q : Qd β) (E : Ed) (x : α) (g : G) : Prop := PW (k x g) Q E
@[simp] def q3 (f : α → β → G → Rd γ) (x : α) (Q : Qd γ) (E : Ed) (y : β) (g : G) : Prop := PW (f x y g) Q E
@[simp] def q2 (f : α → β → G → Rd γ) (b : Di β) (η : Dn) (Q : Qd γ) (E : Ed) (x : α) (g : G) : Prop := PW (b η g) (q3 f x Q E) E
@[simp] def q4 (f : α → β → γ → G → Rd δ) (b : Di β) (c : Di γ) (η : Dn) (Q : Qd δ) (E : Ed) (x : α) (g : G) : Prop := PW (b η g) (q2 (f x) c η Q E) E
@[simp] def qIf (a b : Di α) (η : Dn) (Q : Qd α) (E : Ed) (c : Bool) (g : G) : Prop := if c = true then PW (a η g) Q E else PW (b η g) Q E
@[simp] def qNot (Q : Qd Bool) (c : Bool) (g : G) : Prop := Q (!c) g
@[simp] def qAndW (x : D) (b : Di D) (η : Dn) (Q : Qd D) (E : Ed) (c : Bool) (g : G) : Prop := if c = true then PW (b η g) Q E else Q x g
@[simp] def qOrW (x : D) (b : Di D) (η : Dn) (Q : Qd D) (E : Ed) (c : Bool) (g : G) : Prop := if c = true then Q x g else PW (b η g) Q E
@[simp] def qAndV (b : Di D) (η : Dn) (Q : Qd D) (E : Ed) (x : D) (g : G) : Prop := PW (dO truthT x g) (qAndW x b η Q E) E
@[simp] def qOrV (b : Di D) (η : Dn) (Q : Qd D) (E : Ed) (x : D) (g : G) : Prop := PW (dO truthT x g) (qOrW x b η Q E) E
@[simp] def qNotW (Q : Qd D) (c : Bool) (g : G) : Prop := Q (.bl (!c)) g
@[simp] def qNotV (Q : Qd D) (E : Ed) (x : D) (g : G) : Prop := PW (dO truthT x g) (qNotW Q) E
@[simp] def qC2 (x : D) (Q : Qd (List D)) (xs : List D) (g : G) : Prop := Q (x :: xs) g
@[simp] def qC (b : Di (List D)) (η : Dn) (Q : Qd (List D)) (E : Ed) (x : D) (g : G) : Prop := PW (b η g) (qC2 x Q) E
@[simp] def qEnd (Q : Qd D) (a : List D × G) : Prop := if a.1.length ≤ 16777216 then Q (.lst a.1) a.2 else False
@[simp] def qLc (is : List Nat) (gd : D → Dn → Option Dn) (t : Di Bool) (e : Di D) (η : Dn) (Q : Qd D) (ds : List D) (g : G) : Prop := OQ (lcD gd t e (wipeD η is) ds g) (qEnd Q)
variable {η : Dn} {g : G}
@[simp] theorem PW_d1 {k : α → G → Rd β} {a : Di α} {Q : Qd β} : PW (d1 k a η g) Q E = PW (a η g) (q1 k Q E) E := PW_bind _ _
@[simp] theorem PW_d2 {f : α → β → G → Rd γ} {a : Di α} {b : Di β} {Q : Qd γ} : PW (d2 f a b η g) Q E = PW (a η g) (q2 f b η Q E) E := by
  unfold d2
  rw [PW_bind]
  congr 1
  funext x g1
  exact PW_bind _ _
@[simp] theorem PW_d3 {f : α → β → γ → G → Rd δ} {a : Di α} {b : Di β} {c : Di γ} {Q : Qd δ} : PW (d3 f a b c η g) Q E = PW (a η g) (q4 f b c η Q E) E := by
  unfold d3
  rw [PW_bind]
  congr 1
  funext x g1
  rw [PW_bind]
  unfold q4
  congr 1
  funext y g2
  exact PW_bind _ _
@[simp] theorem PW_dIf {t : Di Bool} {a b : Di α} : PW (dIf t a b η g) Q E = PW (t η g) (qIf a b η Q E) E := by
  unfold dIf
  rw [PW_bind]
  congr 1
  funext x g1
  exact PW_ite _ _
@[simp] theorem PW_dAnd {a b : Di Bool} {Q : Qd Bool} : PW (dAnd a b η g) Q E = PW (a η g) (qIf b (fun _ g => .ok false g) η Q E) E := by
  unfold dAnd
  rw [PW_bind]
  congr 1
  funext x g1
  exact PW_ite _ _
@[simp] theorem PW_dOr {a b : Di Bool} {Q : Qd Bool} : PW (dOr a b η g) Q E = PW (a η g) (qIf (fun _ g => .ok true g) b η Q E) E := by
  unfold dOr
  rw [PW_bind]
  congr 1
  funext x g1
  exact PW_ite _ _
@[simp] theorem PW_dNot {a : Di Bool} {Q : Qd Bool} : PW (dNot a η g) Q E = PW (a η g) (qNot Q) E := by
  unfold dNot
  rw [PW_bind]
  rfl
@[simp] theorem PW_dAndV {a b : Di D} {Q : Qd D} : PW (dAndV a b η g) Q E = PW (a η g) (qAndV b η Q E) E := by
  unfold dAndV
  rw [PW_bind]
  congr 1
  funext x g1
  rw [PW_bind]
  unfold qAndV
  congr 1
  funext y g2
  exact PW_ite _ _
@[simp] theorem PW_dOrV {a b : Di D} {Q : Qd D} : PW (dOrV a b η g) Q E = PW (a η g) (qOrV b η Q E) E := by
  unfold dOrV
  rw [PW_bind]
  congr 1
  funext x g1
  rw [PW_bind]
  unfold qOrV
  congr 1
  funext y g2
  exact PW_ite _ _
@[simp] theorem PW_dNotV {a : Di D} {Q : Qd D} : PW (dNotV a η g) Q E = PW (a η g) (qNotV Q E) E := by
  unfold dNotV
  rw [PW_bind]
  congr 1
  funext x g1
  rw [PW_bind]
  rfl
@[simp] theorem PW_dTru {a : Di D} {Q : Qd Bool} : PW (dTru a η g) Q E = PW (a η g) (q1 (dO truthT) Q E) E := PW_bind _ _
@[simp] theorem PW_dAsB {a : Di D} {Q : Qd Bool} : PW (dAsB a η g) Q E = PW (a η g) (q1 (dO asBD) Q E) E := PW_bind _ _
@[simp] theorem PW_dChk {a : Di D} {Q : Qd D} : PW (dChk a η g) Q E = PW (a η g) (q1 (dO fun d => chk (some d)) Q E) E := PW_bind _ _
@[simp] theorem PW_dCons {a : Di D} {b : Di (List D)} {Q : Qd (List D)} : PW (dCons a b η g) Q E = PW (a η g) (qC b η Q E) E := by
  unfold dCons
  rw [PW_d2]
  rfl
@[simp] theorem PW_dNil {Q : Qd (List D)} : PW (dNil η g) Q E = Q [] g := rfl
@[simp] theorem PW_dC {d : D} {Q : Qd D} : PW (dC d η g) Q E = Q d g := rfl
@[simp] theorem PW_dYes {Q : Qd Bool} : PW (dYes η g) Q E = Q true g := rfl
@[simp] theorem PW_dVar {i : Nat} {Q : Qd D} : PW (dVar i η g) Q E = (match η[i]? with
    | some (some d) => Q d g
    | _ => False) := by
  unfold dVar
  cases h : η[i]? with
  | none => rfl
  | some o => cases o <;> rfl
@[simp] theorem PW_dO {f : α → Option β} {x : α} {Q : Qd β} : PW (dO f x g) Q E = OQ (f x) fun d => Q d g := by
  unfold dO
  cases f x <;> rfl
theorem PW_lcEnd (r : Option (List D × G)) {Q : Qd D} : PW (lcEndD r) Q E = OQ r (qEnd Q) := by
  cases r with
  | none => rfl
  | some p =>
    obtain ⟨vs, g⟩ := p
    unfold lcEndD qEnd
    simp
@[simp] theorem PW_dLc {it : Di (List D)} {is : List Nat} {gd : D → Dn → Option Dn} {t : Di Bool} {e : Di D} {Q : Qd D} : PW (dLc it is gd t e η g) Q E = PW (it η g) (qLc is gd t e η Q) E := by
  unfold dLc
  simp only [PW_bind, PW_lcEnd]
  rfl
@[simp] theorem PW_dDef {n r : Nat} {f : Ds} {xs : List D} {Q : Qd D} : PW (dDef n r f xs g) Q E = if xs.length = n then PS (f (xs.map some ++ List.replicate r none) g) { nx := fun _ g => Q .non g, rt := Q, ex := E } else False := by
  unfold dDef
  rw [PW_ite]
  congr 1
  cases f (xs.map some ++ List.replicate r none) g <;> rfl
def Pd.sq (Dp : Pd) (b : Ds) : Pd := { Dp with nx := fun η g => PS (b η g) Dp }
@[simp] theorem Pd.sq_nx {b : Ds} : (Dp.sq b).nx η g = PS (b η g) Dp := rfl
@[simp] theorem Pd.sq_rt {b : Ds} : (Dp.sq b).rt = Dp.rt := rfl
@[simp] theorem Pd.sq_bk {b : Ds} : (Dp.sq b).bk = Dp.bk := rfl
@[simp] theorem Pd.sq_ct {b : Ds} : (Dp.sq b).ct = Dp.ct := rfl
@[simp] theorem Pd.sq_ex {b : Ds} : (Dp.sq b).ex = Dp.ex := rfl
theorem PS_bindS (r : Rd α) (f : α → G → SD) : PS (r.bindS f) Dp = PW r (fun a g => PS (f a g) Dp) Dp.ex := by cases r <;> rfl
@[simp] def qDrop (η : Dn) (Dp : Pd) (_x : D) (g : G) : Prop := Dp.nx η g
@[simp] def qIfS (a b : Ds) (η : Dn) (Dp : Pd) (c : Bool) (g : G) : Prop := if c = true then PS (a η g) Dp else PS (b η g) Dp
@[simp] def qAsg (gd : D → Dn → Option Dn) (η : Dn) (Dp : Pd) (v : D) (g : G) : Prop := OQ (gd v η) fun η' => Dp.nx η' g
@[simp] def qPar (i j : Nat) (η : Dn) (Dp : Pd) (vs : List D) (g : G) : Prop := match vs with
  | [v, w] => Dp.nx ((η.set i (some v)).set j (some w)) g
  | _ => False
@[simp] def qPar3 (i j l : Nat) (η : Dn) (Dp : Pd) (vs : List D) (g : G) : Prop := match vs with
  | [u, v, w] => Dp.nx (((η.set i (some u)).set j (some v)).set l (some w)) g
  | _ => False
@[simp] def qFor (gd : D → Dn → Option Dn) (b : Ds) (η : Dn) (Dp : Pd) (ds : List D) (g : G) : Prop := PS (forD gd b ds η g) Dp
@[simp] theorem PS_dSeq {a b : Ds} : PS (dSeq a b η g) Dp = PS (a η g) (Dp.sq b) := by
  unfold dSeq
  cases a η g <;> rfl
@[simp] theorem PS_dSkip : PS (dSkip η g) Dp = Dp.nx η g := rfl
@[simp] theorem PS_dBrk : PS (dBrk η g) Dp = Dp.bk η g := rfl
@[simp] theorem PS_dCnt : PS (dCnt η g) Dp = Dp.ct η g := rfl
@[simp] theorem PS_dRet {a : Di D} : PS (dRet a η g) Dp = PW (a η g) Dp.rt Dp.ex := PS_bindS _ _
@[simp] theorem PS_dDrop {a : Di D} : PS (dDrop a η g) Dp = PW (a η g) (qDrop η Dp) Dp.ex := PS_bindS _ _
@[simp] theorem PS_dIfS {t : Di Bool} {a b : Ds} : PS (dIfS t a b η g) Dp = PW (t η g) (qIfS a b η Dp) Dp.ex := by
  unfold dIfS
  rw [PS_bindS]
  congr 1
  funext c g1
  exact PS_ite _ _
@[simp] theorem PS_dAsg {a : Di D} {gd : D → Dn → Option Dn} : PS (dAsg a gd η g) Dp = PW (a η g) (qAsg gd η Dp) Dp.ex := by
  unfold dAsg
  rw [PS_bindS]
  congr 1
  funext v g1
  unfold qAsg
  cases gd v η <;> rfl
@[simp] theorem PS_dPar {i j : Nat} {a : Di (List D)} : PS (dPar i j a η g) Dp = PW (a η g) (qPar i j η Dp) Dp.ex := by
  unfold dPar
  rw [PS_bindS]
  congr 1
  funext vs g1
  rcases vs with _ | ⟨v, _ | ⟨w, _ | _⟩⟩ <;> rfl
@[simp] theorem PS_dPar3 {i j l : Nat} {a : Di (List D)} : PS (dPar3 i j l a η g) Dp = PW (a η g) (qPar3 i j l η Dp) Dp.ex := by
  unfold dPar3
  rw [PS_bindS]
  congr 1
  funext vs g1
  rcases vs with _ | ⟨u, _ | ⟨v, _ | ⟨w, _ | _⟩⟩⟩ <;> rfl
@[simp] theorem PS_dFor {it : Di (List D)} {gd : D → Dn → Option Dn} {b : Ds} : PS (dFor it gd b η g) Dp = PW (it η g) (qFor gd b η Dp) Dp.ex := PS_bindS _ _
@[simp] def qApp (i : Nat) (ds : List D) (η : Dn) (Dp : Pd) (d : D) (g : G) : Prop := if ds.length < 16777216 then Dp.nx (η.set i (some (.lst (ds ++ [d])))) g else False
@[simp] theorem PS_dApp {i : Nat} {f : Di D} : PS (dApp i f η g) Dp = (match η[i]? with
    | some (some (.lst ds)) => PW (f η g) (qApp i ds η Dp) Dp.ex
    | _ => False) := by
  unfold dApp
  cases h : η[i]? with
  | none => rfl
  | some o =>
    cases o with
    | none => rfl
    | some d =>
      cases d <;> try rfl
      simp only []
      rw [PS_bindS]
      congr 1
      funext d g1
      exact PS_ite _ _
@[simp] def qExt (i : Nat) (ds : List D) (η : Dn) (Dp : Pd) (d : D) (g : G) : Prop := match d with
  | .lst es => if ds.length + es.length ≤ 16777216 then Dp.nx (η.set i (some (.lst (ds ++ es)))) g else False
  | _ => False
@[simp] theorem PS_dExt {i : Nat} {f : Di D} : PS (dExt i f η g) Dp = (match η[i]? with
    | some (some (.lst ds)) => PW (f η g) (qExt i ds η Dp) Dp.ex
    | _ => False) := by
  unfold dExt
  cases h : η[i]? with
  | none => rfl
  | some o =>
    cases o with
    | none => rfl
    | some d =>
      cases d <;> try rfl
      simp only []
      rw [PS_bindS]
      congr 1
      funext d g1
      cases d <;> try rfl
      exact PS_ite _ _
@[simp] def qSet2 (i : Nat) (d : D) (η : Dn) (Dp : Pd) (x : D) (g : G) : Prop := match x with
  | .int j => (match η[i]? with
    | some (some (.lst ds)) => OQ (ixN ds.length j) fun l => Dp.nx (η.set i (some (.lst (ds.set l d)))) g
    | _ => False)
  | _ => False
@[simp] def qSet (i : Nat) (fx : Di D) (η : Dn) (Dp : Pd) (d : D) (g : G) : Prop := PW (fx η g) (qSet2 i d η Dp) eF
@[simp] theorem PS_dSet {i : Nat} {fx f : Di D} : PS (dSet i fx f η g) Dp = PW (f η g) (qSet i fx η Dp) Dp.ex := by
  unfold dSet
  rw [PS_bindS]
  congr 1
  funext d g1
  unfold qSet
  cases fx η g1 with
  | no => rfl
  | ex e g2 => rfl
  | ok x g2 =>
    cases x <;> try rfl
    simp only [PW_ok, qSet2]
    cases h : η[i]? with
    | none => rfl
    | some o =>
      cases o with
      | none => rfl
      | some d =>
        cases d <;> try rfl
        simp only []
        cases ixN _ _ <;> rfl
@[simp] theorem PS_dUpd {i : Nat} {u : List D → List D} : PS (dUpd i u η g) Dp = (match η[i]? with
    | some (some (.lst ds)) => Dp.nx (η.set i (some (.lst (u ds)))) g
    | _ => False) := by
  unfold dUpd
  cases h : η[i]? with
  | none => rfl
  | some o =>
    cases o with
    | none => rfl
    | some d => cases d <;> rfl
@[simp] theorem PS_dPop {i j : Nat} : PS (dPop i j η g) Dp = (match η[i]? with
    | some (some (.lst ds)) => OQ ds.getLast? fun d => Dp.nx ((η.set i (some (.lst ds.dropLast))).set j (some d)) g
    | _ => False) := by
  unfold dPop
  cases h : η[i]? with
  | none => rfl
  | some o =>
    cases o with
    | none => rfl
    | some d =>
      cases d <;> try rfl
      simp only []
      cases List.getLast? _ <;> rfl
end
@[simp] theorem tNm_eq (i : Nat) (d : D) (η : Dn) : tNm i d η = some (η.set i (some d)) := rfl
@[simp] theorem t0_nil (η : Dn) : t0 [] η = some η := rfl
@[simp] theorem t0_cons (d : D) (ds : List D) (η : Dn) : t0 (d :: ds) η = none := rfl
@[simp] theorem tC_cons (a : D → Dn → Option Dn) (b : List D → Dn → Option Dn) (d : D) (ds : List D) (η : Dn) : tC a b (d :: ds) η = (a d η).bind (b ds) := rfl
@[simp] theorem tTp_tup (n : Nat) (b : List D → Dn → Option Dn) (ds : List D) (η : Dn) : tTp n b (.tup ds) η = if ds.length = n then b ds η else none := rfl
@[simp] theorem tTp_lst (n : Nat) (b : List D → Dn → Option Dn) (ds : List D) (η : Dn) : tTp n b (.lst ds) η = if ds.length = n then b ds η else none := rfl
/-- a statement's end told, then what follows -/
theorem PS.cut {s rest : Ds} {Dp : Pd} {η : Dn} {g : G} (P : Dn → G → Prop) (h : PS (s η g) { nx := P, rt := Dp.rt, bk := Dp.bk, ct := Dp.ct, ex := Dp.ex }) (k : ∀ η' g', P η' g' → PS (rest η' g') Dp) : PS (s η g) (Dp.sq rest) :=
  h.mono (fun η' g' p => k η' g' p) (fun _ _ z => z) (fun _ _ z => z) (fun _ _ z => z) (fun _ _ z => z)
/-! ### loops -/
theorem for_pw {gd : D → Dn → Option Dn} {b : Ds} {Dp : Pd} : ∀ {ds : List D} {η : Dn} {g : G} (P : Nat → Dn → G → Prop) (h0 : P 0 η g)
    (step : ∀ i x η g, ds[i]? = some x → P i η g → OQ (gd x η) fun η1 => PS (b η1 g) { nx := P (i + 1), ct := P (i + 1), bk := Dp.nx, rt := Dp.rt, ex := Dp.ex })
    (hq : ∀ η g, P ds.length η g → Dp.nx η g), PS (forD gd b ds η g) Dp
  | [], η, g, P, h0, step, hq => hq η g h0
  | x :: ds, η, g, P, h0, step, hq => by
    have h1 := step 0 x η g rfl h0
    cases e1 : gd x η with
    | none => rw [e1] at h1; exact h1.elim
    | some η1 =>
      rw [e1] at h1
      simp only [forD, e1]
      have go : ∀ η2 g2, P 1 η2 g2 → PS (forD gd b ds η2 g2) Dp := fun η2 g2 p => for_pw (fun i => P (i + 1)) p (fun i x η g e p => step (i + 1) x η g (by simpa using e) p) (fun η g p => hq η g p)
      simp only [OQ_some] at h1
      cases e2 : b η1 g with
      | nx η2 g2 => rw [e2] at h1; exact go η2 g2 h1
      | ct η2 g2 => rw [e2] at h1; exact go η2 g2 h1
      | bk η2 g2 => rw [e2] at h1; exact h1
      | rt v g2 => rw [e2] at h1; exact h1
      | ex e g2 => rw [e2] at h1; exact h1
      | no => rw [e2] at h1; exact h1
theorem lc_pw {gd : D → Dn → Option Dn} {t : Di Bool} {e : Di D} {η : Dn} : ∀ {ds : List D} {g : G} {Q : List D × G → Prop} (P : Nat → List D → G → Prop) (h0 : P 0 [] g)
    (step : ∀ i x vs g, ds[i]? = some x → P i vs g → OQ (gd x η) fun η1 => PW (t η1 g) (fun c g1 => if c = true then PW (e η1 g1) (fun v g2 => P (i + 1) (vs ++ [v]) g2) eF else P (i + 1) vs g1) eF)
    (hq : ∀ vs g, P ds.length vs g → Q (vs, g)), OQ (lcD gd t e η ds g) Q
  | [], g, Q, P, h0, step, hq => hq [] g h0
  | x :: ds, g, Q, P, h0, step, hq => by
    have h1 := step 0 x [] g rfl h0
    simp only [lcD]
    cases e1 : gd x η with
    | none => rw [e1] at h1; exact h1
    | some η1 =>
      rw [e1] at h1
      simp only [OQ_some, Option.bind] at h1 ⊢
      cases e2 : t η1 g with
      | no => rw [e2] at h1; exact h1.elim
      | ex c g2 => rw [e2] at h1; exact h1.elim
      | ok c g1 =>
        rw [e2] at h1
        simp only [PW_ok] at h1
        cases c with
        | false =>
          simp only [if_false, Bool.false_eq_true] at h1 ⊢
          exact lc_pw (fun i vs g => P (i + 1) vs g) h1 (fun i x vs g e p => step (i + 1) x vs g (by simpa using e) p) (fun vs g p => hq vs g p)
        | true =>
          simp only [if_true] at h1 ⊢
          cases e3 : e η1 g1 with
          | no => rw [e3] at h1; exact h1.elim
          | ex c g2 => rw [e3] at h1; exact h1.elim
          | ok v g2 =>
            rw [e3] at h1
            simp only [PW_ok, List.nil_append] at h1
            rw [OQ_map]
            exact lc_pw (fun i vs g => P (i + 1) (v :: vs) g) h1 (fun i x vs g e p => step (i + 1) x (v :: vs) g (by simpa using e) p) (fun vs g p => hq (v :: vs) g p)
@[simp] theorem OQ_lcD_nil {gd : D → Dn → Option Dn} {t : Di Bool} {e : Di D} {η : Dn} {g : G} {Q : List D × G → Prop} : OQ (lcD gd t e η [] g) Q = Q ([], g) := rfl
@[simp] theorem OQ_lcD_cons {gd : D → Dn → Option Dn} {t : Di Bool} {e : Di D} {η : Dn} {x : D} {xs : List D} {g : G} {Q : List D × G → Prop} : OQ (lcD gd t e η (x :: xs) g) Q = OQ (gd x η) fun η1 => PW (t η1 g) (fun c g1 => if c = true then PW (e η1 g1) (fun v g2 => OQ (lcD gd t e η xs g2) fun r => Q (v :: r.1, r.2)) eF else OQ (lcD gd t e η xs g1) Q) eF := by
  simp only [lcD, OQ_bind]
  congr 1
  funext η1
  cases t η1 g with
  | no => rfl
  | ex c g' => rfl
  | ok c g1 =>
    simp only [PW_ok]
    cases c with
    | false => simp
    | true =>
      simp only [if_true]
      cases e η1 g1 with
      | no => rfl
      | ex c g' => rfl
      | ok v g2 =>
        simp only [PW_ok, OQ_map]
/-- a comprehension that draws nothing -/
theorem lc_of {β : Type} {gd : D → Dn → Option Dn} {t : Di Bool} {e : Di D} {η : Dn} {g : G} {u : β → D} (c : β → Bool) (F : β → D) : ∀ {xs : List β} (h : ∀ a ∈ xs, ∃ η1, gd (u a) η = some η1 ∧ t η1 g = .ok (c a) g ∧ (c a = true → e η1 g = .ok (F a) g)), lcD gd t e η (xs.map u) g = some ((xs.filter c).map F, g)
  | [], _ => rfl
  | a :: xs, h => by
    obtain ⟨η1, h1, h2, h3⟩ := h a (.head _)
    have ih := lc_of c F (xs := xs) fun a ha => h a (.tail _ ha)
    simp only [List.map_cons, lcD, h1, Option.bind, h2]
    cases hc : c a with
    | true => simp only [if_true, h3 hc, ih, Option.map, List.filter_cons, hc, List.map_cons]
    | false => simp only [if_false, Bool.false_eq_true, ih, List.filter_cons, hc]
/-- the same for all items -/
theorem lc_all {β : Type} {gd : D → Dn → Option Dn} {e : Di D} {η : Dn} {g : G} {u : β → D} (F : β → D) {xs : List β} (h : ∀ a ∈ xs, ∃ η1, gd (u a) η = some η1 ∧ e η1 g = .ok (F a) g) : lcD gd dYes e η (xs.map u) g = some (xs.map F, g) := by
  have := lc_of (gd := gd) (t := dYes) (e := e) (η := η) (g := g) (u := u) (fun _ => true) F (xs := xs) fun a ha => by
    obtain ⟨η1, h1, h2⟩ := h a ha
    exact ⟨η1, h1, rfl, fun _ => h2⟩
  rw [this, List.filter_eq_self.mpr fun _ _ => rfl]
/-! ### numbers, entries -/
@[simp] theorem OQ_dLst (ds : List D) (Q : List D → Prop) : OQ (dLstD ds) Q = if ds.length ≤ 16777216 then Q ds else False := by unfold dLstD; rw [OQ_ite]; rfl
@[simp] theorem OQ_dTup (ds : List D) (Q : D → Prop) : OQ (dTupD ds) Q = if ds.length ≤ 16777216 then Q (.tup ds) else False := by unfold dTupD; rw [OQ_ite]; rfl
@[simp] theorem listT_eq (d : D) : listT d = d.seq := rfl
@[simp] theorem listC_lst (ds : List D) : listC (.lst ds) = if D.flats ds = true then some ds else none := rfl
@[simp] theorem listC_tup (ds : List D) : listC (.tup ds) = if D.flats ds = true then some ds else none := rfl
theorem listC_seq {d : D} {ds : List D} (h : d.seq = some ds) (hf : D.flats ds = true) : listC d = some ds := by
  unfold listC
  rw [h]
  simp [hf]
@[simp] theorem D.seq_non : D.non.seq = none := rfl
@[simp] theorem D.seq_int (i : Int) : (D.int i).seq = none := rfl
@[simp] theorem D.seq_bl (i : Bool) : (D.bl i).seq = none := rfl
@[simp] theorem D.seq_str (i : Str) : (D.str i).seq = none := rfl
@[simp] theorem arI_int (f : Int → Int → Option Int) (i j : Int) : arI f (.int i) (.int j) = (f i j).map .int := rfl
@[simp] theorem cmI_int (f : Int → Int → Bool) (i j : Int) : cmI f (.int i) (.int j) = some (.bl (f i j)) := rfl
@[simp] theorem addT_int (i j : Int) : addT (.int i) (.int j) = some (.int (i + j)) := rfl
@[simp] theorem addT_str (a b : Str) : addT (.str a) (.str b) = if a.length + b.length ≤ 16777216 then some (.str (a ++ b)) else none := rfl
@[simp] theorem addT_tup (xs ys : List D) : addT (.tup xs) (.tup ys) = if xs.length + ys.length ≤ 16777216 then some (.tup (xs ++ ys)) else none := rfl
@[simp] theorem addT_lst (xs ys : List D) : addT (.lst xs) (.lst ys) = if xs.length + ys.length ≤ 16777216 then some (.lst (xs ++ ys)) else none := rfl
@[simp] theorem isNon_non : D.non.isNon = true := rfl
@[simp] theorem isNon_bl (b : Bool) : (D.bl b).isNon = false := rfl
@[simp] theorem isNon_int (b : Int) : (D.int b).isNon = false := rfl
@[simp] theorem isNon_str (b : Str) : (D.str b).isNon = false := rfl
@[simp] theorem isNon_tup (b : List D) : (D.tup b).isNon = false := rfl
@[simp] theorem isNon_lst (b : List D) : (D.lst b).isNon = false := rfl
@[simp] theorem isNon_dic (b : List (Key × D)) : (D.dic b).isNon = false := rfl
@[simp] theorem isT0_non (x : D) : isT0 x .non = some (.bl x.isNon) := by cases x <;> rfl
@[simp] theorem isT0_bl (a b : Bool) : isT0 (.bl a) (.bl b) = some (.bl (decide (a = b))) := rfl
@[simp] theorem isnotT_non (x : D) : isnotT x .non = some (.bl (!x.isNon)) := by cases x <;> rfl
@[simp] theorem isnotT_bl (a b : Bool) : isnotT (.bl a) (.bl b) = some (.bl (!decide (a = b))) := rfl
@[simp] theorem asBD_bl (b : Bool) : asBD (.bl b) = some b := rfl
@[simp] theorem truthT_non : truthT .non = some false := rfl
@[simp] theorem truthT_bl (b : Bool) : truthT (.bl b) = some b := rfl
@[simp] theorem truthT_int (i : Int) : truthT (.int i) = some (i != 0) := rfl
@[simp] theorem truthT_str (y : Str) : truthT (.str y) = if y.length ≤ 16777216 then some ((y.length : Int) != 0) else none := rfl
@[simp] theorem truthT_tup (b : List D) : truthT (.tup b) = some (!b.isEmpty) := rfl
@[simp] theorem truthT_lst (b : List D) : truthT (.lst b) = some (!b.isEmpty) := rfl
@[simp] theorem truthT_dic (b : List (Key × D)) : truthT (.dic b) = some (!b.isEmpty) := rfl
@[simp] theorem lenT_tup (b : List D) : lenT (.tup b) = some (.int b.length) := rfl
@[simp] theorem lenT_lst (b : List D) : lenT (.lst b) = some (.int b.length) := rfl
@[simp] theorem lenT_str (z : Str) : lenT (.str z) = if z.length ≤ 16777216 then some (.int z.length) else none := rfl
@[simp] theorem getT_tup (xs : List D) (i : Int) : getT (.tup xs) (.int i) = atI xs i := rfl
@[simp] theorem getT_lst (xs : List D) (i : Int) : getT (.lst xs) (.int i) = atI xs i := rfl
@[simp] theorem getT_dicI (kvs : List (Key × D)) (i : Int) : getT (.dic kvs) (.int i) = valD kvs (.inl i) := rfl
@[simp] theorem getT_dicS (kvs : List (Key × D)) (i : Str) : getT (.dic kvs) (.str i) = valD kvs (.inr i) := rfl
@[simp] theorem getT_str (z : Str) (i : Int) : getT (.str z) (.int i) = if z.length ≤ 16777216 then (atI z.cps.toList i).map fun c => .str ⟨#[c]⟩ else none := rfl
theorem getT_seq {d : D} {ds : List D} (h : d.seq = some ds) (i : Int) : getT d (.int i) = atI ds i := by
  cases d <;> simp only [D.seq] at h <;> cases h <;> rfl
theorem lenT_seq {d : D} {ds : List D} (h : d.seq = some ds) : lenT d = some (.int ds.length) := by
  cases d <;> simp only [D.seq] at h <;> cases h <;> rfl
theorem isNon_seq {d : D} {ds : List D} (h : d.seq = some ds) : d.isNon = false := by
  cases d <;> simp only [D.seq] at h <;> cases h <;> rfl
theorem truthT_seq {d : D} {ds : List D} (h : d.seq = some ds) : truthT d = some (!ds.isEmpty) := by
  cases d <;> simp only [D.seq] at h <;> cases h <;> rfl
@[simp] theorem sliceT_tup (xs : List D) (lo hi : Option Int) : sliceT (.tup xs) lo hi = some (.tup (cutD xs lo hi)) := rfl
@[simp] theorem sliceT_lst (xs : List D) (lo hi : Option Int) : sliceT (.lst xs) lo hi = some (.lst (cutD xs lo hi)) := rfl
@[simp] theorem sliceT_str (z : Str) (lo hi : Option Int) : sliceT (.str z) lo hi = if z.length ≤ 16777216 then some (.str (cutS z lo hi)) else none := rfl
@[simp] theorem asID_int (i : Int) : asID (.int i) = some (some i) := rfl
@[simp] theorem absT_int (i : Int) : absT (.int i) = some (.int (if i < 0 then -i else i)) := rfl
@[simp] theorem negT_int (i : Int) : negT (.int i) = some (.int (-i)) := rfl
@[simp] theorem divmodT_int (i j : Int) : divmodT (.int i) (.int j) = if 0 < j ∧ j < 2 ^ 200 then some (.tup [.int (i / j), .int (i % j)]) else none := rfl
@[simp] theorem mulT_int (i j : Int) : mulT (.int i) (.int j) = if small i ∧ small j then some (.int (i * j)) else none := rfl
@[simp] theorem mulT_lst (xs : List D) (k : Int) : mulT (.lst xs) (.int k) = if 0 ≤ k ∧ k ≤ 16777216 ∧ xs.length * k.toNat ≤ 16777216 ∧ D.flats xs = true then some (.lst (List.replicate k.toNat xs).flatten) else none := rfl
@[simp] theorem tagD_non : tagD .non = some "NoneType" := rfl
@[simp] theorem tagD_bl (b : Bool) : tagD (.bl b) = some "bool" := rfl
@[simp] theorem tagD_int (b : Int) : tagD (.int b) = some "int" := rfl
@[simp] theorem tagD_str (b : Str) : tagD (.str b) = some "str" := rfl
@[simp] theorem tagD_tup (b : List D) : tagD (.tup b) = some "tuple" := rfl
@[simp] theorem tagD_lst (b : List D) : tagD (.lst b) = some "list" := rfl
@[simp] theorem tagD_dic (b : List (Key × D)) : tagD (.dic b) = some "dict" := rfl
@[simp] theorem isinstT_ty (x : D) (b : String) : isinstT x (.ty b) = (tagD x).bind fun a => if okTy b = true then some (.bl (isTy a b)) else none := by
  unfold isinstT
  cases x <;> rfl
@[simp] theorem isinstT_tup (x : D) (cs : List D) : isinstT x (.tup cs) = (tagD x).bind fun a => (isV1D a cs).map .bl := by
  unfold isinstT
  cases x <;> rfl
@[simp] theorem bind_some' {α β : Type} (a : α) (f : α → Option β) : (some a).bind f = f a := rfl
@[simp] theorem flats_rep (n : Nat) (xs : List D) (h : D.flats xs = true) : D.flats (List.replicate n xs).flatten = true := by
  induction n with
  | zero => rfl
  | succ n ih => rw [List.replicate_succ, List.flatten_cons, D.flats_app, h, ih]; rfl
@[simp] theorem eqT_int (i j : Int) : eqT (.int i) (.int j) = some (i == j) := by simp [eqT, pyD, SeqAt.shaped, PyData.canLay0, PyData.depth, PyData.eqv]
@[simp] theorem eqT_bl (i j : Bool) : eqT (.bl i) (.bl j) = some (i == j) := by simp [eqT, pyD, SeqAt.shaped, PyData.canLay0, PyData.depth, PyData.eqv]
@[simp] theorem eqT_non : eqT .non .non = some true := by simp [eqT, pyD, SeqAt.shaped, PyData.canLay0, PyData.depth, PyData.eqv]
@[simp] theorem eqT_non_int (j : Int) : eqT .non (.int j) = some false := by simp [eqT, pyD, SeqAt.shaped, PyData.canLay0, PyData.depth, PyData.eqv]
@[simp] theorem eqT_int_non (j : Int) : eqT (.int j) .non = some false := by simp [eqT, pyD, SeqAt.shaped, PyData.canLay0, PyData.depth, PyData.eqv]
def eD : Option Int → D
  | none => .non
  | some i => .int i
@[simp] theorem eD_none : eD none = .non := rfl
@[simp] theorem eD_some (i : Int) : eD (some i) = .int i := rfl
@[simp] theorem isNon_eD (o : Option Int) : (eD o).isNon = o.isNone := by cases o <;> rfl
@[simp] theorem asBD_eD_none (o : Option Int) : tagD (eD o) = some (if o.isNone then "NoneType" else "int") := by cases o <;> rfl
@[simp] theorem eD_flat (o : Option Int) : (eD o).flat = true := by cases o <;> rfl
theorem eD_flats (xs : List (Option Int)) : D.flats (xs.map eD) = true := by
  induction xs with
  | nil => rfl
  | cons x xs ih => simp [D.flats, ih]
@[simp] theorem rngL_len (lo : Int) (n : Nat) : (rngL lo n).length = n := by simp [rngL]
theorem rngL_get {lo : Int} {n i : Nat} {x : D} (e : (rngL lo n)[i]? = some x) : i < n ∧ x = .int (lo + (i : Int)) := by
  have hlen : i < n := by
    have := (List.getElem?_eq_some_iff.mp e).1
    simpa [rngL] using this
  refine ⟨hlen, ?_⟩
  simp only [rngL, List.getElem?_map, List.getElem?_range hlen, Option.map_some, Option.some.injEq] at e
  exact e.symm
@[simp] theorem rng1T_is {j : Int} (h0 : 0 ≤ j) (h1 : j ≤ 1000000) : rng1T [.int j] = some (rngL 0 j.toNat) := if_pos ⟨by omega, by omega⟩
@[simp] theorem rng2T_is {i j : Int} (h0 : -1000000 ≤ i) (h1 : i ≤ 1000000) (h2 : -1000000 ≤ j) (h3 : j ≤ 1000000) : rng2T [.int i, .int j] = some (rngL i (j - i).toNat) := if_pos ⟨by omega, by omega, by omega, by omega⟩
@[simp] theorem okTy_list : okTy "list" = true := by decide +kernel
@[simp] theorem okTy_tuple : okTy "tuple" = true := by decide +kernel
@[simp] theorem okTy_int : okTy "int" = true := by decide +kernel
@[simp] theorem okTy_bool : okTy "bool" = true := by decide +kernel
@[simp] theorem okTy_str : okTy "str" = true := by decide +kernel
@[simp] theorem okTy_dict : okTy "dict" = true := by decide +kernel
@[simp] theorem isTy_NoneType_list : isTy "NoneType" "list" = false := by decide +kernel
@[simp] theorem isTy_NoneType_tuple : isTy "NoneType" "tuple" = false := by decide +kernel
@[simp] theorem isTy_NoneType_int : isTy "NoneType" "int" = false := by decide +kernel
@[simp] theorem isTy_NoneType_bool : isTy "NoneType" "bool" = false := by decide +kernel
@[simp] theorem isTy_NoneType_str : isTy "NoneType" "str" = false := by decide +kernel
@[simp] theorem isTy_NoneType_dict : isTy "NoneType" "dict" = false := by decide +kernel
@[simp] theorem isTy_bool_list : isTy "bool" "list" = false := by decide +kernel
@[simp] theorem isTy_bool_tuple : isTy "bool" "tuple" = false := by decide +kernel
@[simp] theorem isTy_bool_int : isTy "bool" "int" = true := by decide +kernel
@[simp] theorem isTy_bool_bool : isTy "bool" "bool" = true := by decide +kernel
@[simp] theorem isTy_bool_str : isTy "bool" "str" = false := by decide +kernel
@[simp] theorem isTy_bool_dict : isTy "bool" "dict" = false := by decide +kernel
@[simp] theorem isTy_int_list : isTy "int" "list" = false := by decide +kernel
@[simp] theorem isTy_int_tuple : isTy "int" "tuple" = false := by decide +kernel
@[simp] theorem isTy_int_int : isTy "int" "int" = true := by decide +kernel
@[simp] theorem isTy_int_bool : isTy "int" "bool" = false := by decide +kernel
@[simp] theorem isTy_int_str : isTy "int" "str" = false := by decide +kernel
@[simp] theorem isTy_int_dict : isTy "int" "dict" = false := by decide +kernel
@[simp] theorem isTy_str_list : isTy "str" "list" = false := by decide +kernel
@[simp] theorem isTy_str_tuple : isTy "str" "tuple" = false := by decide +kernel
@[simp] theorem isTy_str_int : isTy "str" "int" = false := by decide +kernel
@[simp] theorem isTy_str_bool : isTy "str" "bool" = false := by decide +kernel
@[simp] theorem isTy_str_str : isTy "str" "str" = true := by decide +kernel
@[simp] theorem isTy_str_dict : isTy "str" "dict" = false := by decide +kernel
@[simp] theorem isTy_tuple_list : isTy "tuple" "list" = false := by decide +kernel
@[simp] theorem isTy_tuple_tuple : isTy "tuple" "tuple" = true := by decide +kernel
@[simp] theorem isTy_tuple_int : isTy "tuple" "int" = false := by decide +kernel
@[simp] theorem isTy_tuple_bool : isTy "tuple" "bool" = false := by decide +kernel
@[simp] theorem isTy_tuple_str : isTy "tuple" "str" = false := by decide +kernel
@[simp] theorem isTy_tuple_dict : isTy "tuple" "dict" = false := by decide +kernel
@[simp] theorem isTy_list_list : isTy "list" "list" = true := by decide +kernel
@[simp] theorem isTy_list_tuple : isTy "list" "tuple" = false := by decide +kernel
@[simp] theorem isTy_list_int : isTy "list" "int" = false := by decide +kernel
@[simp] theorem isTy_list_bool : isTy "list" "bool" = false := by decide +kernel
@[simp] theorem isTy_list_str : isTy "list" "str" = false := by decide +kernel
@[simp] theorem isTy_list_dict : isTy "list" "dict" = false := by decide +kernel
@[simp] theorem isTy_dict_list : isTy "dict" "list" = false := by decide +kernel
@[simp] theorem isTy_dict_tuple : isTy "dict" "tuple" = false := by decide +kernel
@[simp] theorem isTy_dict_int : isTy "dict" "int" = false := by decide +kernel
@[simp] theorem isTy_dict_bool : isTy "dict" "bool" = false := by decide +kernel
@[simp] theorem isTy_dict_str : isTy "dict" "str" = false := by decide +kernel
@[simp] theorem isTy_dict_dict : isTy "dict" "dict" = true := by decide +kernel
/-! ### draws -/
/-- so many more draws are allowed -/
structure Dw (b : Int) (g : G) : Prop where
  ne : g.cs ≠ []
  t0 : 0 ≤ g.t
  t1 : g.t + b < 2 ^ 60
theorem Dw.less {b b' : Int} {g : G} (w : Dw b g) (h : b' ≤ b) : Dw b' g := ⟨w.ne, w.t0, by have := w.t1; omega⟩
theorem take_pw {k : Int} {b : Int} {g : G} {many : Int} {Q : Qd D} {E : Ed} (w : Dw b g) (hb : 1 ≤ b) (h1 : 1 ≤ many) (h2 : many < 2 ^ 100) (q : ∀ g' d, Dw (b - 1) g' → 0 ≤ d → d < many → Q (.int d) g') : PW (takeD k [.stt, .int many] g) Q E := by
  have t1 := w.t1
  have t0 := w.t0
  have hpos : 0 < (g.cs.length : Int) := by
    have := List.length_pos_iff.mpr w.ne
    omega
  have hm0 : 0 ≤ (g.t + 1) % (g.cs.length : Int) := Int.emod_nonneg _ (by omega)
  have hm1 : (g.t + 1) % (g.cs.length : Int) < g.cs.length := Int.emod_lt_of_pos _ hpos
  have hl : ((g.t + 1) % (g.cs.length : Int)).toNat < g.cs.length := by omega
  have ha : atI g.cs ((g.t + 1) % (g.cs.length : Int)) = some g.cs[((g.t + 1) % (g.cs.length : Int)).toNat] := by
    unfold atI ixN
    rw [if_pos hm0, if_pos hm1]
    simp [hl]
  have e : takeG k g many = if 1000000000000000000 ≤ g.cs[((g.t + 1) % (g.cs.length : Int)).toNat] then some (g.cs[((g.t + 1) % (g.cs.length : Int)).toNat] % many, ⟨g.cs.set ((g.t + 1) % (g.cs.length : Int)).toNat (g.cs[((g.t + 1) % (g.cs.length : Int)).toNat] / many), g.t + 1⟩) else some (mixK k g.cs[((g.t + 1) % (g.cs.length : Int)).toNat] (g.t + 1) many, ⟨g.cs, g.t + 1⟩) := by
    unfold takeG
    rw [if_pos ⟨w.ne, t0, by omega, h1, h2⟩, ha]
  by_cases hc : 1000000000000000000 ≤ g.cs[((g.t + 1) % (g.cs.length : Int)).toNat]
  · rw [if_pos hc] at e
    simp only [takeD, e, PW_ok]
    refine q _ _ ⟨?_, ?_, ?_⟩ (Int.emod_nonneg _ (by omega)) (Int.emod_lt_of_pos _ (by omega))
    · intro z
      have := congrArg List.length z
      rw [List.length_set] at this
      simp at this
      exact w.ne this
    · show 0 ≤ g.t + 1
      omega
    · show g.t + 1 + (b - 1) < 2 ^ 60
      omega
  · rw [if_neg hc] at e
    simp only [takeD, e, PW_ok]
    refine q _ _ ⟨w.ne, ?_, ?_⟩ (Int.emod_nonneg _ (by omega)) (Int.emod_lt_of_pos _ (by omega))
    · show 0 ≤ g.t + 1
      omega
    · show g.t + 1 + (b - 1) < 2 ^ 60
      omega
/-! ### the law's end -/
theorem law_pure {n : Nat} {b : Ms} {f : Ds} (hf : PuS .fr [] (List.replicate (n + 2) .im) [] b f) (k : ∀ cs : List Int, cs ≠ [] → PS (f (none :: some .stt :: List.replicate n none) ⟨cs, 0⟩) { rt := fun v _ => v = .bl true }) : LawOk n b := by
  intro cs h1 h2
  have w := k cs h1
  have s : Stt BT (List.replicate (n + 2) .im) (none :: some .stt :: List.replicate n none) ⟨cs, 0⟩ (fun n => n < 2) BF (List.replicate (n + 2) []) (none :: some (.ref 1) :: List.replicate n none) (Sh cs 0 []) := by
    refine ⟨⟨rfl, rfl⟩, ?_, by rw [flat_nil]; exact List.nodup_nil, by rw [flat_nil]; exact fun n z => absurd z List.not_mem_nil, fun n z => z, fun n z => z.elim, fun n z => trivial⟩
    refine .cons (.un _ _) (.cons (.im .stt) ?_)
    induction n with
    | zero => exact .nil
    | succ n ih => 
      refine .cons (.un _ _) ?_
      clear ih w k hf
      induction n with
      | zero => exact .nil
      | succ n ih => exact .cons (.un _ _) ih
  have h3 := hf.run s
  cases e : f (none :: some .stt :: List.replicate n none) ⟨cs, 0⟩ with
  | rt v g' =>
    rw [e] at w h3
    obtain ⟨u, h', e2, f1, gr', F, r, _⟩ := h3
    have w : v = .bl true := w
    subst w
    cases r
    exact ⟨h', e2⟩
  | nx η g => rw [e] at w; exact w.elim
  | bk η g => rw [e] at w; exact w.elim
  | ct η g => rw [e] at w; exact w.elim
  | ex c g => rw [e] at w; exact w.elim
  | no => rw [e] at w; exact w.elim
end Lt
namespace Lt
open PySem L2
/-! ### entries -/
def lesO : Option Int → Option Int → Option Int
  | none, b => b
  | a, none => a
  | some a, some b => some (if b < a then b else a)
def addO : Option Int → Option Int → Option Int
  | some a, some b => some (a + b)
  | _, _ => none
def leO : Option Int → Option Int → Bool
  | _, none => true
  | none, some _ => false
  | some a, some b => decide (a ≤ b)
@[simp] theorem lesO_none_left (b : Option Int) : lesO none b = b := rfl
@[simp] theorem lesO_none_right (b : Option Int) : lesO b none = b := by cases b <;> rfl
theorem lesO_some (a b : Int) : lesO (some a) (some b) = some (min a b) := by
  simp only [lesO, Option.some.injEq]
  split <;> omega
theorem lesO_comm (a b : Option Int) : lesO a b = lesO b a := by
  cases a <;> cases b <;> simp [lesO_some] <;> omega
theorem lesO_assoc (a b c : Option Int) : lesO (lesO a b) c = lesO a (lesO b c) := by
  cases a <;> cases b <;> cases c <;> simp [lesO_some] <;> omega
theorem lesO_self (a : Option Int) : lesO a a = a := by
  cases a <;> simp [lesO_some]
@[simp] theorem addO_none_left (b : Option Int) : addO none b = none := by cases b <;> rfl
@[simp] theorem addO_none_right (b : Option Int) : addO b none = none := by cases b <;> rfl
@[simp] theorem addO_some (a b : Int) : addO (some a) (some b) = some (a + b) := rfl
theorem addO_comm (a b : Option Int) : addO a b = addO b a := by
  cases a <;> cases b <;> simp <;> omega
theorem addO_assoc (a b c : Option Int) : addO (addO a b) c = addO a (addO b c) := by
  cases a <;> cases b <;> cases c <;> simp <;> omega
theorem addO_les (a b c : Option Int) : addO a (lesO b c) = lesO (addO a b) (addO a c) := by
  cases a <;> cases b <;> cases c <;> simp [lesO_some] <;> omega
theorem les_addO (a b c : Option Int) : addO (lesO b c) a = lesO (addO b a) (addO c a) := by
  rw [addO_comm, addO_les, addO_comm a b, addO_comm a c]
@[simp] theorem leO_none (a : Option Int) : leO a none = true := by cases a <;> rfl
@[simp] theorem leO_none_some (b : Int) : leO none (some b) = false := rfl
@[simp] theorem leO_some (a b : Int) : leO (some a) (some b) = decide (a ≤ b) := rfl
theorem leO_refl (a : Option Int) : leO a a = true := by cases a <;> simp
theorem leO_trans {a b c : Option Int} (h1 : leO a b = true) (h2 : leO b c = true) : leO a c = true := by
  cases a <;> cases b <;> cases c <;> simp at * <;> omega
theorem leO_antisymm {a b : Option Int} (h1 : leO a b = true) (h2 : leO b a = true) : a = b := by
  cases a <;> cases b <;> simp at * <;> omega
theorem leO_total (a b : Option Int) : leO a b = true ∨ leO b a = true := by
  cases a <;> cases b <;> simp <;> omega
theorem leO_les {a b c : Option Int} : leO c (lesO a b) = true ↔ leO c a = true ∧ leO c b = true := by
  cases a <;> cases b <;> cases c <;> simp [lesO_some] <;> omega
theorem les_le_left (a b : Option Int) : leO (lesO a b) a = true := by
  cases a <;> cases b <;> simp [lesO_some] <;> omega
theorem les_le_right (a b : Option Int) : leO (lesO a b) b = true := by rw [lesO_comm]; exact les_le_left b a
theorem les_mono {a b c d : Option Int} (h1 : leO a c = true) (h2 : leO b d = true) : leO (lesO a b) (lesO c d) = true :=
  leO_les.mpr ⟨leO_trans (les_le_left a b) h1, leO_trans (les_le_right a b) h2⟩
theorem addO_mono {a b : Option Int} (c : Option Int) (h : leO a b = true) : leO (addO a c) (addO b c) = true := by
  cases a <;> cases b <;> cases c <;> simp at * <;> omega
theorem leO_iff_les {a b : Option Int} : leO a b = true ↔ lesO a b = a := by
  cases a <;> cases b <;> simp [lesO_some] <;> omega
/-! ### rows -/
abbrev Ent := Option Int
abbrev Row := List Ent
abbrev Tab := List Row
def lsum : Row → Row → Ent
  | x :: xs, y :: ys => lesO (addO x y) (lsum xs ys)
  | _, _ => none
def bothO (xs ys : Row) : Row := List.zipWith lesO xs ys
def raiseO (xs : Row) (e : Ent) : Row := xs.map fun x => addO x e
def belowO (xs ys : Row) : Bool := (List.zipWith leO xs ys).all id
theorem lsum_both (u : Row) : ∀ (x y : Row), x.length = y.length → lsum u (bothO x y) = lesO (lsum u x) (lsum u y) := by
  induction u with
  | nil => intro x y _; cases x <;> cases y <;> rfl
  | cons a u ih =>
    intro x y h
    cases x with
    | nil =>
      cases y with
      | nil => rfl
      | cons _ _ => simp at h
    | cons b x =>
      cases y with
      | nil => simp at h
      | cons c y =>
        show lesO (addO a (lesO b c)) (lsum u (bothO x y)) = lesO (lesO (addO a b) (lsum u x)) (lesO (addO a c) (lsum u y))
        rw [ih x y (by simpa using h), addO_les, lesO_assoc, lesO_assoc]
        congr 1
        rw [← lesO_assoc, ← lesO_assoc, lesO_comm (addO a c)]
theorem lsum_raise (u : Row) (e : Ent) : ∀ x : Row, lsum u (raiseO x e) = addO (lsum u x) e := by
  induction u with
  | nil => intro x; cases x <;> rfl
  | cons a u ih =>
    intro x
    cases x with
    | nil => rfl
    | cons b x =>
      show lesO (addO a (addO b e)) (lsum u (raiseO x e)) = addO (lesO (addO a b) (lsum u x)) e
      rw [ih, les_addO, addO_assoc]
theorem lsum_none (u : Row) : ∀ n, lsum u (List.replicate n none) = none := by
  induction u with
  | nil => intro n; cases n <;> rfl
  | cons a u ih =>
    intro n
    cases n with
    | zero => rfl
    | succ n =>
      rw [List.replicate_succ]
      show lesO (addO a none) (lsum u (List.replicate n none)) = none
      rw [ih, addO_none_right]
      rfl
theorem lsum_comm : ∀ (x y : Row), lsum x y = lsum y x
  | [], [] => rfl
  | [], _ :: _ => rfl
  | _ :: _, [] => rfl
  | a :: x, b :: y => by
    show lesO (addO a b) (lsum x y) = lesO (addO b a) (lsum y x)
    rw [addO_comm, lsum_comm x y]
theorem lsum_drop {acc : Ent} {xs ys : Row} {i : Nat} {x y : Ent} (h1 : xs[i]? = some x) (h2 : ys[i]? = some y) : lesO acc (lsum (xs.drop i) (ys.drop i)) = lesO (lesO acc (addO x y)) (lsum (xs.drop (i + 1)) (ys.drop (i + 1))) := by
  obtain ⟨l1, e1⟩ := List.getElem?_eq_some_iff.mp h1
  obtain ⟨l2, e2⟩ := List.getElem?_eq_some_iff.mp h2
  rw [List.drop_eq_getElem_cons l1, List.drop_eq_getElem_cons l2, e1, e2]
  show lesO acc (lesO (addO x y) _) = _
  rw [lesO_assoc]
theorem lsum_end (xs ys : Row) {i : Nat} (h : xs.length ≤ i ∨ ys.length ≤ i) : lsum (xs.drop i) (ys.drop i) = none := by
  rcases h with h | h
  · rw [List.drop_eq_nil_of_le h]; rfl
  · rw [List.drop_eq_nil_of_le h]
    cases xs.drop i <;> rfl
/-! ### rows and tables as data -/
abbrev rowD (xs : Row) : D := .lst (xs.map eD)
abbrev tabD (xss : Tab) : D := .lst (xss.map rowD)
/-- a row, as a list or a tuple -/
def Rw (d : D) (xs : Row) : Prop := d.seq = some (xs.map eD)
@[simp] theorem Rw_row (xs : Row) : Rw (rowD xs) xs := rfl
@[simp] theorem Rw_tup (xs : Row) : Rw (.tup (xs.map eD)) xs := rfl
@[simp] theorem Rw_lst (xs : Row) : Rw (.lst (xs.map eD)) xs := rfl
theorem Rw.seq {d : D} {xs : Row} (h : Rw d xs) : d.seq = some (xs.map eD) := h
inductive Rws : List D → Tab → Prop
  | nil : Rws [] []
  | cons {d : D} {xs : Row} {ds : List D} {xss : Tab} (h : Rw d xs) (t : Rws ds xss) : Rws (d :: ds) (xs :: xss)
theorem Rws.len {ds : List D} {xss : Tab} (h : Rws ds xss) : ds.length = xss.length := by
  induction h with
  | nil => rfl
  | cons _ _ ih => simp [ih]
theorem Rws.get {ds : List D} {xss : Tab} (h : Rws ds xss) : ∀ {i : Nat} {d : D}, ds[i]? = some d → ∃ xs, xss[i]? = some xs ∧ Rw d xs := by
  induction h with
  | nil => intro i d e; simp at e
  | cons h t ih =>
    intro i d e
    cases i with
    | zero => simp at e; subst e; exact ⟨_, rfl, h⟩
    | succ i => exact ih (by simpa using e)
theorem Rws.getT {ds : List D} {xss : Tab} (h : Rws ds xss) {i : Nat} {xs : Row} (e : xss[i]? = some xs) : ∃ d, ds[i]? = some d ∧ Rw d xs := by
  have hl : i < ds.length := by rw [h.len]; exact (List.getElem?_eq_some_iff.mp e).1
  obtain ⟨xs', e1, r⟩ := h.get (List.getElem?_eq_getElem hl)
  rw [e] at e1
  cases e1
  exact ⟨_, List.getElem?_eq_getElem hl, r⟩
theorem Rws.rows (xss : Tab) : Rws (xss.map rowD) xss := by
  induction xss with
  | nil => exact .nil
  | cons x xss ih => exact .cons rfl ih
theorem Rws.append {ds es : List D} {xss yss : Tab} (h : Rws ds xss) (k : Rws es yss) : Rws (ds ++ es) (xss ++ yss) := by
  induction h with
  | nil => exact k
  | cons h t ih => exact .cons h ih
/-- a table, as lists and tuples -/
def Tb (d : D) (xss : Tab) : Prop := ∃ ds, d.seq = some ds ∧ Rws ds xss
@[simp] theorem Tb_tab (xss : Tab) : Tb (tabD xss) xss := ⟨_, rfl, Rws.rows xss⟩
theorem lc_rws {gd : D → Dn → Option Dn} {e : Di D} {η : Dn} {g : G} (F : Row → D) {ds : List D} {xss : Tab} (r : Rws ds xss) (h : ∀ d xs, Rw d xs → xs ∈ xss → ∃ η1, gd d η = some η1 ∧ e η1 g = .ok (F xs) g) : lcD gd dYes e η ds g = some (xss.map F, g) := by
  induction r with
  | nil => rfl
  | cons h1 t ih =>
    obtain ⟨η1, e1, e2⟩ := h _ _ h1 (.head _)
    have := ih fun d xs r m => h d xs r (.tail _ m)
    simp only [lcD, e1, Option.bind, dYes, if_true, e2, this, Option.map, List.map_cons]
theorem zip_getE {xs ys : Row} {i : Nat} {z : D} (e : (List.zipWith (fun a b => D.tup [eD a, eD b]) xs ys)[i]? = some z) : ∃ a b, xs[i]? = some a ∧ ys[i]? = some b ∧ z = .tup [eD a, eD b] := by
  rw [List.getElem?_zipWith] at e
  cases h1 : xs[i]? with
  | none => rw [h1] at e; cases e
  | some a =>
    cases h2 : ys[i]? with
    | none => rw [h1, h2] at e; cases e
    | some b =>
      rw [h1, h2] at e
      exact ⟨a, b, rfl, rfl, (Option.some.inj e).symm⟩
theorem zip_mapE (xs ys : Row) : List.zipWith (fun a b => D.tup [a, b]) (xs.map eD) (ys.map eD) = (List.zip xs ys).map fun p => .tup [eD p.1, eD p.2] := by
  rw [List.zipWith_map, List.zip, List.map_zipWith]
theorem D.lst_flats {xs : Row} : D.flats (xs.map eD) = true := eD_flats xs
@[simp] theorem eD_flats' (xs : Row) : D.flats (xs.map eD) = true := eD_flats xs
theorem flat_replicate (n : Nat) : (List.replicate n [D.non]).flatten = (List.replicate n (none : Ent)).map eD := by
  induction n with
  | zero => rfl
  | succ n ih => rw [List.replicate_succ, List.flatten_cons, ih, List.replicate_succ]; rfl
@[simp] theorem atI_map {α β : Type} (f : α → β) (xs : List α) (i : Int) : atI (xs.map f) i = (atI xs i).map f := by
  unfold atI
  rw [List.length_map]
  cases ixN xs.length i with
  | none => rfl
  | some j => simp
@[simp] theorem atI_nat {α : Type} (xs : List α) (n : Nat) : atI xs (n : Int) = xs[n]? := by
  unfold atI ixN
  rw [if_pos (by omega)]
  by_cases h : n < xs.length
  · rw [if_pos (by omega)]
    rfl
  · rw [if_neg (by omega), List.getElem?_eq_none (by omega)]
    rfl
theorem atI_pos {α : Type} (xs : List α) {i : Int} (h : 0 ≤ i) : atI xs i = xs[i.toNat]? := by
  have : i = ((i.toNat : Nat) : Int) := by omega
  rw [this, atI_nat]
  rfl
@[simp] theorem atD_zero {α : Type} (xs : List α) : atI xs (0 : Int) = xs[0]? := atI_nat xs 0
@[simp] theorem atD_one {α : Type} (xs : List α) : atI xs (1 : Int) = xs[1]? := atI_nat xs 1
@[simp] theorem atD_two {α : Type} (xs : List α) : atI xs (2 : Int) = xs[2]? := atI_nat xs 2
@[simp] theorem atD_three {α : Type} (xs : List α) : atI xs (3 : Int) = xs[3]? := atI_nat xs 3
@[simp] theorem atD_four {α : Type} (xs : List α) : atI xs (4 : Int) = xs[4]? := atI_nat xs 4
/-! ### likeness of data -/
inductive DF : Nat → D → Prop
  | non (n : Nat) : DF (n + 1) .non
  | bl (n : Nat) (b : Bool) : DF (n + 1) (.bl b)
  | int (n : Nat) (i : Int) : DF (n + 1) (.int i)
  | str (n : Nat) (x : Str) (h : PyData.canLay0 (.str x) = true) : DF (n + 1) (.str x)
  | tup {n : Nat} {ds : List D} (hl : ds.length ≤ 16777216) (h : ∀ d ∈ ds, DF n d) : DF (n + 1) (.tup ds)
  | lst {n : Nat} {ds : List D} (hl : ds.length ≤ 16777216) (h : ∀ d ∈ ds, DF n d) : DF (n + 1) (.lst ds)
theorem DF.more {n m : Nat} {d : D} (f : DF n d) (h : n ≤ m) : DF m d := by
  induction f generalizing m with
  | non n => obtain ⟨m, rfl⟩ : ∃ k, m = k + 1 := ⟨m - 1, by omega⟩; exact .non m
  | bl n b => obtain ⟨m, rfl⟩ : ∃ k, m = k + 1 := ⟨m - 1, by omega⟩; exact .bl m b
  | int n b => obtain ⟨m, rfl⟩ : ∃ k, m = k + 1 := ⟨m - 1, by omega⟩; exact .int m b
  | str n b hx => obtain ⟨m, rfl⟩ : ∃ k, m = k + 1 := ⟨m - 1, by omega⟩; exact .str m b hx
  | tup hl _ ih => obtain ⟨m, rfl⟩ : ∃ k, m = k + 1 := ⟨m - 1, by omega⟩; exact .tup hl fun d hd => ih d hd (by omega)
  | lst hl _ ih => obtain ⟨m, rfl⟩ : ∃ k, m = k + 1 := ⟨m - 1, by omega⟩; exact .lst hl fun d hd => ih d hd (by omega)
theorem DF.eD (n : Nat) (o : Ent) : DF (n + 1) (eD o) := by
  cases o with
  | none => exact .non n
  | some i => exact .int n i
theorem DF.row (n : Nat) {xs : Row} (h : xs.length ≤ 16777216) : DF (n + 2) (rowD xs) := .lst (by rw [List.length_map]; exact h) fun d hd => by
  obtain ⟨o, _, rfl⟩ := List.mem_map.mp hd
  exact .eD n o
/-! ### == of data -/
def py (d : D) : Option PyData := pyD 8 d
theorem eqv_eD (a b : Ent) (n m : Nat) : ∃ p q, pyD n (eD a) = some p ∧ pyD m (eD b) = some q ∧ PyData.eqv p q = decide (a = b) := by
  cases a with
  | none =>
    cases b with
    | none => exact ⟨.none, .none, by cases n <;> rfl, by cases m <;> rfl, by simp [PyData.eqv]⟩
    | some j => exact ⟨.none, .int j, by cases n <;> rfl, by cases m <;> rfl, by simp [PyData.eqv]⟩
  | some i =>
    cases b with
    | none => exact ⟨.int i, .none, by cases n <;> rfl, by cases m <;> rfl, by simp [PyData.eqv]⟩
    | some j =>
      refine ⟨.int i, .int j, by cases n <;> rfl, by cases m <;> rfl, ?_⟩
      by_cases h : i = j <;> simp [PyData.eqv, h]
def pyE : Ent → PyData
  | none => .none
  | some i => .int i
theorem pyD_eD (n : Nat) (o : Ent) : pyD n (eD o) = some (pyE o) := by cases o <;> cases n <;> rfl
theorem pyL_eD (n : Nat) : ∀ xs : Row, pyL (pyD n) (xs.map eD) = some (xs.map pyE)
  | [] => rfl
  | x :: xs => by
    simp only [List.map_cons, pyL, pyD_eD, pyL_eD n xs]
theorem eqv_pyE (a b : Ent) : PyData.eqv (pyE a) (pyE b) = decide (a = b) := by
  obtain ⟨p, q, h1, h2, h3⟩ := eqv_eD a b 0 0
  rw [pyD_eD] at h1 h2
  cases h1
  cases h2
  exact h3
theorem eqvAll_pyE : ∀ xs ys : Row, PyData.eqvAll (xs.map pyE) (ys.map pyE) = decide (xs = ys)
  | [], [] => by simp [PyData.eqvAll]
  | [], _ :: _ => by simp [PyData.eqvAll]
  | _ :: _, [] => by simp [PyData.eqvAll]
  | x :: xs, y :: ys => by
    simp only [List.map_cons, PyData.eqvAll, eqv_pyE, eqvAll_pyE xs ys]
    by_cases h1 : x = y <;> by_cases h2 : xs = ys <;> simp [h1, h2]
theorem lay_pyE : ∀ xs : Row, PyData.canLayAll0 (xs.map pyE) = true ∧ PyData.depthAll (xs.map pyE) = 0
  | [] => ⟨rfl, rfl⟩
  | x :: xs => by
    obtain ⟨a, b⟩ := lay_pyE xs
    cases x <;> simp [PyData.canLayAll0, PyData.depthAll, PyData.canLay0, PyData.depth, pyE, a, b]
@[simp] theorem eqT_row (xs ys : Row) : eqT (rowD xs) (rowD ys) = some (decide (xs = ys)) := by
  unfold eqT rowD
  simp only [pyD, pyL_eD, Option.map]
  have s : ∀ zs : Row, SeqAt.shaped (.list (zs.map pyE)) = true := fun zs => by
    obtain ⟨a, b⟩ := lay_pyE zs
    unfold SeqAt.shaped
    simp [PyData.canLay0, PyData.depth, a, b]
  rw [if_pos ⟨s xs, s ys⟩]
  simp only [PyData.eqv, eqvAll_pyE]
def pyR (xs : Row) : PyData := .list (xs.map pyE)
theorem pyL_row (n : Nat) : ∀ xss : Tab, pyL (pyD (n + 1)) (xss.map rowD) = some (xss.map pyR)
  | [] => rfl
  | x :: xss => by
    have : pyD (n + 1) (rowD x) = some (pyR x) := by simp only [rowD, pyD, pyL_eD, Option.map]; rfl
    simp only [List.map_cons, pyL, this, pyL_row n xss]
theorem eqv_pyR (a b : Row) : PyData.eqv (pyR a) (pyR b) = decide (a = b) := by
  unfold pyR
  simp only [PyData.eqv, eqvAll_pyE]
theorem eqvAll_pyR : ∀ xs ys : Tab, PyData.eqvAll (xs.map pyR) (ys.map pyR) = decide (xs = ys)
  | [], [] => by simp [PyData.eqvAll]
  | [], _ :: _ => by simp [PyData.eqvAll]
  | _ :: _, [] => by simp [PyData.eqvAll]
  | x :: xs, y :: ys => by
    simp only [List.map_cons, PyData.eqvAll, eqv_pyR, eqvAll_pyR xs ys]
    by_cases h1 : x = y <;> by_cases h2 : xs = ys <;> simp [h1, h2]
theorem lay_pyR : ∀ xs : Tab, PyData.canLayAll0 (xs.map pyR) = true ∧ PyData.depthAll (xs.map pyR) ≤ 1
  | [] => ⟨rfl, Nat.zero_le _⟩
  | x :: xs => by
    obtain ⟨a, b⟩ := lay_pyR xs
    obtain ⟨c, d⟩ := lay_pyE x
    simp [PyData.canLayAll0, PyData.depthAll, PyData.canLay0, PyData.depth, pyR, a, c, d]
    omega
@[simp] theorem eqT_tab (xs ys : Tab) : eqT (tabD xs) (tabD ys) = some (decide (xs = ys)) := by
  unfold eqT tabD
  simp only [pyD, pyL_row, Option.map]
  have s : ∀ zs : Tab, SeqAt.shaped (.list (zs.map pyR)) = true := fun zs => by
    obtain ⟨a, b⟩ := lay_pyR zs
    unfold SeqAt.shaped
    simp [PyData.canLay0, PyData.depth, a]
    omega
  rw [if_pos ⟨s xs, s ys⟩]
  simp only [PyData.eqv, eqvAll_pyR]
/-! ### lists that are drawn -/
theorem lc_draws {β : Type} {gd : D → Dn → Option Dn} {e : Di D} {η : Dn} {f : β → D} {R : β → Prop} {c b : Int} (hc : 0 ≤ c) {ds : List D} {g : G} {Q : List D × G → Prop} (w : Dw b g) (hb : ds.length * c ≤ b)
    (step : ∀ x ∈ ds, ∀ b' g', Dw b' g' → c ≤ b' → OQ (gd x η) fun η1 => PW (e η1 g') (fun d g2 => ∃ o, d = f o ∧ R o ∧ Dw (b' - c) g2) eF)
    (q : ∀ (os : List β) g', os.length = ds.length → (∀ o ∈ os, R o) → Dw (b - ds.length * c) g' → Q (os.map f, g')) : OQ (lcD gd dYes e η ds g) Q := by
  refine lc_pw (fun i vs g' => ∃ os : List β, i ≤ ds.length ∧ vs = os.map f ∧ os.length = i ∧ (∀ o ∈ os, R o) ∧ Dw (b - i * c) g') ⟨[], Nat.zero_le _, rfl, rfl, fun o h => absurd h List.not_mem_nil, by simpa using w⟩ ?_ ?_
  · rintro i x vs g' ex ⟨os, hi, rfl, hl, hR, w'⟩
    have hlt : i < ds.length := (List.getElem?_eq_some_iff.mp ex).1
    have hle : ((i : Int) + 1) * c ≤ ds.length * c := Int.mul_le_mul_of_nonneg_right (by omega) hc
    have e1 : ((i : Int) + 1) * c = i * c + c := by rw [Int.add_mul]; omega
    refine (step x (List.mem_of_getElem? ex) _ g' w' (by omega)).mono fun η1 h => ?_
    simp only [dYes, PW_ok, if_true]
    refine h.mono (fun d g2 ⟨o, e2, r, w2⟩ => ⟨os ++ [o], hlt, by rw [e2, List.map_append]; rfl, by simp [hl], fun o' h' => ?_, w2.less (by push_cast; omega)⟩) fun _ _ z => z
    rcases List.mem_append.mp h' with h' | h'
    · exact hR o' h'
    · rw [List.mem_singleton.mp h']; exact r
  · rintro vs g' ⟨os, _, rfl, hl, hR, w'⟩
    exact q os g' hl hR w'
theorem PW.get {α : Type} {r : Rd α} {Q : Qd α} (w : PW r Q eF) : ∃ a g, r = .ok a g ∧ Q a g := by
  cases r with
  | ok a g => exact ⟨a, g, rfl, w⟩
  | ex a g => exact w.elim
  | no => exact w.elim
/-- of a contract that fails never -/
theorem PW.use {α : Type} {r : Rd α} {Q Q' : Qd α} {E : Ed} (w : PW r Q eF) (q : ∀ a g, Q a g → Q' a g) : PW r Q' E := w.mono q fun _ _ z => z.elim
theorem map_set_eD (xs : Row) (i : Nat) (o : Ent) : (xs.map eD).set i (eD o) = (xs.set i o).map eD := List.map_set.symm
theorem lit10 : (10 : Int) ^ 30 = 1000000000000000000000000000000 := by decide +kernel
theorem small_lit {i : Int} (h1 : -10 ^ 500 < i) (h2 : i < 10 ^ 500) : small i := small_big h1 h2
/-- an entry's data -/
def En' (d : D) : Prop := ∃ o : Ent, d = eD o
theorem En'.non : En' .non := ⟨none, rfl⟩
theorem En'.int (i : Int) : En' (.int i) := ⟨some i, rfl⟩
theorem En'.eD (o : Ent) : En' (eD o) := ⟨o, rfl⟩
theorem pick (xs : List Int) {d : Int} (h0 : 0 ≤ d) (h1 : d < xs.length) : ∃ m ∈ xs, atI (xs.map D.int) d = some (.int m) := by
  have hl : d.toNat < xs.length := by omega
  refine ⟨xs[d.toNat], List.getElem_mem hl, ?_⟩
  rw [atI_map, atI_pos xs h0, List.getElem?_eq_getElem hl]
  rfl
theorem pickD {α : Type} (xs : List α) {d : Int} (h0 : 0 ≤ d) (h1 : d < xs.length) : ∃ m ∈ xs, atI xs d = some m := by
  have hl : d.toNat < xs.length := by omega
  exact ⟨xs[d.toNat], List.getElem_mem hl, by rw [atI_pos xs h0, List.getElem?_eq_getElem hl]⟩
theorem ixN_ok {n : Nat} {i : Int} (h0 : 0 ≤ i) (h1 : i < n) : ixN n i = some i.toNat := by
  unfold ixN
  rw [if_pos h0, if_pos h1]
/-! ### a law's other beginning -/
def kBegin7B : Ms :=
    (mSeq (mIfS (m1 asB (m2 eqV (mVar 1) (m1 dLst mNil)))
    (mAsg (m1 dLst (mCons (mC (.int 7)) mNil)) (gNm 1))
    mSkip)
    (mRet (mDict [((mC (.str "cells")), (mVar 1)), ((mC (.str "turn")), (mC (.int 0)))])))
theorem kBegin7_ok : BeginOk kBegin7B := by
  intro cs0
  have w : SW (kBegin7B [none, some (.ref 0)] [.lst (cs0.map PV.int)]) { rt := fun v h' => ∃ n c cs, v = .ref n ∧ h'[n]? = some (stDic c 0) ∧ h'[c]? = some (.lst (cs.map PV.int)) ∧ cs ≠ [] ∧ (cs0.length ≤ 63 → cs.length ≤ 63) } := by
    by_cases hc : cs0 = []
    · have e := kBegin_eq []
      rw [List.map_nil] at e
      simp [kBegin7B, dLst, e, hc, dDic, stDic, putP, ks_ct, ks_tc]
      exact ⟨[7], rfl, by simp, by simp⟩
    · simp [kBegin7B, dLst, kBegin_eq, hc, dDic, stDic, putP, ks_ct, ks_tc]
      exact ⟨cs0, rfl, hc, id⟩
  cases e : kBegin7B [none, some (.ref 0)] [.lst (cs0.map PV.int)] with
  | rt v h' =>
    rw [e] at w
    obtain ⟨n, c, cs, rfl, w⟩ := w
    exact ⟨n, h', c, cs, rfl, w⟩
  | nx ρ h => rw [e] at w; exact w.elim
  | bk ρ h => rw [e] at w; exact w.elim
  | ct ρ h => rw [e] at w; exact w.elim
  | ex c ρ h => rw [e] at w; exact w.elim
  | no => rw [e] at w; exact w.elim
theorem blsD_map (bs : List Bool) : blsD (bs.map D.bl) = some bs := by
  induction bs with
  | nil => rfl
  | cons b bs ih => simp [blsD, ih]
/-! the same, as what holds at the end -/
theorem OQ_all {β : Type} {gd : D → Dn → Option Dn} {e : Di D} {η : Dn} {g : G} {Q : List D × G → Prop} {u : β → D} {xs : List β} (F : β → D) (h : ∀ a ∈ xs, OQ (gd (u a) η) fun η1 => e η1 g = .ok (F a) g) (q : Q (xs.map F, g)) : OQ (lcD gd dYes e η (xs.map u) g) Q := by
  rw [lc_all F fun a ha => (h a ha).get]
  exact q
theorem OQ_of {β : Type} {gd : D → Dn → Option Dn} {t : Di Bool} {e : Di D} {η : Dn} {g : G} {Q : List D × G → Prop} {u : β → D} {xs : List β} (c : β → Bool) (F : β → D) (h : ∀ a ∈ xs, OQ (gd (u a) η) fun η1 => t η1 g = .ok (c a) g ∧ (c a = true → e η1 g = .ok (F a) g)) (q : Q ((xs.filter c).map F, g)) : OQ (lcD gd t e η (xs.map u) g) Q := by
  rw [lc_of c F fun a ha => (h a ha).get]
  exact q
theorem OQ_rws {gd : D → Dn → Option Dn} {e : Di D} {η : Dn} {g : G} {Q : List D × G → Prop} {ds : List D} {xss : Tab} (F : Row → D) (r : Rws ds xss) (h : ∀ d xs, Rw d xs → xs ∈ xss → OQ (gd d η) fun η1 => e η1 g = .ok (F xs) g) (q : Q (xss.map F, g)) : OQ (lcD gd dYes e η ds g) Q := by
  rw [lc_rws F r fun d xs r m => (h d xs r m).get]
  exact q
/-- data of numbers and nothing alone -/
theorem eqT_strS {x : Str} (h : PyData.canLay0 (.str x) = true) : eqT (.str x) (.str x) = some true := by
  simp [eqT, pyD, SeqAt.shaped, h, PyData.depth, PyData.eqv]
inductive DN : Nat → D → Prop
  | non (n : Nat) : DN (n + 1) .non
  | int (n : Nat) (i : Int) : DN (n + 1) (.int i)
  | str (n : Nat) (x : Str) (h : PyData.canLay0 (.str x) = true) : DN (n + 1) (.str x)
  | tup {n : Nat} {ds : List D} (hl : ds.length ≤ 16777216) (h : ∀ d ∈ ds, DN n d) : DN (n + 1) (.tup ds)
  | lst {n : Nat} {ds : List D} (hl : ds.length ≤ 16777216) (h : ∀ d ∈ ds, DN n d) : DN (n + 1) (.lst ds)
theorem DN.eD (n : Nat) (o : Ent) : DN (n + 1) (eD o) := by
  cases o with
  | none => exact .non n
  | some i => exact .int n i
theorem DN.row (n : Nat) {xs : Row} (h : xs.length ≤ 1000000) : DN (n + 2) (rowD xs) := .lst (by rw [List.length_map]; omega) fun d hd => by
  obtain ⟨o, _, rfl⟩ := List.mem_map.mp hd
  exact .eD n o
theorem DN.tab (n : Nat) {xss : Tab} (h : xss.length ≤ 1000000) (hr : ∀ r ∈ xss, r.length ≤ 1000000) : DN (n + 3) (tabD xss) := .lst (by rw [List.length_map]; omega) fun d hd => by
  obtain ⟨r, hr', rfl⟩ := List.mem_map.mp hd
  exact .row n (hr r hr')
@[simp] theorem blsD_mapF {α : Type} (f : α → Bool) (xs : List α) : blsD (xs.map fun a => D.bl (f a)) = some (xs.map f) := by
  rw [← blsD_map (xs.map f), List.map_map]
  rfl
theorem rngL_map (n : Nat) : rngL 0 n = (List.range n).map fun (k : Nat) => D.int (k : Int) := by
  unfold rngL
  congr 1
  funext k
  simp
theorem zip_map2 {α β : Type} (f : α → D) (h : β → D) (xs : List α) (ys : List β) : List.zipWith (fun a b => D.tup [f a, h b]) xs ys = (List.zip xs ys).map fun p => .tup [f p.1, h p.2] := by
  rw [List.zip, List.map_zipWith]
end Lt
namespace Lt
open PySem L2
/-! ### columns, least adds -/
def entAt (r : Row) (j : Nat) : Ent := (r[j]?).getD none
theorem entAt_eq {r : Row} {j : Nat} {o : Ent} (h : r[j]? = some o) : entAt r j = o := by unfold entAt; rw [h]; rfl
theorem entAt_get {r : Row} {j : Nat} (h : j < r.length) : r[j]? = some (entAt r j) := by
  unfold entAt
  rw [List.getElem?_eq_getElem h]
  rfl
def colO (xss : Tab) (j : Nat) : Row := xss.map (entAt · j)
def colsO (xss : Tab) (n : Nat) : Tab := (List.range n).map (colO xss)
def appO (xss : Tab) (x : Row) : Row := xss.map (lsum · x)
def wideO (n : Nat) (xss : Tab) : Prop := ∀ r ∈ xss, r.length = n
/-- the least number by which a row is raised above another one -/
def afF : Ent → Row → Row → Ent
  | acc, none :: xs, _ :: ys => afF acc xs ys
  | acc, some a :: xs, none :: ys => none
  | none, some a :: xs, some b :: ys => afF (some (b - a)) xs ys
  | some c, some a :: xs, some b :: ys => afF (some (max (b - a) c)) xs ys
  | acc, _, _ => acc
def afO (xs ys : Row) : Ent := afF none xs ys
theorem afF_n (acc : Ent) (y : Ent) (xs ys : Row) : afF acc (none :: xs) (y :: ys) = afF acc xs ys := by conv => lhs; unfold afF
theorem afF_sn (acc : Ent) (a : Int) (xs ys : Row) : afF acc (some a :: xs) (none :: ys) = none := by cases acc <;> (conv => lhs; unfold afF)
theorem afF_ns (a b : Int) (xs ys : Row) : afF none (some a :: xs) (some b :: ys) = afF (some (b - a)) xs ys := by conv => lhs; unfold afF
theorem afF_ss (c a b : Int) (xs ys : Row) : afF (some c) (some a :: xs) (some b :: ys) = afF (some (max (b - a) c)) xs ys := by conv => lhs; unfold afF
theorem afF_drop {acc : Ent} {xs ys : Row} {i : Nat} {x y : Ent} (h1 : xs[i]? = some x) (h2 : ys[i]? = some y) : afF acc (xs.drop i) (ys.drop i) = afF acc (x :: xs.drop (i + 1)) (y :: ys.drop (i + 1)) := by
  obtain ⟨l1, e1⟩ := List.getElem?_eq_some_iff.mp h1
  obtain ⟨l2, e2⟩ := List.getElem?_eq_some_iff.mp h2
  rw [List.drop_eq_getElem_cons l1, List.drop_eq_getElem_cons l2, e1, e2]
theorem afF_end (acc : Ent) (xs ys : Row) {i : Nat} (h : xs.length ≤ i ∨ ys.length ≤ i) : afF acc (xs.drop i) (ys.drop i) = acc := by
  rcases h with h | h
  · rw [List.drop_eq_nil_of_le h]
    unfold afF
    rfl
  · rw [List.drop_eq_nil_of_le h]
    generalize xs.drop i = zs
    match acc, zs with
    | _, [] => unfold afF; rfl
    | _, none :: _ => unfold afF; rfl
    | none, some _ :: _ => unfold afF; rfl
    | some _, some _ :: _ => unfold afF; rfl
/-- what is told by it: each place is below, and it is come to at one -/
theorem afF_le : ∀ {acc : Ent} {xs ys : Row} {z : Int}, (∀ c, acc = some c → c ≤ z) → (∀ (i : Nat) (x y : Ent), xs[i]? = some x → ys[i]? = some y → leO y (addO x (some z)) = true) → afF acc xs ys = none ∨ ∃ m, afF acc xs ys = some m ∧ m ≤ z
  | acc, [], ys, z, h, k => by
    cases acc with
    | none => exact .inl (by unfold afF; rfl)
    | some c => exact .inr ⟨c, by unfold afF; rfl, h c rfl⟩
  | acc, x :: xs, [], z, h, k => by
    cases acc with
    | none => exact .inl (by cases x <;> (unfold afF; rfl))
    | some c => exact .inr ⟨c, by cases x <;> (unfold afF; rfl), h c rfl⟩
  | acc, none :: xs, y :: ys, z, h, k => by
    unfold afF
    exact afF_le h fun i x y a b => k (i + 1) x y (by simpa using a) (by simpa using b)
  | acc, some a :: xs, none :: ys, z, h, k => by
    have := k 0 (some a) none rfl rfl
    simp at this
  | none, some a :: xs, some b :: ys, z, h, k => by
    unfold afF
    have := k 0 (some a) (some b) rfl rfl
    simp at this
    exact afF_le (fun c e => by cases e; omega) fun i x y a b => k (i + 1) x y (by simpa using a) (by simpa using b)
  | some c, some a :: xs, some b :: ys, z, h, k => by
    unfold afF
    have := k 0 (some a) (some b) rfl rfl
    have := h c rfl
    simp at *
    exact afF_le (fun c' e => by cases e; omega) fun i x y a b => k (i + 1) x y (by simpa using a) (by simpa using b)
theorem afF_some : ∀ {c : Int} {xs ys : Row} {z : Int}, (∀ (i : Nat) (x y : Ent), xs[i]? = some x → ys[i]? = some y → leO y (addO x (some z)) = true) → ∃ m, afF (some c) xs ys = some m
  | c, [], ys, z, k => ⟨c, by unfold afF; rfl⟩
  | c, x :: xs, [], z, k => ⟨c, by cases x <;> (unfold afF; rfl)⟩
  | c, none :: xs, y :: ys, z, k => by
    unfold afF
    exact afF_some fun i x y a b => k (i + 1) x y (by simpa using a) (by simpa using b)
  | c, some a :: xs, none :: ys, z, k => by
    have := k 0 (some a) none rfl rfl
    simp at this
  | c, some a :: xs, some b :: ys, z, k => by
    unfold afF
    exact afF_some fun i x y a b => k (i + 1) x y (by simpa using a) (by simpa using b)
theorem afF_num : ∀ {xs ys : Row} {z : Int}, xs.length ≤ ys.length → (∀ (i : Nat) (x y : Ent), xs[i]? = some x → ys[i]? = some y → leO y (addO x (some z)) = true) → (∃ (i : Nat) (a : Int), xs[i]? = some (some a)) → ∃ m, afF none xs ys = some m
  | [], ys, z, hl, k, ⟨i, a, e⟩ => by simp at e
  | x :: xs, [], z, hl, k, _ => by simp at hl
  | none :: xs, y :: ys, z, hl, k, ⟨i, a, e⟩ => by
    unfold afF
    cases i with
    | zero => simp at e
    | succ i => exact afF_num (by simpa using hl) (fun i x y a b => k (i + 1) x y (by simpa using a) (by simpa using b)) ⟨i, a, by simpa using e⟩
  | some a :: xs, none :: ys, z, hl, k, _ => by
    have := k 0 (some a) none rfl rfl
    simp at this
  | some a :: xs, some b :: ys, z, hl, k, _ => by
    unfold afF
    exact afF_some fun i x y a b => k (i + 1) x y (by simpa using a) (by simpa using b)
/-- no less add does -/
theorem af_least {xs ys : Row} {z : Ent} (hl : xs.length ≤ ys.length) (hn : ∃ (i : Nat) (a : Int), xs[i]? = some (some a)) (k : ∀ (i : Nat) (x y : Ent), xs[i]? = some x → ys[i]? = some y → leO y (addO x z) = true) : leO (afO xs ys) z = true := by
  cases z with
  | none => simp
  | some z =>
    obtain ⟨m, e⟩ := afF_num hl k hn
    rcases afF_le (acc := none) (by simp) k with h | ⟨m', h1, h2⟩
    · rw [e] at h; cases h
    · unfold afO
      rw [h1]
      simpa using h2
theorem afF_max : ∀ {acc : Ent} {xs ys : Row} {m : Int}, afF acc xs ys = some m → (∀ c, acc = some c → c ≤ m) ∧ ∀ (i : Nat) (x y : Ent), xs[i]? = some x → ys[i]? = some y → leO y (addO x (some m)) = true
  | acc, [], ys, m, h => by
    unfold afF at h
    subst h
    exact ⟨fun c e => by cases e; omega, fun i x y a b => by simp at a⟩
  | acc, x :: xs, [], m, h => by
    have : acc = some m := by
      rw [← h]
      match acc, x with
      | none, none => unfold afF; rfl
      | none, some _ => unfold afF; rfl
      | some _, none => unfold afF; rfl
      | some _, some _ => unfold afF; rfl
    subst this
    exact ⟨fun c e => by cases e; omega, fun i x y a b => by simp at b⟩
  | acc, none :: xs, y :: ys, m, h => by
    unfold afF at h
    obtain ⟨h1, h2⟩ := afF_max h
    refine ⟨h1, fun i x y a b => ?_⟩
    cases i with
    | zero => simp at a; subst a; simp
    | succ i => exact h2 i x y (by simpa using a) (by simpa using b)
  | acc, some a :: xs, none :: ys, m, h => by
    cases acc <;> (unfold afF at h; cases h)
  | none, some a :: xs, some b :: ys, m, h => by
    unfold afF at h
    obtain ⟨h1, h2⟩ := afF_max h
    have := h1 _ rfl
    refine ⟨by simp, fun i x y a b => ?_⟩
    cases i with
    | zero => simp at a b; subst a b; simp; omega
    | succ i => exact h2 i x y (by simpa using a) (by simpa using b)
  | some c, some a :: xs, some b :: ys, m, h => by
    unfold afF at h
    obtain ⟨h1, h2⟩ := afF_max h
    have := h1 _ rfl
    refine ⟨fun c' e => by cases e; omega, fun i x y a b => ?_⟩
    cases i with
    | zero => simp at a b; subst a b; simp; omega
    | succ i => exact h2 i x y (by simpa using a) (by simpa using b)
/-- raised by it a row is above -/
theorem af_above (xs ys : Row) : ∀ (i : Nat) (x y : Ent), xs[i]? = some x → ys[i]? = some y → leO y (addO x (afO xs ys)) = true := by
  intro i x y a b
  cases h : afO xs ys with
  | none => simp
  | some m => exact (afF_max h).2 i x y a b
theorem afF_met : ∀ {acc : Ent} {xs ys : Row} {m : Int}, afF acc xs ys = some m → acc = some m ∨ ∃ (i : Nat) (a b : Int), xs[i]? = some (some a) ∧ ys[i]? = some (some b) ∧ b = a + m
  | acc, [], ys, m, h => by
    unfold afF at h
    exact .inl h
  | acc, x :: xs, [], m, h => by
    refine .inl ?_
    rw [← h]
    match acc, x with
    | none, none => unfold afF; rfl
    | none, some _ => unfold afF; rfl
    | some _, none => unfold afF; rfl
    | some _, some _ => unfold afF; rfl
  | acc, none :: xs, y :: ys, m, h => by
    unfold afF at h
    exact (afF_met h).imp id fun ⟨i, a, b, h1, h2, h3⟩ => ⟨i + 1, a, b, by simpa using h1, by simpa using h2, h3⟩
  | acc, some a :: xs, none :: ys, m, h => by
    cases acc <;> (unfold afF at h; cases h)
  | none, some a :: xs, some b :: ys, m, h => by
    unfold afF at h
    rcases afF_met h with e | ⟨i, a, b, h1, h2, h3⟩
    · refine .inr ⟨0, a, b, rfl, rfl, ?_⟩
      simp at e
      omega
    · exact .inr ⟨i + 1, a, b, by simpa using h1, by simpa using h2, h3⟩
  | some c, some a :: xs, some b :: ys, m, h => by
    unfold afF at h
    rcases afF_met h with e | ⟨i, a', b', h1, h2, h3⟩
    · simp at e
      by_cases hc : c = m
      · exact .inl (by rw [hc])
      · exact .inr ⟨0, a, b, rfl, rfl, by omega⟩
    · exact .inr ⟨i + 1, a', b', by simpa using h1, by simpa using h2, h3⟩
/-- a number that is told is come to somewhere -/
theorem af_met {xs ys : Row} {m : Int} (h : afO xs ys = some m) : ∃ (i : Nat) (a b : Int), xs[i]? = some (some a) ∧ ys[i]? = some (some b) ∧ b = a + m := (afF_met h).resolve_left (by simp)
theorem af_empty {xs ys : Row} (h : ∀ x ∈ xs, x = none) : afO xs ys = none := by
  cases e : afO xs ys with
  | none => rfl
  | some m =>
    obtain ⟨i, a, b, h1, _⟩ := af_met e
    cases h _ (List.mem_of_getElem? h1)
/-! least sums against entries -/
theorem lsum_le : ∀ {xs ys : Row} {i : Nat} {x y : Ent}, xs[i]? = some x → ys[i]? = some y → leO (lsum xs ys) (addO x y) = true
  | [], _, _, _, _, h1, _ => by simp at h1
  | _ :: _, [], _, _, _, _, h2 => by simp at h2
  | a :: xs, b :: ys, i, x, y, h1, h2 => by
    show leO (lesO (addO a b) (lsum xs ys)) _ = true
    cases i with
    | zero => simp at h1 h2; subst h1 h2; exact les_le_left _ _
    | succ i => exact leO_trans (les_le_right _ _) (lsum_le (by simpa using h1) (by simpa using h2))
theorem le_lsum : ∀ {xs ys : Row} {z : Ent}, (∀ (i : Nat) (x y : Ent), xs[i]? = some x → ys[i]? = some y → leO z (addO x y) = true) → leO z (lsum xs ys) = true
  | [], _, _, _ => by unfold lsum; simp
  | _ :: _, [], _, _ => by unfold lsum; simp
  | a :: xs, b :: ys, z, h => by
    show leO z (lesO (addO a b) (lsum xs ys)) = true
    exact leO_les.mpr ⟨h 0 a b rfl rfl, le_lsum fun i x y h1 h2 => h (i + 1) x y (by simpa using h1) (by simpa using h2)⟩
theorem below_iff : ∀ {xs ys : Row}, belowO xs ys = true ↔ ∀ (i : Nat) (x y : Ent), xs[i]? = some x → ys[i]? = some y → leO x y = true
  | [], ys => by simp [belowO]
  | x :: xs, [] => by simp [belowO]
  | x :: xs, y :: ys => by
    have ih := below_iff (xs := xs) (ys := ys)
    have e : belowO (x :: xs) (y :: ys) = (leO x y && belowO xs ys) := rfl
    rw [e, Bool.and_eq_true, ih]
    constructor
    · rintro ⟨h1, h2⟩ i a b ha hb
      cases i with
      | zero => simp at ha hb; subst ha hb; exact h1
      | succ i => exact h2 i a b (by simpa using ha) (by simpa using hb)
    · intro h
      exact ⟨h 0 x y rfl rfl, fun i a b ha hb => h (i + 1) a b (by simpa using ha) (by simpa using hb)⟩
/-! ### back -/
def backO (xss : Tab) (n : Nat) (ys : Row) : Row := (colsO xss n).map (afO · ys)
theorem backO_get {xss : Tab} {n j : Nat} {ys : Row} (h : j < n) : (backO xss n ys)[j]? = some (afO (colO xss j) ys) := by
  unfold backO colsO
  simp [h]
theorem colO_get {xss : Tab} {i j : Nat} {x : Ent} (h : (colO xss j)[i]? = some x) : ∃ r, xss[i]? = some r ∧ x = entAt r j := by
  unfold colO at h
  rw [List.getElem?_map, Option.map_eq_some_iff] at h
  obtain ⟨r, h1, h2⟩ := h
  exact ⟨r, h1, h2.symm⟩
theorem appO_get {xss : Tab} {i : Nat} {x : Row} {r : Row} (h : xss[i]? = some r) : (appO xss x)[i]? = some (lsum r x) := by
  unfold appO
  rw [List.getElem?_map, h]
  rfl
/-- each row whose product is above has no less entries than back tells, at columns that aren't nothing throughout -/
theorem back_least {xss : Tab} {n : Nat} {ys zs : Row} (hw : wideO n xss) (hy : xss.length = ys.length) (hz : zs.length = n) (h : belowO ys (appO xss zs) = true) {j : Nat} (hj : j < n) (hn : ∃ r ∈ xss, entAt r j ≠ none) {x z : Ent} (h1 : (backO xss n ys)[j]? = some x) (h2 : zs[j]? = some z) : leO x z = true := by
  rw [backO_get hj] at h1
  cases h1
  refine af_least (by simp [colO, hy]) ?_ fun i x y a b => ?_
  · obtain ⟨r, hr, hr2⟩ := hn
    obtain ⟨i, hi⟩ := List.getElem?_of_mem hr
    cases e : entAt r j with
    | none => exact absurd e hr2
    | some v => exact ⟨i, v, by unfold colO; rw [List.getElem?_map, hi, Option.map_some, e]⟩
  · obtain ⟨r, hr, rfl⟩ := colO_get a
    have hj' : j < r.length := by rw [hw r (List.mem_of_getElem? hr)]; exact hj
    exact leO_trans (below_iff.mp h i y _ b (appO_get hr)) (lsum_le (entAt_get hj') h2)
theorem back_above {xss : Tab} {n : Nat} {ys : Row} (hw : wideO n xss) : belowO ys (appO xss (backO xss n ys)) = true := by
  refine below_iff.mpr fun i y s a b => ?_
  unfold appO at b
  rw [List.getElem?_map, Option.map_eq_some_iff] at b
  obtain ⟨r, hr, rfl⟩ := b
  refine le_lsum fun j x z h1 h2 => ?_
  have hj : j < n := by
    have := (List.getElem?_eq_some_iff.mp h1).1
    rw [hw r (List.mem_of_getElem? hr)] at this
    exact this
  rw [backO_get hj] at h2
  cases h2
  refine af_above (colO xss j) ys i x y ?_ a
  unfold colO
  rw [List.getElem?_map, hr, Option.map_some, entAt_eq h1]
theorem below_trans {xs ys zs : Row} (hl : xs.length ≤ ys.length) (h1 : belowO xs ys = true) (h2 : belowO ys zs = true) : belowO xs zs = true := by
  refine below_iff.mpr fun i x z a b => ?_
  have hi : i < ys.length := by
    have := (List.getElem?_eq_some_iff.mp a).1
    omega
  exact leO_trans (below_iff.mp h1 i x _ a (List.getElem?_eq_getElem hi)) (below_iff.mp h2 i _ z (List.getElem?_eq_getElem hi) b)
/-- back of the product of what back tells is the same again -/
theorem back_again {xss : Tab} {n : Nat} {ys : Row} (hw : wideO n xss) (hy : xss.length = ys.length) : backO xss n (appO xss (backO xss n ys)) = backO xss n ys := by
  have hlen : ∀ zs, (backO xss n zs).length = n := fun zs => by simp [backO, colsO]
  apply List.ext_getElem?
  intro j
  by_cases hj : j < n
  · rw [backO_get hj, backO_get hj]
    by_cases hn : ∃ r ∈ xss, entAt r j ≠ none
    · congr 1
      have hal : xss.length = (appO xss (backO xss n ys)).length := by simp [appO]
      apply leO_antisymm
      · exact back_least hw hal (hlen _) (below_iff.mpr fun i x y a b => by rw [a] at b; cases b; exact leO_refl _) hj hn (backO_get hj) (backO_get hj)
      · refine back_least hw hy (hlen _) (below_trans (by rw [← hy, ← hal]; exact Nat.le_refl _) (back_above hw) (back_above (ys := appO xss (backO xss n ys)) hw)) hj hn (backO_get hj) (backO_get hj)
    · have he : ∀ x ∈ colO xss j, x = none := fun x hx => by
        obtain ⟨r, hr, rfl⟩ := List.mem_map.mp hx
        by_cases h : entAt r j = none
        · exact h
        · exact absurd ⟨r, hr, h⟩ hn
      rw [af_empty he, af_empty he]
  · rw [List.getElem?_eq_none (by rw [hlen]; omega), List.getElem?_eq_none (by rw [hlen]; omega)]
end Lt
namespace Lt
open PySem L2
/-! ### bounds -/
def OB (B : Int) (o : Ent) : Prop := ∀ i, o = some i → -B ≤ i ∧ i ≤ B
theorem OB.none {B : Int} : OB B none := fun i e => by cases e
theorem OB.some {B i : Int} (h1 : -B ≤ i) (h2 : i ≤ B) : OB B (some i) := fun j e => by cases e; exact ⟨h1, h2⟩
theorem OB.more {B B' : Int} {o : Ent} (h : OB B o) (hb : B ≤ B') : OB B' o := fun i e => by have := h i e; omega
def RwB (B : Int) (xs : Row) : Prop := ∀ o ∈ xs, OB B o
theorem RwB.more {B B' : Int} {xs : Row} (h : RwB B xs) (hb : B ≤ B') : RwB B' xs := fun o m => (h o m).more hb
theorem RwB.nones {B : Int} (n : Nat) : RwB B (List.replicate n none) := fun o m => by rw [List.eq_of_mem_replicate m]; exact .none
theorem RwB.raise {B c i : Int} {xs : Row} (h : RwB B xs) (h1 : -c ≤ i) (h2 : i ≤ c) : RwB (B + c) (raiseO xs (some i)) := fun o m => by
  obtain ⟨x, hx, rfl⟩ := List.mem_map.mp m
  cases x with
  | none => exact .none
  | some j =>
    have := h _ hx j rfl
    exact .some (by omega) (by omega)
theorem RwB.both {B : Int} : ∀ {xs ys : Row}, RwB B xs → RwB B ys → RwB B (bothO xs ys)
  | [], _, _, _ => fun o m => by simp [bothO] at m
  | _ :: _, [], _, _ => fun o m => by simp [bothO] at m
  | x :: xs, y :: ys, h1, h2 => fun o m => by
    have m : o ∈ lesO x y :: bothO xs ys := m
    rcases List.mem_cons.mp m with rfl | m
    · have a := h1 x (.head _)
      have b := h2 y (.head _)
      cases x with
      | none => exact b
      | some i =>
        cases y with
        | none => exact a
        | some j =>
          rw [lesO_some]
          have := a i rfl
          have := b j rfl
          exact .some (by omega) (by omega)
    · exact RwB.both (fun o m => h1 o (.tail _ m)) (fun o m => h2 o (.tail _ m)) o m
/-! ### made -/
def madeF : Row → Tab → Row → Row
  | acc, x :: xss, e :: es => madeF (bothO acc (raiseO x e)) xss es
  | acc, _, _ => acc
def madeO (n : Nat) (xss : Tab) (es : Row) : Row := madeF (List.replicate n none) xss es
theorem both_len {xs ys : Row} (h : xs.length = ys.length) : (bothO xs ys).length = xs.length := by simp [bothO, h]
theorem raise_len (xs : Row) (e : Ent) : (raiseO xs e).length = xs.length := by simp [raiseO]
theorem madeF_len {n : Nat} : ∀ {xss : Tab} {acc es : Row}, acc.length = n → wideO n xss → (madeF acc xss es).length = n
  | [], acc, es, h, _ => by unfold madeF; exact h
  | _ :: _, acc, [], h, _ => by unfold madeF; exact h
  | x :: xss, acc, e :: es, h, hw => by
    unfold madeF
    exact madeF_len (by rw [both_len (by rw [raise_len, hw x (.head _), h]), h]) fun r m => hw r (.tail _ m)
theorem madeO_len {n : Nat} {xss : Tab} {es : Row} (hw : wideO n xss) : (madeO n xss es).length = n := madeF_len (by simp) hw
theorem madeF_drop {acc : Row} {xss : Tab} {es : Row} {i : Nat} {x : Row} {e : Ent} (h1 : xss[i]? = some x) (h2 : es[i]? = some e) : madeF acc (xss.drop i) (es.drop i) = madeF (bothO acc (raiseO x e)) (xss.drop (i + 1)) (es.drop (i + 1)) := by
  obtain ⟨l1, e1⟩ := List.getElem?_eq_some_iff.mp h1
  obtain ⟨l2, e2⟩ := List.getElem?_eq_some_iff.mp h2
  rw [List.drop_eq_getElem_cons l1, List.drop_eq_getElem_cons l2, e1, e2]
  conv => lhs; unfold madeF
theorem madeF_end (acc : Row) (xss : Tab) (es : Row) {i : Nat} (h : xss.length ≤ i ∨ es.length ≤ i) : madeF acc (xss.drop i) (es.drop i) = acc := by
  rcases h with h | h
  · rw [List.drop_eq_nil_of_le h]; unfold madeF; rfl
  · rw [List.drop_eq_nil_of_le h]
    generalize xss.drop i = zs
    cases zs <;> (unfold madeF; rfl)
theorem raise_both (x y : Row) (e : Ent) : raiseO (bothO x y) e = bothO (raiseO x e) (raiseO y e) := by
  unfold raiseO bothO
  rw [List.map_zipWith, List.zipWith_map]
  congr 1
  funext a b
  exact les_addO e a b
theorem raise_raise (x : Row) (a b : Ent) : raiseO (raiseO x a) b = raiseO x (addO a b) := by
  unfold raiseO
  rw [List.map_map]
  congr 1
  funext y
  exact addO_assoc y a b
theorem raise_nones (n : Nat) (e : Ent) : raiseO (List.replicate n none) e = List.replicate n none := by
  unfold raiseO
  rw [List.map_replicate, addO_none_left]
theorem madeF_raise (e : Ent) : ∀ (acc : Row) (xss : Tab) (es : Row), madeF (raiseO acc e) xss (raiseO es e) = raiseO (madeF acc xss es) e
  | acc, [], es => by unfold madeF; rfl
  | acc, _ :: _, [] => by unfold madeF; rfl
  | acc, x :: xss, a :: es => by
    show madeF (raiseO acc e) (x :: xss) (addO a e :: raiseO es e) = _
    unfold madeF
    rw [← madeF_raise e _ xss es, raise_both, raise_raise]
theorem madeO_raise (n : Nat) (xss : Tab) (es : Row) (e : Ent) : madeO n xss (raiseO es e) = raiseO (madeO n xss es) e := by
  unfold madeO
  rw [← madeF_raise, raise_nones]
@[simp] theorem eqT_tab_nil (xss : Tab) : eqT (.lst (xss.map rowD)) (.lst []) = some (decide (xss = [])) := eqT_tab xss []
theorem zip_rws {ds : List D} {xss : Tab} {es : Row} (r : Rws ds xss) {i : Nat} {z : D} (e : (List.zipWith (fun a b => D.tup [a, b]) ds (es.map eD))[i]? = some z) : ∃ d xs o, xss[i]? = some xs ∧ es[i]? = some o ∧ Rw d xs ∧ z = .tup [d, eD o] := by
  rw [List.getElem?_zipWith, List.getElem?_map] at e
  cases h1 : ds[i]? with
  | none => rw [h1] at e; cases e
  | some d =>
    cases h2 : es[i]? with
    | none => rw [h1, h2] at e; cases e
    | some o =>
      rw [h1, h2] at e
      obtain ⟨xs, h3, h4⟩ := r.get h1
      exact ⟨d, xs, o, h3, rfl, h4, (Option.some.inj e).symm⟩
/-- an entry's data, bounded -/
def EnB (B : Int) (d : D) : Prop := ∃ o : Ent, d = eD o ∧ OB B o
theorem EnB.non {B : Int} : EnB B .non := ⟨none, rfl, .none⟩
theorem EnB.int {B i : Int} (h1 : -B ≤ i) (h2 : i ≤ B) : EnB B (.int i) := ⟨some i, rfl, .some h1 h2⟩
/-- a row's data, bounded -/
def RwD (n : Nat) (B : Int) (d : D) : Prop := ∃ xs : Row, d = rowD xs ∧ xs.length = n ∧ RwB B xs
/-- rows handed in as lists or tuples, by draws -/
theorem lc_given {gd : D → Dn → Option Dn} {e : Di D} {η : Dn} {c b : Int} (hc : 0 ≤ c) {xss : Tab} {g : G} {Q : List D × G → Prop} (w : Dw b g) (hb : xss.length * c ≤ b)
    (step : ∀ r ∈ xss, ∀ b' g', Dw b' g' → c ≤ b' → OQ (gd (rowD r) η) fun η1 => PW (e η1 g') (fun d g2 => Rw d r ∧ Dw (b' - c) g2) eF)
    (q : ∀ ds g', Rws ds xss → Dw (b - xss.length * c) g' → Q (ds, g')) : OQ (lcD gd dYes e η (xss.map rowD) g) Q := by
  refine lc_pw (fun i vs g' => i ≤ xss.length ∧ Rws vs (xss.take i) ∧ Dw (b - i * c) g') ⟨Nat.zero_le _, .nil, by simpa using w⟩ ?_ ?_
  · rintro i x vs g' ex ⟨hi, hR, w'⟩
    rw [List.getElem?_map, Option.map_eq_some_iff] at ex
    obtain ⟨r, er, rfl⟩ := ex
    have hlt : i < xss.length := (List.getElem?_eq_some_iff.mp er).1
    have hle : ((i : Int) + 1) * c ≤ xss.length * c := Int.mul_le_mul_of_nonneg_right (by omega) hc
    have e1 : ((i : Int) + 1) * c = i * c + c := by rw [Int.add_mul]; omega
    refine (step r (List.mem_of_getElem? er) _ g' w' (by omega)).mono fun η1 h => ?_
    simp only [dYes, PW_ok, if_true]
    refine h.mono (fun d g2 ⟨hd, w2⟩ => ⟨hlt, ?_, w2.less (by push_cast; omega)⟩) fun _ _ z => z
    rw [List.take_succ, er]
    exact hR.append (.cons hd .nil)
  · rintro vs g' ⟨_, hR, w'⟩
    rw [List.length_map] at hR w'
    rw [List.take_length] at hR
    exact q vs g' hR w'
theorem Rws.tups (xss : Tab) : Rws (xss.map fun r => .tup (r.map eD)) xss := by
  induction xss with
  | nil => exact .nil
  | cons x xss ih => exact .cons rfl ih
theorem nat_len (n : Nat) (h : n ≤ 1000000) : n ≤ 16777216 := by omega
theorem if_pos_of {c a b : Prop} [Decidable c] (h : c) (q : a) : if c then a else b := by rw [if_pos h]; exact q
theorem eqT_eD (a b : Ent) : eqT (eD a) (eD b) = some (decide (a = b)) := by
  cases a <;> cases b <;> simp
  exact Bool.beq_eq_decide_eq _ _
theorem enumL_get : ∀ {xs : List D} {k i : Nat} {z : D}, (enumL k xs)[i]? = some z → ∃ x, xs[i]? = some x ∧ z = .tup [.int ((k + i : Nat) : Int), x]
  | [], _, _, _, e => by simp [enumL] at e
  | x :: xs, k, 0, z, e => by
    simp [enumL] at e
    exact ⟨x, rfl, by simp [← e]⟩
  | x :: xs, k, i + 1, z, e => by
    have e : (enumL (k + 1) xs)[i]? = some z := by simpa [enumL] using e
    obtain ⟨y, h1, h2⟩ := enumL_get e
    exact ⟨y, by simpa using h1, by rw [h2]; congr 4; omega⟩
@[simp] theorem enumL_len : ∀ (xs : List D) (k : Nat), (enumL k xs).length = xs.length
  | [], _ => rfl
  | x :: xs, k => by simp [enumL, enumL_len xs (k + 1)]
theorem app_len (xss : Tab) (x : Row) : (appO xss x).length = xss.length := by simp [appO]
theorem back_len (xss : Tab) (n : Nat) (y : Row) : (backO xss n y).length = n := by simp [backO, colsO]
/-- the product of what back tells of a product is that product -/
theorem app_again {xss : Tab} {n : Nat} {x : Row} (hw : wideO n xss) (hx : x.length = n) : appO xss (backO xss n (appO xss x)) = appO xss x := by
  have hA := back_above (xss := xss) (n := n) (ys := appO xss x) hw
  apply List.ext_getElem?
  intro i
  by_cases hi : i < xss.length
  · have hr : xss[i]? = some xss[i] := List.getElem?_eq_getElem hi
    have hrl : (xss[i]).length = n := hw _ (List.getElem_mem hi)
    rw [appO_get hr, appO_get hr]
    congr 1
    apply leO_antisymm
    · refine le_lsum fun j a z h1 h2 => ?_
      have hj : j < n := by
        have := (List.getElem?_eq_some_iff.mp h2).1
        omega
      have hb : (backO xss n (appO xss x))[j]? = some (entAt (backO xss n (appO xss x)) j) := entAt_get (by rw [back_len]; exact hj)
      refine leO_trans (lsum_le h1 hb) ?_
      cases a with
      | none => simp
      | some a =>
        rw [addO_comm, addO_comm (some a)]
        refine addO_mono _ (back_least hw (by rw [app_len]) hx (below_iff.mpr fun i x y a b => by rw [a] at b; cases b; exact leO_refl _) hj ⟨xss[i], List.getElem_mem hi, ?_⟩ hb h2)
        rw [entAt_eq h1]
        simp
    · exact below_iff.mp hA i _ _ (appO_get hr) (appO_get hr)
  · rw [List.getElem?_eq_none (by rw [app_len]; omega), List.getElem?_eq_none (by rw [app_len]; omega)]
/-! ### least adds, told by pairs -/
def mxO : Ent → List Int → Ent
  | acc, [] => acc
  | none, z :: zs => mxO (some z) zs
  | some c, z :: zs => mxO (some (max z c)) zs
theorem mxO_some : ∀ (zs : List Int) (c : Int), ∃ m, mxO (some c) zs = some m ∧ (m = c ∨ m ∈ zs) ∧ c ≤ m ∧ ∀ y ∈ zs, y ≤ m
  | [], c => ⟨c, rfl, .inl rfl, Int.le_refl _, fun y h => absurd h List.not_mem_nil⟩
  | z :: zs, c => by
    obtain ⟨m, h1, h2, h3, h4⟩ := mxO_some zs (max z c)
    refine ⟨m, h1, ?_, by omega, fun y hy => ?_⟩
    · rcases h2 with h2 | h2
      · by_cases h : c ≤ z
        · exact .inr (by rw [h2, Int.max_eq_left h]; exact .head _)
        · exact .inl (by omega)
      · exact .inr (.tail _ h2)
    · rcases List.mem_cons.mp hy with rfl | hy
      · omega
      · exact h4 y hy
theorem mxO_maxL {zs : List Int} (h : zs ≠ []) : mxO none zs = some (maxL zs) := by
  cases zs with
  | nil => exact absurd rfl h
  | cons z zs =>
    obtain ⟨m, h1, h2, h3, h4⟩ := mxO_some zs z
    show mxO (some z) zs = _
    rw [h1]
    obtain ⟨k1, k2⟩ := maxL_ok (z :: zs) h
    congr 1
    apply Int.le_antisymm
    · exact k2 m (by rcases h2 with rfl | h2; exact .head _; exact .tail _ h2)
    · rcases List.mem_cons.mp k1 with e | e
      · omega
      · exact h4 _ e
def numPairs (xs ys : Row) : List (Ent × Ent) := (List.zip xs ys).filter fun p => p.1.isSome
def pairDiff (p : Ent × Ent) : Int := p.2.getD 0 - p.1.getD 0
theorem numPairs_none (xs ys : Row) (y : Ent) : numPairs (none :: xs) (y :: ys) = numPairs xs ys := rfl
theorem numPairs_some (xs ys : Row) (a : Int) (y : Ent) : numPairs (some a :: xs) (y :: ys) = (some a, y) :: numPairs xs ys := rfl
theorem afF_told : ∀ (xs ys : Row) (acc : Ent), afF acc xs ys = if (numPairs xs ys).all (fun p => p.2.isSome) = true then mxO acc ((numPairs xs ys).map pairDiff) else none
  | [], ys, acc => by cases acc <;> simp [afF, numPairs, mxO]
  | x :: xs, [], acc => by cases acc <;> cases x <;> simp [afF, numPairs, mxO]
  | none :: xs, y :: ys, acc => by
    rw [afF_n, afF_told xs ys acc, numPairs_none]
  | some a :: xs, none :: ys, acc => by
    rw [afF_sn, numPairs_some]
    simp
  | some a :: xs, some b :: ys, none => by
    rw [afF_ns, afF_told xs ys, numPairs_some]
    rfl
  | some a :: xs, some b :: ys, some c => by
    rw [afF_ss, afF_told xs ys, numPairs_some]
    rfl
theorem afO_told (xs ys : Row) : afO xs ys = if numPairs xs ys ≠ [] ∧ (numPairs xs ys).all (fun p => p.2.isSome) = true then some (maxL ((numPairs xs ys).map pairDiff)) else none := by
  unfold afO
  rw [afF_told]
  by_cases h : numPairs xs ys = []
  · simp [h, mxO]
  · by_cases h2 : (numPairs xs ys).all (fun p => p.2.isSome) = true
    · rw [if_pos h2, if_pos ⟨h, h2⟩, mxO_maxL (by simpa using h)]
    · rw [if_neg h2, if_neg fun z => h2 z.2]
theorem numPairs_range {xs ys : Row} {n : Nat} (hx : xs.length = n) (hy : ys.length = n) : numPairs xs ys = ((List.range n).filter fun i => (entAt xs i).isSome).map fun i => (entAt xs i, entAt ys i) := by
  have e : List.zip xs ys = (List.range n).map fun i => (entAt xs i, entAt ys i) := by
    apply List.ext_getElem?
    intro i
    rw [List.zip, List.getElem?_zipWith, List.getElem?_map]
    by_cases hi : i < n
    · rw [entAt_get (show i < xs.length by omega), entAt_get (show i < ys.length by omega), List.getElem?_range hi]
      rfl
    · rw [List.getElem?_eq_none (show xs.length ≤ i by omega), List.getElem?_eq_none (show (List.range n).length ≤ i by simp; omega)]
      rfl
  rw [numPairs, e, List.filter_map]
  rfl
abbrev pairD (p : Ent × Ent) : D := .tup [eD p.1, eD p.2]
theorem eqT_pairs_nil (L : List (Ent × Ent)) : eqT (.lst (L.map pairD)) (.lst []) = some (decide (L = [])) := by
  have e : ∀ L : List (Ent × Ent), pyL (pyD 7) (L.map pairD) = some (L.map fun p => .tuple [pyE p.1, pyE p.2]) := fun L => by
    induction L with
    | nil => rfl
    | cons p L ih => simp only [List.map_cons, pyL, ih]; simp [pyD, pyL, pyD_eD]
  have l : ∀ L : List (Ent × Ent), PyData.canLayAll0 (L.map fun p => .tuple [pyE p.1, pyE p.2]) = true ∧ PyData.depthAll (L.map fun p => .tuple [pyE p.1, pyE p.2]) ≤ 1 := fun L => by
    induction L with
    | nil => exact ⟨rfl, Nat.zero_le _⟩
    | cons p L ih =>
      obtain ⟨a, b⟩ := ih
      rw [List.map_cons]
      generalize L.map (fun p : Ent × Ent => PyData.tuple [pyE p.1, pyE p.2]) = Z at a b ⊢
      rcases p with ⟨_ | _, _ | _⟩ <;> simp [PyData.canLayAll0, PyData.depthAll, PyData.canLay0, PyData.depth, pyE, a] <;> omega
  unfold eqT
  simp only [pyD, e, Option.map, pyL]
  obtain ⟨a, b⟩ := l L
  rw [if_pos ⟨by unfold SeqAt.shaped; simp [PyData.canLay0, PyData.depth, a]; omega, by decide⟩]
  cases L <;> simp [PyData.eqv, PyData.eqvAll]
/-! ### every row of a table written -/
theorem each_tab {i : Nat} {u : Nat → List D → D → Dn → G → SD} {F : Row → Row} {T : Tab} {η : Dn} {g : G} (hη : η[i]? = some (some (tabD T)))
    (h : ∀ (j : Nat) (r : Row) (xss : Tab), T[j]? = some r → u j (r.map eD) (tabD xss) (η.set i (some (tabD xss))) g = .nx (η.set i (some (tabD (xss.set j (F r))))) g) : dEach i u η g = .nx (η.set i (some (tabD (T.map F)))) g := by
  have hi : i < η.length := (List.getElem?_eq_some_iff.mp hη).1
  have go : ∀ n j, T.length = j + n → eachD i u n j (η.set i (some (tabD ((T.take j).map F ++ T.drop j)))) g = .nx (η.set i (some (tabD (T.map F)))) g := by
    intro n
    induction n with
    | zero => intro j e; simp [eachD, List.take_of_length_le (show T.length ≤ j by omega), List.drop_eq_nil_of_le (show T.length ≤ j by omega)]
    | succ n ih =>
      intro j e
      have hj : j < T.length := by omega
      have e1 : ((T.take j).map F ++ T.drop j)[j]? = some T[j] := by
        have l : ((T.take j).map F).length = j := by rw [List.length_map, List.length_take]; omega
        rw [List.getElem?_append_right (by omega), l, List.drop_eq_getElem_cons hj, Nat.sub_self]
        rfl
      have e2 : ((T.take j).map F ++ T.drop j).set j (F T[j]) = (T.take (j + 1)).map F ++ T.drop (j + 1) := by
        have l : ((T.take j).map F).length = j := by rw [List.length_map, List.length_take]; omega
        rw [List.drop_eq_getElem_cons hj, List.set_append_right _ _ (by omega), l, Nat.sub_self, List.take_succ, List.getElem?_eq_getElem hj, List.map_append, List.append_assoc]
        rfl
      have q := ih (j + 1) (by omega)
      rw [← e2] at q
      generalize (T.take j).map F ++ T.drop j = X at e1 q ⊢
      have hz : (X.map rowD)[j]? = some (.lst ((T[j]).map eD)) := by rw [List.getElem?_map, e1]; rfl
      have hk := h j T[j] X (List.getElem?_eq_getElem hj)
      have hs : (tabD X).seq = some (X.map rowD) := rfl
      generalize tabD X = Y at hs hk ⊢
      unfold eachD
      rw [List.getElem?_set_self hi]
      simp only [hs]
      rw [hz]
      simp only []
      rw [hk]
      exact q
  have hs : (tabD T).seq = some (T.map rowD) := rfl
  unfold dEach
  rw [hη]
  simp only [hs, List.length_map]
  have := go T.length 0 (by omega)
  have es : η.set i (some (tabD T)) = η := by
    apply List.ext_getElem?
    intro k
    rw [List.getElem?_set]
    split
    · rename_i e; rw [← e, hη]
    · rfl
  simp only [List.take_zero, List.map_nil, List.nil_append, List.drop_zero] at this
  rw [es] at this
  exact this
theorem lsum_bound {B : Int} : ∀ {xs ys : Row}, RwB B xs → RwB B ys → OB (2 * B) (lsum xs ys)
  | [], _, _, _ => by unfold lsum; exact .none
  | _ :: _, [], _, _ => by unfold lsum; exact .none
  | x :: xs, y :: ys, hx, hy => by
    show OB _ (lesO (addO x y) (lsum xs ys))
    have ih := lsum_bound (xs := xs) (ys := ys) (fun o h => hx o (.tail _ h)) (fun o h => hy o (.tail _ h))
    have h1 := hx x (.head _)
    have h2 := hy y (.head _)
    have ha : OB (2 * B) (addO x y) := by
      cases x with
      | none => simpa using OB.none
      | some a =>
        cases y with
        | none => simpa using OB.none
        | some c =>
          have := h1 a rfl
          have := h2 c rfl
          exact .some (by omega) (by omega)
    intro i e
    cases hA : addO x y with
    | none => rw [hA] at e; simp at e; exact ih i e
    | some a =>
      cases hL : lsum xs ys with
      | none => rw [hA, hL] at e; simp at e; exact ha i (by rw [hA, e])
      | some c =>
        rw [hA, hL, lesO_some] at e
        have := ha a hA
        have := ih c hL
        simp at e
        omega
theorem intsD_mapF {α : Type} (f : α → Int) : ∀ xs : List α, intsD (xs.map fun a => D.int (f a)) = some (xs.map f)
  | [] => rfl
  | x :: xs => by simp [intsD, intsD_mapF f xs]
theorem maxT_mapF {α : Type} (f : α → Int) {xs : List α} (h : xs ≠ []) : maxT (.lst (xs.map fun a => D.int (f a))) = some (.int (maxL (xs.map f))) := by
  unfold maxT
  rw [show (D.lst (xs.map fun a => D.int (f a))).lis = some (xs.map fun a => D.int (f a)) from rfl, Option.bind_some, intsD_mapF]
  cases xs with
  | nil => exact absurd rfl h
  | cons x xs => rfl
theorem minT_mapF {α : Type} (f : α → Int) {xs : List α} (h : xs ≠ []) : minT (.lst (xs.map fun a => D.int (f a))) = some (.int (minL (xs.map f))) := by
  unfold minT
  rw [show (D.lst (xs.map fun a => D.int (f a))).lis = some (xs.map fun a => D.int (f a)) from rfl, Option.bind_some, intsD_mapF]
  cases xs with
  | nil => exact absurd rfl h
  | cons x xs => rfl
end Lt
namespace Lt
open PySem L2
/-! ### square tables and their products -/
def mnL : List Ent → Ent
  | [] => none
  | x :: xs => lesO x (mnL xs)
theorem le_mnL {z : Ent} : ∀ {xs : List Ent}, leO z (mnL xs) = true ↔ ∀ x ∈ xs, leO z x = true
  | [] => by simp [mnL]
  | x :: xs => by simp only [mnL, leO_les, le_mnL (xs := xs), List.mem_cons, forall_eq_or_imp]
theorem addO_mnL (c : Ent) : ∀ xs : List Ent, addO (mnL xs) c = mnL (xs.map fun x => addO x c)
  | [] => by simp [mnL]
  | x :: xs => by
    simp only [mnL, List.map_cons]
    rw [← addO_mnL c xs, les_addO]
theorem ind_eq {a b : Ent} (h : ∀ z, leO z a = true ↔ leO z b = true) : a = b := leO_antisymm ((h a).mp (leO_refl a)) ((h b).mpr (leO_refl b))
def mulF (n : Nat) (f g : Nat → Nat → Ent) (i j : Nat) : Ent := mnL ((List.range n).map fun m => addO (f i m) (g m j))
theorem le_mulF {n : Nat} {f g : Nat → Nat → Ent} {i j : Nat} {z : Ent} : leO z (mulF n f g i j) = true ↔ ∀ m < n, leO z (addO (f i m) (g m j)) = true := by
  unfold mulF
  rw [le_mnL]
  simp
theorem mulF_assoc (n : Nat) (f g h : Nat → Nat → Ent) (i j : Nat) : mulF n (mulF n f g) h i j = mulF n f (mulF n g h) i j := by
  apply ind_eq
  intro z
  rw [le_mulF, le_mulF]
  have e1 : ∀ m, leO z (addO (mulF n f g i m) (h m j)) = true ↔ ∀ l < n, leO z (addO (f i l) (addO (g l m) (h m j))) = true := fun m => by
    unfold mulF
    rw [addO_mnL, le_mnL]
    simp [addO_assoc]
  have e2 : ∀ l, leO z (addO (f i l) (mulF n g h l j)) = true ↔ ∀ m < n, leO z (addO (f i l) (addO (g l m) (h m j))) = true := fun l => by
    unfold mulF
    rw [addO_comm, addO_mnL, le_mnL]
    simp [addO_comm (f i l)]
  simp only [e1, e2]
  exact ⟨fun k l hl m hm => k m hm l hl, fun k m hm l hl => k l hl m hm⟩
def oneF (i j : Nat) : Ent := if j = i then some 0 else none
theorem oneF_mul {n : Nat} {f : Nat → Nat → Ent} {i j : Nat} (hi : i < n) : mulF n oneF f i j = f i j := by
  apply ind_eq
  intro z
  rw [le_mulF]
  have z0 : ∀ a : Ent, addO (some 0) a = a := fun a => by cases a <;> simp
  constructor
  · intro h
    have := h i hi
    simpa [oneF, z0] using this
  · intro h m hm
    unfold oneF
    by_cases e : m = i
    · subst e; simpa [z0] using h
    · simp [e]
theorem mul_oneF {n : Nat} {f : Nat → Nat → Ent} {i j : Nat} (hj : j < n) : mulF n f oneF i j = f i j := by
  apply ind_eq
  intro z
  rw [le_mulF]
  have z0 : ∀ a : Ent, addO a (some 0) = a := fun a => by cases a <;> simp
  constructor
  · intro h
    have := h j hj
    simpa [oneF, z0] using this
  · intro h m hm
    unfold oneF
    by_cases e : j = m
    · subst e; simpa [z0] using h
    · simp [e]
def tabO (n : Nat) (f : Nat → Nat → Ent) : Tab := (List.range n).map fun i => (List.range n).map fun j => f i j
theorem tabO_congr {n : Nat} {f g : Nat → Nat → Ent} (h : ∀ i < n, ∀ j < n, f i j = g i j) : tabO n f = tabO n g := by
  unfold tabO
  exact List.map_congr_left fun i hi => List.map_congr_left fun j hj => h i (List.mem_range.mp hi) j (List.mem_range.mp hj)
def prodO (n : Nat) (A B : Tab) : Tab := A.map fun r => (colsO B n).map fun c => lsum r c
theorem lsum_maps (a b : Nat → Ent) : ∀ l : List Nat, lsum (l.map a) (l.map b) = mnL (l.map fun m => addO (a m) (b m))
  | [] => rfl
  | x :: l => by
    show lesO (addO (a x) (b x)) (lsum (l.map a) (l.map b)) = _
    rw [lsum_maps a b l]
    rfl
theorem cols_tab (n : Nat) (g : Nat → Nat → Ent) : colsO (tabO n g) n = (List.range n).map fun j => (List.range n).map fun i => g i j := by
  unfold colsO
  refine List.map_congr_left fun j hj => ?_
  have hj := List.mem_range.mp hj
  unfold colO tabO
  rw [List.map_map]
  refine List.map_congr_left fun i _ => ?_
  exact entAt_eq (by simp [hj])
theorem prod_tab (n : Nat) (f g : Nat → Nat → Ent) : prodO n (tabO n f) (tabO n g) = tabO n (mulF n f g) := by
  unfold prodO
  rw [cols_tab]
  conv => lhs; unfold tabO
  rw [List.map_map]
  refine List.map_congr_left fun i _ => ?_
  simp only [Function.comp, List.map_map]
  refine List.map_congr_left fun j _ => ?_
  simp only [Function.comp]
  exact lsum_maps _ _ _
def Sq (n : Nat) (T : Tab) : Prop := T.length = n ∧ wideO n T
theorem sq_is {n : Nat} {T : Tab} (h : Sq n T) : T = tabO n fun i j => entAt (T[i]?.getD []) j := by
  obtain ⟨h1, h2⟩ := h
  apply List.ext_getElem?
  intro i
  unfold tabO
  by_cases hi : i < n
  · have e : T[i]? = some T[i] := List.getElem?_eq_getElem (by omega)
    rw [List.getElem?_map, List.getElem?_range hi, e]
    simp only [Option.map_some, Option.getD_some]
    congr 1
    have hl : (T[i]).length = n := h2 _ (List.getElem_mem _)
    apply List.ext_getElem?
    intro j
    by_cases hj : j < n
    · rw [List.getElem?_map, List.getElem?_range hj, entAt_get (by omega)]
      rw [e]
      rfl
    · rw [List.getElem?_eq_none (by omega), List.getElem?_eq_none (by simp; omega)]
  · rw [List.getElem?_eq_none (by omega), List.getElem?_eq_none (by simp; omega)]
theorem tab_sq (n : Nat) (f : Nat → Nat → Ent) : Sq n (tabO n f) := by
  refine ⟨by simp [tabO], fun r hr => ?_⟩
  obtain ⟨i, _, rfl⟩ := List.mem_map.mp hr
  simp
def oneO (n : Nat) : Tab := tabO n oneF
theorem one_sq (n : Nat) : Sq n (oneO n) := tab_sq n _
theorem prod_sq {n : Nat} {A : Tab} (B : Tab) (h : A.length = n) : Sq n (prodO n A B) := by
  refine ⟨by simp [prodO, h], fun r hr => ?_⟩
  obtain ⟨i, _, rfl⟩ := List.mem_map.mp hr
  simp [colsO]
theorem prod_assoc {n : Nat} {A B C : Tab} (ha : Sq n A) (hb : Sq n B) (hc : Sq n C) : prodO n (prodO n A B) C = prodO n A (prodO n B C) := by
  rw [sq_is ha, sq_is hb, sq_is hc, prod_tab, prod_tab, prod_tab, prod_tab]
  exact tabO_congr fun i _ j _ => mulF_assoc n _ _ _ i j
theorem one_prod {n : Nat} {A : Tab} (ha : Sq n A) : prodO n (oneO n) A = A := by
  conv => rhs; rw [sq_is ha]
  conv => lhs; rw [sq_is ha]
  unfold oneO
  rw [prod_tab]
  exact tabO_congr fun i hi j _ => oneF_mul hi
theorem prod_one {n : Nat} {A : Tab} (ha : Sq n A) : prodO n A (oneO n) = A := by
  conv => rhs; rw [sq_is ha]
  conv => lhs; rw [sq_is ha]
  unfold oneO
  rw [prod_tab]
  exact tabO_congr fun i _ j hj => mul_oneF hj
def powO (n : Nat) (A : Tab) : Nat → Tab
  | 0 => oneO n
  | k + 1 => prodO n (powO n A k) A
theorem pow_sq {n : Nat} {A : Tab} (ha : Sq n A) : ∀ k, Sq n (powO n A k)
  | 0 => one_sq n
  | k + 1 => prod_sq _ (pow_sq ha k).1
theorem pow_add {n : Nat} {A : Tab} (ha : Sq n A) (a : Nat) : ∀ b, powO n A (a + b) = prodO n (powO n A a) (powO n A b)
  | 0 => (prod_one (pow_sq ha a)).symm
  | b + 1 => by
    show prodO n (powO n A (a + b)) A = prodO n (powO n A a) (prodO n (powO n A b) A)
    rw [pow_add ha a b, prod_assoc (pow_sq ha a) (pow_sq ha b) ha]
theorem pow_one {n : Nat} {A : Tab} (ha : Sq n A) : powO n A 1 = A := one_prod ha
theorem pow_two {n : Nat} {A : Tab} (ha : Sq n A) : ∀ q, powO n (prodO n A A) q = powO n A (2 * q)
  | 0 => rfl
  | q + 1 => by
    show prodO n (powO n (prodO n A A) q) (prodO n A A) = _
    rw [pow_two ha q, ← prod_assoc (pow_sq ha _) ha ha]
    rfl
/-- one turn of the power by halves -/
theorem pow_half {n : Nat} {A R : Tab} (ha : Sq n A) (hr : Sq n R) (k : Nat) : prodO n R (powO n A k) = prodO n (if k % 2 = 1 then prodO n R A else R) (powO n (prodO n A A) (k / 2)) := by
  rw [pow_two ha]
  split
  · rename_i h
    rw [prod_assoc hr ha (pow_sq ha _)]
    congr 1
    conv => lhs; rw [show k = 1 + 2 * (k / 2) by omega]
    rw [pow_add ha, pow_one ha]
  · rename_i h
    rw [show 2 * (k / 2) = k by omega]
end Lt
namespace Lt
open PySem L2
@[simp] theorem inT_lst (x : D) (ys : List D) : inT x (.lst ys) = if flatA x = true ∧ ys.all flatA = true then some (ys.any fun z => eqA z x) else none := rfl
@[simp] theorem inT_tup (x : D) (ys : List D) : inT x (.tup ys) = if flatA x = true ∧ ys.all flatA = true then some (ys.any fun z => eqA z x) else none := rfl
@[simp] theorem inT_dicI (i : Int) (kvs : List (Key × D)) : inT (.int i) (.dic kvs) = some (valD kvs (.inl i)).isSome := rfl
@[simp] theorem inT_dicS (i : Str) (kvs : List (Key × D)) : inT (.str i) (.dic kvs) = some (valD kvs (.inr i)).isSome := rfl
@[simp] theorem idxT_lst (ds : List D) (y : D) : idxT (.lst ds) y = if flatA y = true ∧ ds.all flatA = true then (ds.findIdx? fun z => eqA z y).map fun (k : Nat) => D.int (k : Int) else none := rfl
theorem intsD_ints : ∀ bs : List Int, intsD (bs.map D.int) = some bs
  | [] => rfl
  | b :: bs => by simp only [List.map_cons, intsD, intsD_ints bs, Option.map]
@[simp] theorem lenSetT_ints (bs : List Int) : lenSetT (.lst (bs.map D.int)) = if bs.length ≤ 1000 then some (.int (uniqI bs).length) else none := by
  simp [lenSetT, intsD_ints]
@[simp] theorem sortSetL_ints (bs : List Int) : sortSetL (.lst (bs.map D.int)) = if bs.length ≤ 60 then some ((uniqI bs).map D.int) else none := by
  simp [sortSetL, intsD_ints]
@[simp] theorem sortL_ints (bs : List Int) : sortL (.lst (bs.map D.int)) = some ((srtI bs).map D.int) := by
  simp [sortL, D.lis, intsD_ints]
theorem minDT_ints (bs : List Int) (d : D) : minDT (.lst (bs.map D.int), d) = if bs = [] then chk (some d) else some (.int (minL bs)) := by
  unfold minDT
  simp only [D.lis, Option.bind, intsD_ints]
  cases bs <;> simp
theorem uniqI_self {bs : List Int} (h : bs.Pairwise (· < ·)) : uniqI bs = bs := (lt_uniq h fun _ => Iff.rfl).symm
@[simp] theorem flatA_eD (o : Option Int) : flatA (eD o) = true := by cases o <;> rfl
@[simp] theorem eqA_eD (a b : Option Int) : eqA (eD a) (eD b) = decide (a = b) := by
  cases a <;> cases b <;> simp
  exact Bool.beq_eq_decide_eq _ _
@[simp] theorem flatA_all_eD (xs : List (Option Int)) : (xs.map eD).all flatA = true := by
  rw [List.all_eq_true]
  intro d hd
  obtain ⟨o, _, rfl⟩ := List.mem_map.mp hd
  exact flatA_eD o
@[simp] theorem flatA_all_int (xs : List Int) : (xs.map D.int).all flatA = true := by
  rw [List.all_eq_true]
  intro d hd
  obtain ⟨o, _, rfl⟩ := List.mem_map.mp hd
  rfl
end Lt
namespace Lt
open PySem L2
/-! ### rows made of rows, and rows below them -/
theorem below_both' {ys x z : Row} (h1 : belowO ys x = true) (h2 : belowO ys z = true) : belowO ys (bothO x z) = true := below_iff.mpr fun i a c ha hc => by
  unfold bothO at hc
  rw [List.getElem?_zipWith] at hc
  cases e1 : x[i]? with
  | none => simp [e1] at hc
  | some u =>
    cases e2 : z[i]? with
    | none => simp [e1, e2] at hc
    | some v =>
      simp [e1, e2] at hc
      subst hc
      exact leO_les.mpr ⟨below_iff.mp h1 i a u ha e1, below_iff.mp h2 i a v ha e2⟩
theorem below_refl (xs : Row) : belowO xs xs = true := below_iff.mpr fun i x y a b => by rw [a] at b; cases b; exact leO_refl _
theorem both_below_left {x z : Row} : belowO (bothO x z) x = true := below_iff.mpr fun i a c ha hc => by
  unfold bothO at ha
  rw [List.getElem?_zipWith, hc] at ha
  cases e2 : z[i]? with
  | none => simp [e2] at ha
  | some v =>
    simp [e2] at ha
    subst ha
    exact les_le_left _ _
theorem both_below_right {x z : Row} : belowO (bothO x z) z = true := below_iff.mpr fun i a c ha hc => by
  unfold bothO at ha
  rw [List.getElem?_zipWith, hc] at ha
  cases e2 : x[i]? with
  | none => simp [e2] at ha
  | some v =>
    simp [e2] at ha
    subst ha
    exact les_le_right _ _
theorem madeF_above' {ys : Row} : ∀ {xss : Tab} {es acc : Row}, belowO ys acc = true → (∀ p ∈ List.zip xss es, belowO ys (raiseO p.1 p.2) = true) → belowO ys (madeF acc xss es) = true
  | [], es, acc, h, _ => by cases es <;> exact h
  | x :: xss, [], acc, h, _ => h
  | x :: xss, e :: es, acc, h, k => madeF_above' (xss := xss) (es := es) (below_both' h (k (x, e) (.head _))) fun p hp => k p (.tail _ hp)
theorem below_nones (ys : Row) (n : Nat) : belowO ys (List.replicate n none) = true := below_iff.mpr fun i a c ha hc => by
  have := List.mem_of_getElem? hc
  rw [List.eq_of_mem_replicate this]
  simp
theorem madeO_above {ys : Row} {n : Nat} {xss : Tab} {es : Row} (k : ∀ p ∈ List.zip xss es, belowO ys (raiseO p.1 p.2) = true) : belowO ys (madeO n xss es) = true := madeF_above' (below_nones ys n) k
theorem madeF_acc : ∀ {xss : Tab} {es acc : Row} {n : Nat}, acc.length = n → wideO n xss → belowO (madeF acc xss es) acc = true
  | [], es, acc, n, _, _ => by cases es <;> exact below_refl _
  | x :: xss, [], acc, n, _, _ => below_refl _
  | x :: xss, e :: es, acc, n, hl, hw => by
    have h1 : (bothO acc (raiseO x e)).length = n := by rw [both_len (by rw [hl, raise_len, hw x (.head _)]), hl]
    have ih := madeF_acc (xss := xss) (es := es) h1 fun r m => hw r (.tail _ m)
    refine below_trans (ys := bothO acc (raiseO x e)) ?_ ih both_below_left
    show (madeF (bothO acc (raiseO x e)) xss es).length ≤ _
    rw [madeF_len h1 fun r m => hw r (.tail _ m), h1]
    exact Nat.le_refl _
theorem madeF_le : ∀ {xss : Tab} {es acc : Row} {n : Nat} {p : Row × Ent}, acc.length = n → wideO n xss → p ∈ List.zip xss es → belowO (madeF acc xss es) (raiseO p.1 p.2) = true
  | [], es, acc, n, p, _, _, h => by simp at h
  | x :: xss, [], acc, n, p, _, _, h => by simp at h
  | x :: xss, e :: es, acc, n, p, hl, hw, h => by
    have hx := hw x (.head _)
    have h1 : (bothO acc (raiseO x e)).length = n := by rw [both_len (by rw [hl, raise_len, hx]), hl]
    have hw' : wideO n xss := fun r m => hw r (.tail _ m)
    rcases List.mem_cons.mp (show p ∈ (x, e) :: List.zip xss es from h) with rfl | h
    · refine below_trans (ys := bothO acc (raiseO x e)) ?_ (madeF_acc (xss := xss) (es := es) h1 hw') both_below_right
      show (madeF (bothO acc (raiseO x e)) xss es).length ≤ _
      rw [madeF_len h1 hw', h1]
      exact Nat.le_refl _
    · exact madeF_le (xss := xss) (es := es) h1 hw' h
/-- what is made is below each raised row -/
theorem madeO_le {n : Nat} {xss : Tab} {es : Row} {p : Row × Ent} (hw : wideO n xss) (h : p ∈ List.zip xss es) : belowO (madeO n xss es) (raiseO p.1 p.2) = true := madeF_le (by simp) hw h
theorem raise_below {x : Row} {a b : Ent} (h : leO a b = true) : belowO (raiseO x a) (raiseO x b) = true := below_iff.mpr fun i u v hu hv => by
  unfold raiseO at hu hv
  rw [List.getElem?_map, Option.map_eq_some_iff] at hu hv
  obtain ⟨y, e1, rfl⟩ := hu
  obtain ⟨y', e2, rfl⟩ := hv
  rw [e1] at e2
  cases e2
  rw [addO_comm y a, addO_comm y b]
  exact addO_mono _ h
theorem raise_empty {x : Row} (h : ∀ e ∈ x, e = none) (a : Ent) : raiseO x a = List.replicate x.length none := by
  unfold raiseO
  rw [List.eq_replicate_iff]
  refine ⟨by simp, fun y hy => ?_⟩
  obtain ⟨z, hz, rfl⟩ := List.mem_map.mp hy
  rw [h z hz]
  simp
theorem af_iff {xs ys : Row} {z : Ent} : belowO ys (raiseO xs z) = true ↔ ∀ (i : Nat) (x y : Ent), xs[i]? = some x → ys[i]? = some y → leO y (addO x z) = true := by
  rw [below_iff]
  constructor
  · intro h i x y hx hy
    refine h i y (addO x z) hy ?_
    unfold raiseO
    rw [List.getElem?_map, hx]
    rfl
  · intro h i y w hy hw
    unfold raiseO at hw
    rw [List.getElem?_map, Option.map_eq_some_iff] at hw
    obtain ⟨x, hx, rfl⟩ := hw
    exact h i x y hx hy
/-- nothing at all places -/
def empO (x : Row) : Prop := ∀ e ∈ x, e = none
instance (x : Row) : Decidable (empO x) := by unfold empO; exact inferInstance
theorem not_emp {x : Row} (h : ¬ empO x) : ∃ (i : Nat) (a : Int), x[i]? = some (some a) := by
  obtain ⟨e, he, hn⟩ : ∃ e ∈ x, e ≠ none := Classical.byContradiction fun z => h fun e he => Classical.byContradiction fun q => z ⟨e, he, q⟩
  obtain ⟨i, hi⟩ := List.getElem?_of_mem he
  cases e with
  | none => exact absurd rfl hn
  | some a => exact ⟨i, a, hi⟩
theorem emp_iff {x : Row} {n : Nat} (hl : x.length = n) : empO x ↔ x = List.replicate n none := by
  rw [List.eq_replicate_iff]
  exact ⟨fun h => ⟨hl, h⟩, fun h => h.2⟩
/-- the least add, of a row that isn't empty -/
theorem af_best {xs ys : Row} {z : Ent} (hl : xs.length ≤ ys.length) (hn : ¬ empO xs) (h : belowO ys (raiseO xs z) = true) : leO (afO xs ys) z = true := af_least hl (not_emp hn) (af_iff.mp h)
theorem af_up (xs ys : Row) : belowO ys (raiseO xs (afO xs ys)) = true := af_iff.mpr (af_above xs ys)
/-- the told near row -/
def adsO (xss : Tab) (ys : Row) : Row := xss.map fun r => afO r ys
def nearO (n : Nat) (xss : Tab) (ys : Row) : Row := madeO n xss (adsO xss ys)
theorem ads_len (xss : Tab) (ys : Row) : (adsO xss ys).length = xss.length := by simp [adsO]
theorem near_len {n : Nat} {xss : Tab} {ys : Row} (hw : wideO n xss) : (nearO n xss ys).length = n := madeO_len hw
theorem zip_ads {T : Tab} {ys : Row} {p : Row × Ent} (h : p ∈ List.zip T (adsO T ys)) : p.2 = afO p.1 ys ∧ p.1 ∈ T := by
  obtain ⟨r, a⟩ := p
  obtain ⟨i, hi⟩ := List.getElem?_of_mem h
  unfold adsO at hi
  rw [List.zip, List.getElem?_zipWith, List.getElem?_map] at hi
  cases e : T[i]? with
  | none => simp [e] at hi
  | some x =>
    simp [e] at hi
    obtain ⟨rfl, rfl⟩ := hi
    exact ⟨rfl, List.mem_of_getElem? e⟩
theorem ads_zip {T : Tab} {ys r : Row} (h : r ∈ T) : (r, afO r ys) ∈ List.zip T (adsO T ys) := by
  obtain ⟨i, hi⟩ := List.getElem?_of_mem h
  refine List.mem_of_getElem? (i := i) ?_
  unfold adsO
  rw [List.zip, List.getElem?_zipWith, List.getElem?_map, hi]
  rfl
theorem near_above {n : Nat} {T : Tab} {ys : Row} : belowO ys (nearO n T ys) = true := madeO_above fun p hp => by
  rw [(zip_ads hp).1]
  exact af_up _ _
theorem zip_first {α β : Type} {xs : List α} {ys : List β} {p : α × β} (h : p ∈ List.zip xs ys) : p.1 ∈ xs := by
  obtain ⟨a, b⟩ := p
  exact (List.of_mem_zip h).1
/-- what is made above a row: no lesser adds, none below the told one -/
theorem made_adds {n : Nat} {T : Tab} {ys es : Row} (hw : wideO n T) (hy : ys.length = n) (h : belowO ys (madeO n T es) = true) {p : Row × Ent} (hp : p ∈ List.zip T es) (he : ¬ empO p.1) : leO (afO p.1 ys) p.2 = true := by
  have hx := hw _ (zip_first hp)
  refine af_best (by omega) he (below_trans ?_ h (madeO_le hw hp))
  rw [madeO_len hw, hy]
  exact Nat.le_refl _
theorem made_near {n : Nat} {T : Tab} {ys es : Row} (hw : wideO n T) (hy : ys.length = n) (hl : T.length ≤ es.length) (h : belowO ys (madeO n T es) = true) : belowO (nearO n T ys) (madeO n T es) = true := madeO_above fun p hp => by
  have hx := hw _ (zip_first hp)
  have h1 := madeO_le (n := n) hw (ads_zip (ys := ys) (zip_first hp))
  by_cases he : empO p.1
  · rw [raise_empty he]
    exact below_nones _ _
  · refine below_trans ?_ h1 (raise_below (made_adds hw hy h hp he))
    rw [show (nearO n T ys).length = n from madeO_len hw, raise_len, hx]
    exact Nat.le_refl _
theorem ads_again {n : Nat} {T : Tab} {ys : Row} (hw : wideO n T) (hy : ys.length = n) : adsO T (nearO n T ys) = adsO T ys := by
  unfold adsO
  refine List.map_congr_left fun r hr => ?_
  have hx := hw r hr
  by_cases he : empO r
  · rw [af_empty he, af_empty he]
  · have hN : (nearO n T ys).length = n := near_len hw
    refine leO_antisymm (af_best (by omega) he (madeO_le (n := n) hw (ads_zip (ys := ys) hr))) (af_best (by omega) he (below_trans (by omega) near_above (af_up r (nearO n T ys))))
theorem near_again {n : Nat} {T : Tab} {ys : Row} (hw : wideO n T) (hy : ys.length = n) : nearO n T (nearO n T ys) = nearO n T ys := by
  conv => lhs; unfold nearO
  rw [show adsO T (madeO n T (adsO T ys)) = adsO T (nearO n T ys) from rfl, ads_again hw hy]
  rfl
end Lt
namespace Lt
open PySem L2
/-! ### alike rows; what is made of rows, place by place; the few -/
def Alk (x y : Row) : Prop := ∃ c : Int, raiseO x (some c) = y
noncomputable def alkB (x y : Row) : Bool := @decide (Alk x y) (Classical.propDecidable _)
theorem alkB_iff {x y : Row} : alkB x y = true ↔ Alk x y := by simp [alkB]
theorem alkB_no {x y : Row} : alkB x y = false ↔ ¬ Alk x y := by simp [alkB]
theorem raise_zero (x : Row) : raiseO x (some 0) = x := by
  unfold raiseO
  conv => rhs; rw [← List.map_id x]
  refine List.map_congr_left fun e _ => ?_
  cases e <;> simp
theorem raise_add (x : Row) (a b : Int) : raiseO (raiseO x (some a)) (some b) = raiseO x (some (a + b)) := by
  rw [raise_raise]
  rfl
theorem Alk.refl (x : Row) : Alk x x := ⟨0, raise_zero x⟩
theorem Alk.symm {x y : Row} (h : Alk x y) : Alk y x := by
  obtain ⟨c, rfl⟩ := h
  refine ⟨-c, ?_⟩
  rw [raise_add, show c + -c = 0 by omega, raise_zero]
theorem Alk.trans {x y z : Row} (h : Alk x y) (k : Alk y z) : Alk x z := by
  obtain ⟨c, rfl⟩ := h
  obtain ⟨d, rfl⟩ := k
  exact ⟨c + d, (raise_add x c d).symm⟩
theorem Alk.raise (x : Row) (c : Int) : Alk x (raiseO x (some c)) := ⟨c, rfl⟩
theorem Alk.len {x y : Row} (h : Alk x y) : x.length = y.length := by
  obtain ⟨c, rfl⟩ := h
  simp [raiseO]
theorem raise_get {x : Row} {c v : Int} {i : Nat} : (raiseO x (some c))[i]? = some (some v) ↔ x[i]? = some (some (v - c)) := by
  unfold raiseO
  rw [List.getElem?_map, Option.map_eq_some_iff]
  constructor
  · rintro ⟨e, h1, h2⟩
    cases e with
    | none => simp at h2
    | some a =>
      simp at h2
      rw [h1]
      congr 2
      omega
  · intro h
    exact ⟨_, h, by simp⟩
theorem emp_raise {x : Row} {c : Int} : empO (raiseO x (some c)) ↔ empO x := by
  constructor
  · intro h e he
    have := h (addO e (some c)) (List.mem_map.mpr ⟨e, he, rfl⟩)
    cases e <;> simp at this ⊢
  · intro h e he
    obtain ⟨a, ha, rfl⟩ := List.mem_map.mp he
    rw [h a ha]
    simp
theorem Alk.emp {x y : Row} (h : Alk x y) : empO x ↔ empO y := by
  obtain ⟨c, rfl⟩ := h
  exact emp_raise.symm
theorem below_raise {x y : Row} {c : Int} (h : belowO x y = true) : belowO (raiseO x (some c)) (raiseO y (some c)) = true := below_iff.mpr fun i a b ha hb => by
  unfold raiseO at ha hb
  rw [List.getElem?_map, Option.map_eq_some_iff] at ha hb
  obtain ⟨a, h1, rfl⟩ := ha
  obtain ⟨b, h2, rfl⟩ := hb
  exact addO_mono _ (below_iff.mp h i a b h1 h2)
theorem below_antisymm {x y : Row} (hl : x.length = y.length) (h : belowO x y = true) (k : belowO y x = true) : x = y := by
  apply List.ext_getElem?
  intro i
  by_cases hi : i < x.length
  · have e1 := List.getElem?_eq_getElem hi
    have e2 : y[i]? = some y[i] := List.getElem?_eq_getElem (by omega)
    rw [e1, e2, leO_antisymm (below_iff.mp h i _ _ e1 e2) (below_iff.mp k i _ _ e2 e1)]
  · rw [List.getElem?_eq_none (by omega), List.getElem?_eq_none (by omega)]
/-- made of rows, place by place -/
def Sp (T : Tab) (y : Row) : Prop := ∀ (i : Nat) (v : Int), y[i]? = some (some v) → ∃ r ∈ T, ∃ c : Int, belowO y (raiseO r (some c)) = true ∧ (raiseO r (some c))[i]? = some (some v)
theorem madeF_at : ∀ {T : Tab} {es acc : Row} {i : Nat} {v : Int}, (madeF acc T es)[i]? = some (some v) → acc[i]? = some (some v) ∨ ∃ p ∈ List.zip T es, (raiseO p.1 p.2)[i]? = some (some v)
  | [], es, acc, i, v, h => by cases es <;> exact .inl h
  | x :: T, [], acc, i, v, h => .inl h
  | x :: T, e :: es, acc, i, v, h => by
    rcases madeF_at (T := T) (es := es) (acc := bothO acc (raiseO x e)) h with h | ⟨p, hp, h⟩
    · unfold bothO at h
      rw [List.getElem?_zipWith] at h
      cases e1 : acc[i]? with
      | none => simp [e1] at h
      | some a =>
        cases e2 : (raiseO x e)[i]? with
        | none => simp [e1, e2] at h
        | some b =>
          simp [e1, e2] at h
          cases a with
          | none =>
            simp at h
            subst h
            exact .inr ⟨(x, e), .head _, e2⟩
          | some a =>
            cases b with
            | none =>
              simp at h
              subst h
              exact .inl rfl
            | some b =>
              rw [lesO_some] at h
              simp at h
              by_cases hab : a ≤ b
              · exact .inl (by rw [← h]; congr 2; omega)
              · exact .inr ⟨(x, e), .head _, by rw [e2, ← h]; congr 2; omega⟩
    · exact .inr ⟨p, .tail _ hp, h⟩
theorem made_sp {n : Nat} {T : Tab} {es : Row} (hw : wideO n T) : Sp T (madeO n T es) := by
  intro i v h
  rcases madeF_at h with h' | ⟨p, hp, h'⟩
  · have := List.eq_of_mem_replicate (List.mem_of_getElem? h')
    cases this
  · obtain ⟨r, e⟩ := p
    cases e with
    | none =>
      unfold raiseO at h'
      rw [List.getElem?_map, Option.map_eq_some_iff] at h'
      obtain ⟨a, _, h'⟩ := h'
      simp at h'
    | some c => exact ⟨r, zip_first hp, c, madeO_le (p := (r, some c)) hw hp, h'⟩
theorem sp_near {n : Nat} {T : Tab} {y : Row} (hw : wideO n T) (hy : y.length = n) : nearO n T y = y ↔ Sp T y := by
  constructor
  · intro h
    have := made_sp (es := adsO T y) hw
    rw [show madeO n T (adsO T y) = y from h] at this
    exact this
  · intro h
    refine below_antisymm (by rw [near_len hw, hy]) ?_ near_above
    refine below_iff.mpr fun i a b ha hb => ?_
    cases b with
    | none => simp
    | some v =>
      obtain ⟨r, hr, c, h1, h2⟩ := h i v hb
      have hrl := hw r hr
      have hne : ¬ empO r := fun z => by
        have := raise_get.mp h2
        cases z _ (List.mem_of_getElem? this)
      have h3 : belowO (nearO n T y) (raiseO r (some c)) = true := by
        refine below_trans (ys := raiseO r (afO r y)) ?_ (madeO_le (n := n) hw (ads_zip (ys := y) hr)) (raise_below (af_best (by omega) hne h1))
        rw [raise_len, near_len hw, hrl]
        exact Nat.le_refl _
      exact below_iff.mp h3 i a _ ha h2
theorem Sp.mono {T U : Tab} {y : Row} (h : Sp T y) (s : ∀ r ∈ T, r ∈ U) : Sp U y := fun i v e => by
  obtain ⟨r, hr, q⟩ := h i v e
  exact ⟨r, s r hr, q⟩
theorem Sp.of_mem {T : Tab} {y : Row} (h : y ∈ T) : Sp T y := fun i v e => ⟨y, h, 0, by rw [raise_zero]; exact below_refl y, by rw [raise_zero]; exact e⟩
theorem Sp.raise {T : Tab} {y : Row} (h : Sp T y) (d : Int) : Sp T (raiseO y (some d)) := fun i v e => by
  obtain ⟨r, hr, c, h1, h2⟩ := h i (v - d) (raise_get.mp e)
  refine ⟨r, hr, c + d, ?_, ?_⟩
  · rw [← raise_add]
    exact below_raise h1
  · rw [← raise_add, raise_get]
    exact h2
theorem Sp.alk {T : Tab} {x y : Row} (h : Sp T x) (k : Alk x y) : Sp T y := by
  obtain ⟨d, rfl⟩ := k
  exact h.raise d
theorem below_len_trans {n : Nat} {x y z : Row} (hx : x.length = n) (hy : y.length = n) (h : belowO x y = true) (k : belowO y z = true) : belowO x z = true := below_trans (by omega) h k
/-- of rows that are made of others -/
theorem Sp.trans {n : Nat} {T U : Tab} {y : Row} (hw : wideO n T) (hy : y.length = n) (h : Sp T y) (k : ∀ r ∈ T, Sp U r) : Sp U y := fun i v e => by
  obtain ⟨r, hr, c, h1, h2⟩ := h i v e
  obtain ⟨u, hu, d, h3, h4⟩ := k r hr i (v - c) (raise_get.mp h2)
  refine ⟨u, hu, d + c, ?_, ?_⟩
  · rw [← raise_add]
    exact below_len_trans hy (by rw [raise_len]; exact hw r hr) h1 (below_raise h3)
  · rw [← raise_add, raise_get]
    exact h4
theorem Sp.to_alk {n : Nat} {T U : Tab} {y : Row} (hw : wideO n T) (hy : y.length = n) (h : Sp T y) (k : ∀ r ∈ T, ∃ u ∈ U, Alk u r) : Sp U y :=
  h.trans hw hy fun r hr => by
    obtain ⟨u, hu, a⟩ := k r hr
    exact (Sp.of_mem hu).alk a
theorem sp_nil {y : Row} : Sp [] y ↔ empO y := by
  constructor
  · intro h e he
    obtain ⟨i, hi⟩ := List.getElem?_of_mem he
    cases e with
    | none => rfl
    | some v =>
      obtain ⟨r, hr, _⟩ := h i v hi
      cases hr
  · intro h i v e
    cases h _ (List.mem_of_getElem? e)
theorem sp_emp {T : Tab} {y : Row} (h : empO y) : Sp T y := (sp_nil.mpr h).mono fun r hr => by cases hr
/-- a row that is made of others, and of rows unlike it that are made of it and the others, is made of the others -/
theorem sp_swap {n : Nat} {O M : Tab} {r : Row} (hO : wideO n O) (hM : wideO n M) (hr : r.length = n) (h : Sp (O ++ M) r) (u : ∀ m ∈ M, ¬ Alk m r) (k : ∀ m ∈ M, Sp (r :: O) m) : Sp O r := fun i v e => by
  obtain ⟨q, hq, c, h1, h2⟩ := h i v e
  rcases List.mem_append.mp hq with hq | hq
  · exact ⟨q, hq, c, h1, h2⟩
  · have hql := hM q hq
    obtain ⟨s, hs, d, h3, h4⟩ := k q hq i (v - c) (raise_get.mp h2)
    rcases List.mem_cons.mp hs with rfl | hs
    · exfalso
      have e1 := raise_get.mp h4
      rw [e] at e1
      have e2 : d = -c := by simp at e1; omega
      subst e2
      refine u q hq ⟨c, ?_⟩
      have h5 := below_raise (c := c) h3
      rw [raise_add, show -c + c = 0 by omega, raise_zero] at h5
      exact below_antisymm (by rw [raise_len]; omega) h5 h1
    · refine ⟨s, hs, d + c, ?_, ?_⟩
      · rw [← raise_add]
        exact below_len_trans hr (by rw [raise_len]; exact hql) h1 (below_raise h3)
      · rw [← raise_add, raise_get]
        exact h4
/-! the few -/
noncomputable def unlO (T : Tab) (r : Row) : Tab := T.filter fun s => !alkB s r
theorem unl_mem {T : Tab} {r s : Row} : s ∈ unlO T r ↔ s ∈ T ∧ ¬ Alk s r := by
  unfold unlO
  rw [List.mem_filter]
  simp [alkB_no]
/-- a row that all others unlike it don't make -/
def Own1 (T : Tab) (r : Row) : Prop := ¬ empO r ∧ ¬ Sp (unlO T r) r
def Kpt (T : Tab) (k : Nat) : Prop := ∃ r, T[k]? = some r ∧ Own1 T r ∧ ∀ (j : Nat) (s : Row), j < k → T[j]? = some s → ¬ Alk s r
noncomputable def kptB (T : Tab) (k : Nat) : Bool := @decide (Kpt T k) (Classical.propDecidable _)
theorem kptB_iff {T : Tab} {k : Nat} : kptB T k = true ↔ Kpt T k := by simp [kptB]
noncomputable def fewO (T : Tab) : List Nat := (List.range T.length).filter (kptB T)
theorem few_mem {T : Tab} {k : Nat} : k ∈ fewO T ↔ Kpt T k := by
  unfold fewO
  rw [List.mem_filter, List.mem_range, kptB_iff]
  constructor
  · exact fun h => h.2
  · intro h
    refine ⟨?_, h⟩
    obtain ⟨r, e, _⟩ := h
    exact (List.getElem?_eq_some_iff.mp e).1
theorem few_rise (T : Tab) : (fewO T).Pairwise (· < ·) := List.Pairwise.filter _ List.pairwise_lt_range
theorem unl_wide {n : Nat} {T : Tab} {r : Row} (hw : wideO n T) : wideO n (unlO T r) := fun s hs => hw s (unl_mem.mp hs).1
theorem own_alk {n : Nat} {T : Tab} {r s : Row} (hw : wideO n T) (h : Own1 T r) (a : Alk r s) (hr : r.length = n) : Own1 T s := by
  refine ⟨fun z => h.1 (a.emp.mpr z), fun z => h.2 ?_⟩
  refine (z.alk a.symm).mono fun q hq => ?_
  rw [unl_mem] at hq ⊢
  exact ⟨hq.1, fun z => hq.2 (z.trans a)⟩
/-- rows alike with these in another order -/
theorem own_other {n : Nat} {T U : Tab} {r : Row} (hw : wideO n T) (hU : wideO n U) (hr : r.length = n) (h : Own1 T r) (k : ∀ u ∈ U, ∃ t ∈ T, Alk t u) : Own1 U r := by
  refine ⟨h.1, fun z => h.2 ?_⟩
  refine z.to_alk (unl_wide hU) hr fun u hu => ?_
  rw [unl_mem] at hu
  obtain ⟨t, ht, a⟩ := k u hu.1
  exact ⟨t, unl_mem.mpr ⟨ht, fun z => hu.2 (a.symm.trans z)⟩, a⟩
/-- with rows behind that are made of these -/
theorem own_more {n : Nat} {T M : Tab} {r : Row} (hw : wideO n T) (hM : wideO n M) (hr : r.length = n) (k : ∀ m ∈ M, Sp T m) : Own1 T r → Own1 (T ++ M) r := fun h => by
  refine ⟨h.1, fun z => h.2 ?_⟩
  refine sp_swap (M := M.filter fun s => !alkB s r) (unl_wide hw) (fun m hm => hM m (List.mem_filter.mp hm).1) hr ?_ (fun m hm => ?_) fun m hm => ?_
  · refine z.mono fun s hs => ?_
    rw [unl_mem] at hs
    rcases List.mem_append.mp hs.1 with h1 | h1
    · exact List.mem_append_left _ (unl_mem.mpr ⟨h1, hs.2⟩)
    · exact List.mem_append_right _ (List.mem_filter.mpr ⟨h1, by simp [alkB_no.mpr hs.2]⟩)
  · have := (List.mem_filter.mp hm).2
    simpa [alkB_no] using this
  · have hm := (List.mem_filter.mp hm).1
    refine (k m hm).to_alk hw (hM m hm) fun t ht => ?_
    by_cases a : Alk t r
    · exact ⟨r, .head _, a.symm⟩
    · exact ⟨t, .tail _ (unl_mem.mpr ⟨ht, a⟩), .refl t⟩
theorem own_less {T M : Tab} {r : Row} (h : Own1 (T ++ M) r) : Own1 T r := ⟨h.1, fun z => h.2 (z.mono fun s hs => by
  rw [unl_mem] at hs ⊢
  exact ⟨List.mem_append_left _ hs.1, hs.2⟩)⟩
theorem first_at {p : Nat → Prop} {n : Nat} (h : p n) : ∃ m, m ≤ n ∧ p m ∧ ∀ j < m, ¬ p j := by
  induction n using Nat.strongRecOn with
  | _ n ih =>
    by_cases q : ∃ j, j < n ∧ p j
    · obtain ⟨j, hj, pj⟩ := q
      obtain ⟨m, h1, h2⟩ := ih j hj pj
      exact ⟨m, by omega, h2⟩
    · exact ⟨n, Nat.le_refl _, h, fun j hj pj => q ⟨j, hj, pj⟩⟩
/-- each own row's first alike one is kept -/
theorem own_kept {n : Nat} {T : Tab} {r : Row} (hw : wideO n T) (hr : r ∈ T) (h : Own1 T r) : ∃ (k : Nat) (s : Row), Kpt T k ∧ T[k]? = some s ∧ Alk s r := by
  obtain ⟨i, hi⟩ := List.getElem?_of_mem hr
  obtain ⟨m, h1, ⟨s, h2, h3⟩, h4⟩ := first_at (p := fun j => ∃ s, T[j]? = some s ∧ Alk s r) ⟨r, hi, .refl r⟩
  exact ⟨m, s, ⟨s, h2, own_alk hw h h3.symm (hw r hr), fun j q hj e a => h4 j hj ⟨q, e, a.trans h3⟩⟩, h2, h3⟩
theorem kept_unl {T : Tab} {j k : Nat} {r s : Row} (hj : Kpt T j) (hk : Kpt T k) (ej : T[j]? = some r) (ek : T[k]? = some s) (a : Alk r s) : j = k := by
  obtain ⟨r', e1, _, f1⟩ := hj
  obtain ⟨s', e2, _, f2⟩ := hk
  rw [ej] at e1
  rw [ek] at e2
  cases e1
  cases e2
  rcases Nat.lt_trichotomy j k with h | h | h
  · exact absurd a (f2 j r h ej)
  · exact h
  · exact absurd a.symm (f1 k s h ek)
/-- as many, where each is alike with one of the others -/
theorem alk_count : ∀ {L M : Tab}, L.Pairwise (fun a b => ¬ Alk a b) → (∀ x ∈ L, ∃ y ∈ M, Alk x y) → L.length ≤ M.length
  | [], M, _, _ => Nat.zero_le _
  | x :: L, M, h, k => by
    obtain ⟨y, hy, a⟩ := k x (.head _)
    rw [List.pairwise_cons] at h
    have := alk_count (L := L) (M := M.erase y) h.2 fun z hz => by
      obtain ⟨w, hw, b⟩ := k z (.tail _ hz)
      by_cases e : w = y
      · subst e
        exact absurd (a.trans b.symm) (h.1 z hz)
      · exact ⟨w, (List.mem_erase_of_ne e).mpr hw, b⟩
    rw [List.length_erase_of_mem hy] at this
    have : 0 < M.length := List.length_pos_of_mem hy
    simp
    omega
end Lt
namespace Lt
open PySem L2
theorem Rws.pairs {ds : List D} {T : Tab} (h : Rws ds T) : ∃ P : List (D × Row), ds = P.map (·.1) ∧ T = P.map (·.2) ∧ ∀ p ∈ P, Rw p.1 p.2 := by
  induction h with
  | nil => exact ⟨[], rfl, rfl, fun p h => absurd h List.not_mem_nil⟩
  | @cons d xs ds xss h t ih =>
    obtain ⟨P, rfl, rfl, k⟩ := ih
    exact ⟨(d, xs) :: P, rfl, rfl, fun p hp => (List.mem_cons.mp hp).elim (fun e => by rw [e]; exact h) (k p)⟩
theorem Rws.of_pairs : ∀ {P : List (D × Row)}, (∀ p ∈ P, Rw p.1 p.2) → Rws (P.map (·.1)) (P.map (·.2))
  | [], _ => .nil
  | p :: P, h => .cons (h p (.head _)) (Rws.of_pairs fun q hq => h q (.tail _ hq))
theorem Rws.take {ds : List D} {T : Tab} (h : Rws ds T) : ∀ k : Nat, Rws (ds.take k) (T.take k) := by
  induction h with
  | nil => intro k; simp; exact .nil
  | cons h t ih =>
    intro k
    cases k with
    | zero => exact .nil
    | succ k => exact .cons h (ih k)
theorem Rws.drop {ds : List D} {T : Tab} (h : Rws ds T) : ∀ k : Nat, Rws (ds.drop k) (T.drop k) := by
  induction h with
  | nil => intro k; simp; exact .nil
  | cons h t ih =>
    intro k
    cases k with
    | zero => exact .cons h t
    | succ k => exact ih k
/-- rows walked, some of them taken -/
theorem OQ_rwsF {gd : D → Dn → Option Dn} {t : Di Bool} {e : Di D} {η : Dn} {g : G} {Q : List D × G → Prop} {ds : List D} {T : Tab} (c : Row → Bool) (r : Rws ds T) (h : ∀ d xs, Rw d xs → xs ∈ T → OQ (gd d η) fun η1 => t η1 g = .ok (c xs) g ∧ e η1 g = .ok d g) (q : ∀ es, Rws es (T.filter c) → es.length ≤ ds.length → Q (es, g)) : OQ (lcD gd t e η ds g) Q := by
  obtain ⟨P, rfl, rfl, k⟩ := r.pairs
  refine OQ_of (u := fun p : D × Row => p.1) (fun p => c p.2) (fun p => p.1) (fun p hp => ?_) ?_
  · refine (h p.1 p.2 (k p hp) (List.mem_map.mpr ⟨p, hp, rfl⟩)).mono fun η1 ⟨a, b⟩ => ⟨a, fun _ => b⟩
  · refine q _ ?_ (by simpa using List.length_filter_le _ _)
    have := Rws.of_pairs (P := P.filter fun p => c p.2) fun p hp => k p (List.mem_filter.mp hp).1
    rwa [show ((P.map (·.2)).filter c) = (P.filter fun p => c p.2).map (·.2) from by rw [List.filter_map]; rfl]
@[simp] theorem cutD_take (ds : List D) (k : Nat) : cutD ds none (some (k : Int)) = ds.take k := by
  have e1 : HT.sIx ds.length 0 none = 0 := rfl
  have e2 : HT.sIx ds.length ds.length (some (k : Int)) = min k ds.length := by
    unfold HT.sIx
    simp
    intro h
    omega
  unfold cutD
  rw [e1, e2, List.drop_zero, Nat.sub_zero]
  by_cases h : k ≤ ds.length
  · rw [Nat.min_eq_left h]
  · rw [Nat.min_eq_right (by omega), List.take_of_length_le (Nat.le_refl _), List.take_of_length_le (by omega)]
theorem sliceT_seq {t : D} {ds : List D} (h : t.seq = some ds) (lo hi : Option Int) : ∃ t', sliceT t lo hi = some t' ∧ t'.seq = some (cutD ds lo hi) := by
  cases t <;> simp only [D.seq] at h <;> cases h
  · exact ⟨_, rfl, rfl⟩
  · exact ⟨_, rfl, rfl⟩
theorem pyD_rw {d : D} {xs : Row} (h : Rw d xs) (n : Nat) : ∃ p, pyD (n + 1) d = some p ∧ PyData.canLay0 p = true ∧ PyData.depth p = 1 := by
  obtain ⟨a, b⟩ := lay_pyE xs
  have h := h.seq
  cases d <;> simp only [D.seq] at h <;> cases h
  · exact ⟨.tuple (xs.map pyE), by simp only [pyD, pyL_eD, Option.map], by simp [PyData.canLay0, a], by simp [PyData.depth, b]⟩
  · exact ⟨.list (xs.map pyE), by simp only [pyD, pyL_eD, Option.map], by simp [PyData.canLay0, a], by simp [PyData.depth, b]⟩
theorem eqT_rws_nil {ds : List D} {T : Tab} (h : Rws ds T) : eqT (.lst ds) (.lst []) = some (decide (T = [])) := by
  have e : ∃ ps, pyL (pyD 7) ds = some ps ∧ PyData.canLayAll0 ps = true ∧ PyData.depthAll ps ≤ 1 ∧ (ps = [] ↔ T = []) := by
    induction h with
    | nil => exact ⟨[], rfl, rfl, Nat.zero_le _, by simp⟩
    | cons h t ih =>
      obtain ⟨ps, h1, h2, h3, h4⟩ := ih
      obtain ⟨p, k1, k2, k3⟩ := pyD_rw h 6
      refine ⟨p :: ps, by simp only [pyL, k1, h1], by simp [PyData.canLayAll0, k2, h2], by simp [PyData.depthAll, k3]; omega, by simp⟩
  obtain ⟨ps, h1, h2, h3, h4⟩ := e
  unfold eqT
  simp only [pyD, h1, Option.map, pyL]
  rw [if_pos ⟨by unfold SeqAt.shaped; simp [PyData.canLay0, PyData.depth, h2]; omega, by decide⟩]
  cases ps with
  | nil => simp [PyData.eqv, PyData.eqvAll, h4.mp rfl]
  | cons p ps =>
    have : T ≠ [] := fun z => by cases h4.mpr z
    simp [PyData.eqv, PyData.eqvAll, this]
end Lt
namespace Lt
open PySem L2
/-! ### while -/
theorem PS.ne {r : SD} {Dp : Pd} (h : PS r Dp) : r ≠ .no := fun z => by rw [z] at h; exact h
theorem dWhileN_more (c : Di Bool) (b : Ds) : ∀ (n : Nat) (η : Dn) (g : G), dWhileN c b n η g ≠ .no → dWhileN c b (n + 1) η g = dWhileN c b n η g
  | 0, η, g, h => absurd rfl h
  | n + 1, η, g, h => by
    simp only [dWhileN] at h ⊢
    cases e1 : c η g with
    | no => rfl
    | ex x g1 => rfl
    | ok k g1 =>
      rw [e1] at h
      cases k with
      | false => rfl
      | true =>
        simp only [Rd.bindS, if_true] at h ⊢
        cases e2 : b η g1 with
        | nx η2 g2 =>
          rw [e2] at h
          exact dWhileN_more c b n η2 g2 h
        | ct η2 g2 =>
          rw [e2] at h
          exact dWhileN_more c b n η2 g2 h
        | _ => rfl
theorem dWhileN_le (c : Di Bool) (b : Ds) {n m : Nat} {η : Dn} {g : G} (h : dWhileN c b n η g ≠ .no) (hm : n ≤ m) : dWhileN c b m η g = dWhileN c b n η g := by
  induction hm with
  | refl => rfl
  | @step m hm ih => rw [dWhileN_more c b m η g (by rw [ih]; exact h), ih]
theorem dWhile_is {c : Di Bool} {b : Ds} {n : Nat} {η : Dn} {g : G} {Dp : Pd} (h : PS (dWhileN c b n η g) Dp) : PS (dWhile c b η g) Dp := by
  have ex : ∃ n, dWhileN c b n η g ≠ .no := ⟨n, h.ne⟩
  unfold dWhile
  rw [dif_pos ex]
  have e : dWhileN c b ex.choose η g = dWhileN c b n η g := by
    rcases Nat.le_total ex.choose n with hl | hl
    · exact (dWhileN_le c b ex.choose_spec hl).symm
    · exact dWhileN_le c b h.ne hl
  rw [e]
  exact h
/-- by a measure that goes down -/
theorem while_pw {c : Di Bool} {b : Ds} {Dp : Pd} (P : Nat → Dn → G → Prop)
    (step : ∀ m η g, P m η g → PW (c η g) (fun k g1 => if k = true then PS (b η g1) { nx := fun η' g' => ∃ m', m' < m ∧ P m' η' g', ct := fun η' g' => ∃ m', m' < m ∧ P m' η' g', bk := Dp.nx, rt := Dp.rt, ex := Dp.ex } else Dp.nx η g1) Dp.ex) {m : Nat} {η : Dn} {g : G} (h0 : P m η g) : PS (dWhile c b η g) Dp := by
  suffices h : ∀ m η g, P m η g → PS (dWhileN c b (m + 1) η g) Dp from dWhile_is (h m η g h0)
  intro m
  induction m using Nat.strongRecOn with
  | _ m ih =>
    intro η g hp
    have h1 := step m η g hp
    simp only [dWhileN]
    cases e1 : c η g with
    | no => rw [e1] at h1; exact h1.elim
    | ex x g1 => rw [e1] at h1; exact h1
    | ok k g1 =>
      rw [e1] at h1
      simp only [PW_ok] at h1
      cases k with
      | false => simpa [Rd.bindS] using h1
      | true =>
        simp only [if_true] at h1
        simp only [Rd.bindS, if_true]
        have go : ∀ η2 g2, (∃ m', m' < m ∧ P m' η2 g2) → PS (dWhileN c b m η2 g2) Dp := fun η2 g2 ⟨m', hl, p⟩ => by
          have q := ih m' hl η2 g2 p
          rw [dWhileN_le c b q.ne (by omega)]
          exact q
        cases e2 : b η g1 with
        | nx η2 g2 => rw [e2] at h1; exact go η2 g2 h1
        | ct η2 g2 => rw [e2] at h1; exact go η2 g2 h1
        | bk η2 g2 => rw [e2] at h1; exact h1
        | rt v g2 => rw [e2] at h1; exact h1
        | ex x g2 => rw [e2] at h1; exact h1
        | no => rw [e2] at h1; exact h1.elim
/-! writes on own lists -/
@[simp] def qPopAt (i j : Nat) (η : Dn) (Dp : Pd) (x : D) (g : G) : Prop := match x with
  | .int a => (match η[i]? with
    | some (some (.lst ds)) => -1000000 ≤ a ∧ a ≤ 1000000 ∧ OQ (ixN ds.length a) fun k => (match ds[k]? with
      | some d => Dp.nx ((η.set i (some (.lst (ds.eraseIdx k)))).set j (some d)) g
      | none => False)
    | _ => False)
  | _ => False
@[simp] theorem PS_dPopAt {i j : Nat} {f : Di D} {η : Dn} {g : G} {Dp : Pd} : PS (dPopAt i j f η g) Dp = PW (f η g) (qPopAt i j η Dp) eF := by
  unfold dPopAt
  cases f η g with
  | no => rfl
  | ex e g1 => rfl
  | ok x g1 =>
    cases x <;> try rfl
    rename_i a
    simp only [PW_ok, qPopAt]
    by_cases hb : -1000000 ≤ a ∧ a ≤ 1000000
    · rw [if_pos hb]
      cases η[i]? with
      | none => rfl
      | some o =>
        cases o with
        | none => rfl
        | some d =>
          cases d <;> try rfl
          rename_i ds
          simp only [hb.1, hb.2, true_and]
          cases ixN ds.length a with
          | none => rfl
          | some k =>
            simp only [OQ_some]
            cases ds[k]? <;> rfl
    · rw [if_neg hb]
      simp only [PS_no, eq_iff_iff, false_iff]
      intro h
      split at h
      · exact hb ⟨h.1, h.2.1⟩
      · exact h
end Lt
namespace Lt
open PySem L2
def keptO (T : Tab) (ks : List Nat) : Tab := ks.map fun k => T.getD k []
theorem getD_of {T : Tab} {k : Nat} {r : Row} (h : T[k]? = some r) : T.getD k [] = r := by rw [List.getD_eq_getElem?_getD, h]; rfl
theorem kept_at {T : Tab} {j : Nat} {r : Row} (h : (keptO T (fewO T))[j]? = some r) : ∃ k, (fewO T)[j]? = some k ∧ T[k]? = some r ∧ Kpt T k := by
  unfold keptO at h
  rw [List.getElem?_map, Option.map_eq_some_iff] at h
  obtain ⟨k, h1, h2⟩ := h
  have hk := few_mem.mp (List.mem_of_getElem? h1)
  obtain ⟨s, e, _⟩ := id hk
  rw [getD_of e] at h2
  subst h2
  exact ⟨k, h1, e, hk⟩
theorem kept_in {T : Tab} {k : Nat} {r : Row} (h : Kpt T k) (e : T[k]? = some r) : r ∈ keptO T (fewO T) := List.mem_map.mpr ⟨k, few_mem.mpr h, getD_of e⟩
theorem kept_mem {T : Tab} {r : Row} (h : r ∈ keptO T (fewO T)) : ∃ k, T[k]? = some r ∧ Kpt T k := by
  obtain ⟨j, hj⟩ := List.getElem?_of_mem h
  obtain ⟨k, _, h2, h3⟩ := kept_at hj
  exact ⟨k, h2, h3⟩
theorem kept_sub {T : Tab} {r : Row} (h : r ∈ keptO T (fewO T)) : r ∈ T := by
  obtain ⟨k, e, _⟩ := kept_mem h
  exact List.mem_of_getElem? e
theorem kept_own {T : Tab} {r : Row} (h : r ∈ keptO T (fewO T)) : Own1 T r := by
  obtain ⟨k, e, r', e', o, _⟩ := kept_mem h
  rw [e] at e'
  cases e'
  exact o
theorem kept_pair (T : Tab) : (keptO T (fewO T)).Pairwise fun a b => ¬ Alk a b := by
  rw [List.pairwise_iff_getElem]
  intro i j hi hj hij a
  obtain ⟨k, h1, h2, h3⟩ := kept_at (List.getElem?_eq_getElem hi)
  obtain ⟨l, k1, k2, k3⟩ := kept_at (List.getElem?_eq_getElem hj)
  have e := kept_unl h3 k3 h2 k2 a
  have hp := List.pairwise_iff_getElem.mp (few_rise T) i j (List.getElem?_eq_some_iff.mp h1).1 (List.getElem?_eq_some_iff.mp k1).1 hij
  rw [(List.getElem?_eq_some_iff.mp h1).2, (List.getElem?_eq_some_iff.mp k1).2] at hp
  omega
/-- of the kept rows alone all are kept -/
theorem few_kept (T : Tab) : fewO (keptO T (fewO T)) = List.range (keptO T (fewO T)).length := by
  conv => lhs; unfold fewO
  refine List.filter_eq_self.mpr fun k hk => kptB_iff.mpr ?_
  rw [List.mem_range] at hk
  have e := List.getElem?_eq_getElem hk
  have hm := List.getElem_mem hk
  obtain ⟨h1, h2⟩ := kept_own hm
  refine ⟨_, e, ⟨h1, fun z => h2 (z.mono fun s hs => ?_)⟩, fun j s hj es a => ?_⟩
  · rw [unl_mem] at hs ⊢
    exact ⟨kept_sub hs.1, hs.2⟩
  · have hjl := (List.getElem?_eq_some_iff.mp es)
    obtain ⟨hjl, rfl⟩ := hjl
    exact List.pairwise_iff_getElem.mp (kept_pair T) j k hjl hk hj a
theorem kept_other {n : Nat} {T U : Tab} (hT : wideO n T) (hU : wideO n U) (h1 : ∀ u ∈ U, ∃ t ∈ T, Alk t u) (h2 : ∀ t ∈ T, ∃ u ∈ U, Alk t u) {r : Row} (hr : r ∈ keptO T (fewO T)) : ∃ s ∈ keptO U (fewO U), Alk r s := by
  have ho := kept_own hr
  have hm := kept_sub hr
  obtain ⟨u, hu, a⟩ := h2 r hm
  obtain ⟨k, s, k1, k2, k3⟩ := own_kept hU hu (own_alk hU (own_other hT hU (hT r hm) ho h1) a (hT r hm))
  exact ⟨s, kept_in k1 k2, a.trans k3.symm⟩
theorem keptO_len (T : Tab) : (keptO T (fewO T)).length = (fewO T).length := by simp [keptO]
theorem few_same {n : Nat} {T U : Tab} (hT : wideO n T) (hU : wideO n U) (h1 : ∀ u ∈ U, ∃ t ∈ T, Alk t u) (h2 : ∀ t ∈ T, ∃ u ∈ U, Alk t u) : (fewO U).length = (fewO T).length := by
  rw [← keptO_len, ← keptO_len]
  refine Nat.le_antisymm (alk_count (kept_pair U) fun x hx => ?_) (alk_count (kept_pair T) fun x hx => kept_other hT hU h1 h2 hx)
  refine kept_other hU hT (fun t ht => ?_) (fun u hu => ?_) hx
  · obtain ⟨u, hu, a⟩ := h2 t ht
    exact ⟨u, hu, a.symm⟩
  · obtain ⟨t, ht, a⟩ := h1 u hu
    exact ⟨t, ht, a.symm⟩
theorem one_alk : ∀ {L : Tab} {u : Row}, L.Pairwise (fun a b => ¬ Alk a b) → (∃ x ∈ L, Alk x u) → (L.filter fun x => alkB x u).length = 1
  | [], u, _, ⟨x, hx, _⟩ => by cases hx
  | x :: L, u, h, ⟨y, hy, a⟩ => by
    rw [List.pairwise_cons] at h
    by_cases q : Alk x u
    · rw [List.filter_cons, if_pos (alkB_iff.mpr q)]
      have : L.filter (fun x => alkB x u) = [] := by
        rw [List.filter_eq_nil_iff]
        intro z hz hb
        exact h.1 z hz (q.trans (alkB_iff.mp hb).symm)
      rw [this]
      rfl
    · rw [List.filter_cons, if_neg (by rw [alkB_iff]; exact q)]
      refine one_alk h.2 ⟨y, ?_, a⟩
      rcases List.mem_cons.mp hy with rfl | hy
      · exact absurd a q
      · exact hy
theorem rise_ext {xs ys : List Nat} (hx : xs.Pairwise (· < ·)) (hy : ys.Pairwise (· < ·)) (h : ∀ k, k ∈ xs ↔ k ∈ ys) : xs = ys :=
  List.Perm.eq_of_pairwise (le := (· < ·)) (fun a b _ _ h1 h2 => by omega) hx hy ((List.perm_ext_iff_of_nodup (hx.imp fun h => by omega) (hy.imp fun h => by omega)).mpr h)
/-- rows behind that are made of these change nothing -/
theorem few_more {n : Nat} {T M : Tab} (hT : wideO n T) (hM : wideO n M) (h : ∀ m ∈ M, Sp T m) : fewO (T ++ M) = fewO T := by
  refine rise_ext (few_rise _) (few_rise _) fun k => ?_
  rw [few_mem, few_mem]
  constructor
  · rintro ⟨r, e, o, f⟩
    by_cases hk : k < T.length
    · rw [List.getElem?_append_left hk] at e
      exact ⟨r, e, own_less o, fun j s hj es => f j s hj (by rw [List.getElem?_append_left (by omega)]; exact es)⟩
    · rw [List.getElem?_append_right (by omega)] at e
      have hm := List.mem_of_getElem? e
      refine absurd ((h r hm).mono fun t ht => ?_) o.2
      refine unl_mem.mpr ⟨List.mem_append_left _ ht, fun a => ?_⟩
      obtain ⟨j, hj⟩ := List.getElem?_of_mem ht
      have hjl := (List.getElem?_eq_some_iff.mp hj).1
      exact f j t (by omega) (by rw [List.getElem?_append_left hjl]; exact hj) a
  · rintro ⟨r, e, o, f⟩
    have hk := (List.getElem?_eq_some_iff.mp e).1
    refine ⟨r, by rw [List.getElem?_append_left hk]; exact e, own_more hT hM (hT r (List.mem_of_getElem? e)) h o, fun j s hj es => f j s hj ?_⟩
    rw [List.getElem?_append_left (by omega)] at es
    exact es
def kD (ks : List Nat) : D := .lst (ks.map fun (k : Nat) => D.int (k : Int))
theorem kD_fold (ks : List Nat) : D.lst (ks.map fun (k : Nat) => D.int (k : Int)) = kD ks := rfl
@[simp] theorem kD_seq (ks : List Nat) : (kD ks).seq = some (ks.map fun (k : Nat) => D.int (k : Int)) := rfl
@[simp] theorem kD_len (ks : List Nat) : lenT (kD ks) = some (.int ks.length) := by simp [kD]
theorem kD_dn {ks : List Nat} (h : ks.length ≤ 1000000) : DN 8 (kD ks) := .lst (by simp; omega) fun d hd => by
  obtain ⟨k, _, rfl⟩ := List.mem_map.mp hd
  exact .int _ _
theorem kD_sort {ks : List Nat} (h : ks.Pairwise (· < ·)) (hl : ks.length ≤ 60) : sortSetL (kD ks) = some (ks.map fun (k : Nat) => D.int (k : Int)) := by
  have e : kD ks = .lst ((ks.map Int.ofNat).map D.int) := by unfold kD; rw [List.map_map]; rfl
  rw [e, sortSetL_ints, if_pos (by simpa using hl), uniqI_self]
  · rw [List.map_map]
    rfl
  · rw [List.pairwise_map]
    exact h.imp fun h => by simp; omega
theorem few_len (T : Tab) : (fewO T).length ≤ T.length := by
  unfold fewO
  exact Nat.le_trans (List.length_filter_le _ _) (by simp)
end Lt
namespace Lw
open PySem PySem.Spec PyProof.Rows L2 Lt
def topS (i : Nat) : Stmt := PySem.Challenge.pw_leasttables_k33_few_again.main.body.getD i (.Pass ⟨0, 0, 0, 0⟩)
structure Bt (mg : Str → Option Value) : Prop where
  b_all : mg "all" = none
  b_any : mg "any" = none
  b_bool : mg "bool" = none
  b_divmod : mg "divmod" = none
  b_int : mg "int" = none
  b_isinstance : mg "isinstance" = none
  b_len : mg "len" = none
  b_list : mg "list" = none
  b_min : mg "min" = none
  b_range : mg "range" = none
  b_set : mg "set" = none
  b_sorted : mg "sorted" = none
  b_str : mg "str" = none
  b_tuple : mg "tuple" = none
  b_zip : mg "zip" = none
section
variable {P : Program} {w : World} {K : PySem.W.Frag} {mg : Str → Option Value} {base : Heap}
/-! lesser -/
abbrev s_lesser : Stmt := topS 1
theorem sc_lesser : FnScope ["one", "other"] ["one", "other"] (defScope s_lesser) := ⟨rfl, rfl, rfl, by decide +kernel, rfl, by decide +kernel, by decide +kernel⟩
noncomputable def b_lesser : Ms :=
    (mSeq (mIfS (mOr (m1 asB (m2 isV (mVar 0) (mC .non))) (mAnd (m1 asB (m2 isnotV (mVar 1) (mC .non))) (m1 asB (m2 ltV (mVar 1) (mVar 0)))))
    (mRet (mVar 1))
    mSkip)
    (mRet (mVar 0)))
noncomputable def py_lesser : List PV → HS → R PV := mDef 2 0 b_lesser
theorem ok_lesser {k : Nat} {f : Addr} {fd : FuncData} (F : Fun K "lesser" "lesser" s_lesser f fd) (hb : Binds K fd ["one", "other"] []) (hg : mg "lesser" = some (.ref f)) (B : Bt mg) : FnAt P w K mg base (k + 1) "lesser" py_lesser :=
  have nd := sc_lesser.nd
  fn_def (b := b_lesser) F sc_lesser hb hg fun cdv A outer s H E hr tk hp =>
    (sm_cons (sm_if (tm_w (wm_or (tm_cmp o_is (em_var (i := 0)) em_non) (wm_or1 (tm_w (wm_and (tm_cmp o_isnot (em_var (i := 1)) em_non) (wm_and1 (tm_cmp o_lt (em_var (i := 1)) (em_var (i := 0)))))))))
    (sm_one (sm_ret (em_var (i := 1))))
    sm_nil)
    (sm_one (sm_ret (em_var (i := 0)))))
/-! summed -/
abbrev s_summed : Stmt := topS 2
theorem sc_summed : FnScope ["one", "other"] ["one", "other"] (defScope s_summed) := ⟨rfl, rfl, rfl, by decide +kernel, rfl, by decide +kernel, by decide +kernel⟩
noncomputable def b_summed : Ms :=
    (mSeq (mIfS (mOr (m1 asB (m2 isV (mVar 0) (mC .non))) (m1 asB (m2 isV (mVar 1) (mC .non))))
    (mRet (mC .non))
    mSkip)
    (mRet (m2 addV (mVar 0) (mVar 1))))
noncomputable def py_summed : List PV → HS → R PV := mDef 2 0 b_summed
theorem ok_summed {k : Nat} {f : Addr} {fd : FuncData} (F : Fun K "summed" "summed" s_summed f fd) (hb : Binds K fd ["one", "other"] []) (hg : mg "summed" = some (.ref f)) (B : Bt mg) : FnAt P w K mg base (k + 1) "summed" py_summed :=
  have nd := sc_summed.nd
  fn_def (b := b_summed) F sc_summed hb hg fun cdv A outer s H E hr tk hp =>
    (sm_cons (sm_if (tm_w (wm_or (tm_cmp o_is (em_var (i := 0)) em_non) (wm_or1 (tm_cmp o_is (em_var (i := 1)) em_non))))
    (sm_one (sm_ret em_non))
    sm_nil)
    (sm_one (sm_ret (em_op o_add (em_var (i := 0)) (em_var (i := 1))))))
/-! both -/
abbrev s_both : Stmt := topS 4
theorem sc_both : FnScope ["row", "other", "one", "more"] ["row", "other"] (defScope s_both) := ⟨rfl, rfl, rfl, by decide +kernel, rfl, by decide +kernel, by decide +kernel⟩
noncomputable def b_both : Ms :=
    (mRet (mLc (m1 zipS (mCons (mVar 0) (mCons (mVar 1) mNil))) [2, 3] (gTp 2 (gC (gNm 2) (gC (gNm 3) gN0))) mYes (m1 py_lesser (mCons (mVar 2) (mCons (mVar 3) mNil)))))
noncomputable def py_both : List PV → HS → R PV := mDef 2 2 b_both
theorem ok_both {k : Nat} {f : Addr} {fd : FuncData} (F : Fun K "both" "both" s_both f fd) (hb : Binds K fd ["row", "other"] []) (hg : mg "both" = some (.ref f)) (B : Bt mg) (G_lesser : FnAt P w K mg base k "lesser" py_lesser) : FnAt P w K mg base (k + 1) "both" py_both :=
  have nd := sc_both.nd
  fn_def (b := b_both) F sc_both hb hg fun cdv A outer s H E hr tk hp =>
    (sm_one (sm_ret (em_lc (own := [("one", 2), ("more", 3)]) nd (im_zip B.b_zip (am_cons (em_var (i := 0)) (am_cons (em_var (i := 1)) am_nil))) (by kernel_rfl) (fun _ _ _ _ _ => (gm_tup (gm_cons (gm_name (i := 2) nd) (gm_cons (gm_name (i := 3) nd) gm_nil)))) (fun _ _ _ _ _ => tsm_nil) (fun _ _ _ _ _ => (em_call takes0 hr G_lesser (am_cons (em_var (i := 2)) (am_cons (em_var (i := 3)) am_nil)))) (by decide))))
/-! raised -/
abbrev s_raised : Stmt := topS 5
theorem sc_raised : FnScope ["row", "entry", "one"] ["row", "entry"] (defScope s_raised) := ⟨rfl, rfl, rfl, by decide +kernel, rfl, by decide +kernel, by decide +kernel⟩
noncomputable def b_raised : Ms :=
    (mRet (mLc (m1 srcOf (mVar 0)) [2] (gNm 2) mYes (m1 py_summed (mCons (mVar 2) (mCons (mVar 1) mNil)))))
noncomputable def py_raised : List PV → HS → R PV := mDef 2 1 b_raised
theorem ok_raised {k : Nat} {f : Addr} {fd : FuncData} (F : Fun K "raised" "raised" s_raised f fd) (hb : Binds K fd ["row", "entry"] []) (hg : mg "raised" = some (.ref f)) (B : Bt mg) (G_summed : FnAt P w K mg base k "summed" py_summed) : FnAt P w K mg base (k + 1) "raised" py_raised :=
  have nd := sc_raised.nd
  fn_def (b := b_raised) F sc_raised hb hg fun cdv A outer s H E hr tk hp =>
    (sm_one (sm_ret (em_lc (own := [("one", 2)]) nd (im_seq (em_var (i := 0))) (by kernel_rfl) (fun _ _ _ _ _ => (gm_name (i := 2) nd)) (fun _ _ _ _ _ => tsm_nil) (fun _ _ _ _ _ => (em_call takes0 hr G_summed (am_cons (em_var (i := 2)) (am_cons (em_var (i := 1)) am_nil)))) (by decide))))
/-! is_empty -/
abbrev s_is_empty : Stmt := topS 7
theorem sc_is_empty : FnScope ["row", "entry"] ["row"] (defScope s_is_empty) := ⟨rfl, rfl, rfl, by decide +kernel, rfl, by decide +kernel, by decide +kernel⟩
noncomputable def b_is_empty : Ms :=
    (mRet (m1 (c1 allV) (mCons (mLc (m1 srcOf (mVar 0)) [1] (gNm 1) mYes (m2 isV (mVar 1) (mC .non))) mNil)))
noncomputable def py_is_empty : List PV → HS → R PV := mDef 1 1 b_is_empty
theorem ok_is_empty {k : Nat} {f : Addr} {fd : FuncData} (F : Fun K "is_empty" "is_empty" s_is_empty f fd) (hb : Binds K fd ["row"] []) (hg : mg "is_empty" = some (.ref f)) (B : Bt mg) : FnAt P w K mg base (k + 1) "is_empty" py_is_empty :=
  have nd := sc_is_empty.nd
  fn_def (b := b_is_empty) F sc_is_empty hb hg fun cdv A outer s H E hr tk hp =>
    (sm_one (sm_ret (em_callB Lt.b_all B.b_all (by decide +kernel) (am_cons (em_lc (own := [("entry", 1)]) nd (im_seq (em_var (i := 0))) (by kernel_rfl) (fun _ _ _ _ _ => (gm_name (i := 1) nd)) (fun _ _ _ _ _ => tsm_nil) (fun _ _ _ _ _ => (em_cmp o_is (em_var (i := 1)) em_non)) (by decide)) am_nil))))
/-! made -/
abbrev s_made : Stmt := topS 8
theorem sc_made : FnScope ["rows", "adds", "found", "row", "entry"] ["rows", "adds"] (defScope s_made) := ⟨rfl, rfl, rfl, by decide +kernel, rfl, by decide +kernel, by decide +kernel⟩
noncomputable def b_made : Ms :=
    (mSeq (mAsg (m2 mulV (m1 dLst (mCons (mC .non) mNil)) (m1 (c1 lenV) (mCons (m2 getV (mVar 0) (mC (.int 0))) mNil))) (gNm 2))
    (mSeq (mFor (m1 zipS (mCons (mVar 0) (mCons (mVar 1) mNil))) (gTp 2 (gC (gNm 3) (gC (gNm 4) gN0)))
    (mAsg (m1 py_both (mCons (mVar 2) (mCons (m1 py_raised (mCons (mVar 3) (mCons (mVar 4) mNil))) mNil))) (gNm 2)))
    (mRet (mVar 2))))
noncomputable def py_made : List PV → HS → R PV := mDef 2 3 b_made
theorem ok_made {k : Nat} {f : Addr} {fd : FuncData} (F : Fun K "made" "made" s_made f fd) (hb : Binds K fd ["rows", "adds"] []) (hg : mg "made" = some (.ref f)) (B : Bt mg) (G_both : FnAt P w K mg base k "both" py_both) (G_raised : FnAt P w K mg base k "raised" py_raised) : FnAt P w K mg base (k + 1) "made" py_made :=
  have nd := sc_made.nd
  fn_def (b := b_made) F sc_made hb hg fun cdv A outer s H E hr tk hp =>
    (sm_cons (sm_set (i := 2) nd (em_op o_mul (em_lst (am_cons em_non am_nil)) (em_callB Lt.b_len B.b_len (by decide +kernel) (am_cons (em_ix (hu_of hr) (em_var (i := 0)) em_int) am_nil))))
    (sm_cons (sm_for hp (im_zip B.b_zip (am_cons (em_var (i := 0)) (am_cons (em_var (i := 1)) am_nil))) (gm_tup (gm_cons (gm_name (i := 3) nd) (gm_cons (gm_name (i := 4) nd) gm_nil)))
    (sm_one (sm_set (i := 2) nd (em_call tk hr G_both (am_cons (em_var (i := 2)) (am_cons (em_call tk hr G_raised (am_cons (em_var (i := 3)) (am_cons (em_var (i := 4)) am_nil))) am_nil))))))
    (sm_one (sm_ret (em_var (i := 2))))))
/-! add_for -/
abbrev s_add_for : Stmt := topS 9
theorem sc_add_for : FnScope ["row", "other", "found", "one", "two"] ["row", "other"] (defScope s_add_for) := ⟨rfl, rfl, rfl, by decide +kernel, rfl, by decide +kernel, by decide +kernel⟩
noncomputable def b_add_for : Ms :=
    (mSeq (mAsg (mC .non) (gNm 2))
    (mSeq (mFor (m1 zipS (mCons (mVar 0) (mCons (mVar 1) mNil))) (gTp 2 (gC (gNm 3) (gC (gNm 4) gN0)))
    (mSeq (mIfS (m1 asB (m2 isV (mVar 3) (mC .non)))
    mCnt
    mSkip)
    (mSeq (mIfS (m1 asB (m2 isV (mVar 4) (mC .non)))
    (mRet (mC .non))
    mSkip)
    (mIfS (mOr (m1 asB (m2 isV (mVar 2) (mC .non))) (m1 asB (m2 gtV (m2 subV (mVar 4) (mVar 3)) (mVar 2))))
    (mAsg (m2 subV (mVar 4) (mVar 3)) (gNm 2))
    mSkip))))
    (mRet (mVar 2))))
noncomputable def py_add_for : List PV → HS → R PV := mDef 2 3 b_add_for
theorem ok_add_for {k : Nat} {f : Addr} {fd : FuncData} (F : Fun K "add_for" "add_for" s_add_for f fd) (hb : Binds K fd ["row", "other"] []) (hg : mg "add_for" = some (.ref f)) (B : Bt mg) : FnAt P w K mg base (k + 1) "add_for" py_add_for :=
  have nd := sc_add_for.nd
  fn_def (b := b_add_for) F sc_add_for hb hg fun cdv A outer s H E hr tk hp =>
    (sm_cons (sm_set (i := 2) nd em_non)
    (sm_cons (sm_for hp (im_zip B.b_zip (am_cons (em_var (i := 0)) (am_cons (em_var (i := 1)) am_nil))) (gm_tup (gm_cons (gm_name (i := 3) nd) (gm_cons (gm_name (i := 4) nd) gm_nil)))
    (sm_cons (sm_if (tm_cmp o_is (em_var (i := 3)) em_non)
    (sm_one sm_cont)
    sm_nil)
    (sm_cons (sm_if (tm_cmp o_is (em_var (i := 4)) em_non)
    (sm_one (sm_ret em_non))
    sm_nil)
    (sm_one (sm_if (tm_w (wm_or (tm_cmp o_is (em_var (i := 2)) em_non) (wm_or1 (tm_cmp o_gt (em_op o_sub (em_var (i := 4)) (em_var (i := 3))) (em_var (i := 2))))))
    (sm_one (sm_set (i := 2) nd (em_op o_sub (em_var (i := 4)) (em_var (i := 3)))))
    sm_nil)))))
    (sm_one (sm_ret (em_var (i := 2))))))
/-! reach -/
abbrev s_reach : Stmt := topS 10
theorem sc_reach : FnScope ["rows", "row", "adds", "one"] ["rows", "row"] (defScope s_reach) := ⟨rfl, rfl, rfl, by decide +kernel, rfl, by decide +kernel, by decide +kernel⟩
noncomputable def b_reach : Ms :=
    (mSeq (mAsg (mLc (m1 srcOf (mVar 0)) [3] (gNm 3) mYes (m1 py_add_for (mCons (mVar 3) (mCons (mVar 1) mNil)))) (gNm 2))
    (mRet (m1 dTup (mCons (mVar 2) (mCons (m1 py_made (mCons (mVar 0) (mCons (mVar 2) mNil))) mNil)))))
noncomputable def py_reach : List PV → HS → R PV := mDef 2 2 b_reach
theorem ok_reach {k : Nat} {f : Addr} {fd : FuncData} (F : Fun K "reach" "reach" s_reach f fd) (hb : Binds K fd ["rows", "row"] []) (hg : mg "reach" = some (.ref f)) (B : Bt mg) (G_add_for : FnAt P w K mg base k "add_for" py_add_for) (G_made : FnAt P w K mg base k "made" py_made) : FnAt P w K mg base (k + 1) "reach" py_reach :=
  have nd := sc_reach.nd
  fn_def (b := b_reach) F sc_reach hb hg fun cdv A outer s H E hr tk hp =>
    (sm_cons (sm_setLc (i := 2) (own := [("one", 3)]) nd (sw_true rfl rfl rfl (by decide +kernel)) (im_seq (em_var (i := 0))) (by kernel_rfl) (fun _ _ _ _ _ => (gm_name (i := 3) nd)) (fun _ _ _ _ _ => tsm_nil) (fun _ _ _ _ _ => (em_call takes0 hr G_add_for (am_cons (em_var (i := 3)) (am_cons (em_var (i := 1)) am_nil)))) (by decide))
    (sm_one (sm_ret (em_tup (am_cons (em_var (i := 2)) (am_cons (em_call tk hr G_made (am_cons (em_var (i := 0)) (am_cons (em_var (i := 2)) am_nil))) am_nil))))))
/-! is_alike -/
abbrev s_is_alike : Stmt := topS 11
theorem sc_is_alike : FnScope ["row", "other", "one", "two"] ["row", "other"] (defScope s_is_alike) := ⟨rfl, rfl, rfl, by decide +kernel, rfl, by decide +kernel, by decide +kernel⟩
noncomputable def b_is_alike : Ms :=
    (mSeq (mFor (m1 zipS (mCons (mVar 0) (mCons (mVar 1) mNil))) (gTp 2 (gC (gNm 2) (gC (gNm 3) gN0)))
    (mIfS (m1 asB (m2 isnotV (mVar 2) (mC .non)))
    (mRet (mAndV (m2 isnotV (mVar 3) (mC .non)) (m2 eqV (m1 py_raised (mCons (mVar 0) (mCons (m2 subV (mVar 3) (mVar 2)) mNil))) (m1 (c1 listV) (mCons (mVar 1) mNil)))))
    mSkip))
    (mRet (m1 py_is_empty (mCons (mVar 1) mNil))))
noncomputable def py_is_alike : List PV → HS → R PV := mDef 2 2 b_is_alike
theorem ok_is_alike {k : Nat} {f : Addr} {fd : FuncData} (F : Fun K "is_alike" "is_alike" s_is_alike f fd) (hb : Binds K fd ["row", "other"] []) (hg : mg "is_alike" = some (.ref f)) (B : Bt mg) (G_raised : FnAt P w K mg base k "raised" py_raised) (G_is_empty : FnAt P w K mg base k "is_empty" py_is_empty) : FnAt P w K mg base (k + 1) "is_alike" py_is_alike :=
  have nd := sc_is_alike.nd
  fn_def (b := b_is_alike) F sc_is_alike hb hg fun cdv A outer s H E hr tk hp =>
    (sm_cons (sm_for hp (im_zip B.b_zip (am_cons (em_var (i := 0)) (am_cons (em_var (i := 1)) am_nil))) (gm_tup (gm_cons (gm_name (i := 2) nd) (gm_cons (gm_name (i := 3) nd) gm_nil)))
    (sm_one (sm_if (tm_cmp o_isnot (em_var (i := 2)) em_non)
    (sm_one (sm_ret (em_and (em_cmp o_isnot (em_var (i := 3)) em_non) (em_one (em_cmp (o_eq hr.units) (em_call tk hr G_raised (am_cons (em_var (i := 0)) (am_cons (em_op o_sub (em_var (i := 3)) (em_var (i := 2))) am_nil))) (em_callTy Lt.b_list B.b_list (by decide +kernel) (am_cons (em_var (i := 1)) am_nil)))))))
    sm_nil)))
    (sm_one (sm_ret (em_call tk hr G_is_empty (am_cons (em_var (i := 1)) am_nil)))))
/-! is_kept -/
abbrev s_is_kept : Stmt := topS 12
theorem sc_is_kept : FnScope ["rows", "number", "row", "others", "other"] ["rows", "number"] (defScope s_is_kept) := ⟨rfl, rfl, rfl, by decide +kernel, rfl, by decide +kernel, by decide +kernel⟩
noncomputable def b_is_kept : Ms :=
    (mSeq (mAsg (m2 getV (mVar 0) (mVar 1)) (gNm 2))
    (mSeq (mIfS (mOr (mTru (m1 py_is_empty (mCons (mVar 2) mNil))) (mTru (m1 (c1 anyV) (mCons (mLc (m1 srcOf (m3 sliceV (mVar 0) (fun _ h => .ok none h) (m1 asI (mVar 1)))) [4] (gNm 4) mYes (m1 py_is_alike (mCons (mVar 4) (mCons (mVar 2) mNil)))) mNil))))
    (mRet (mC (.bl false)))
    mSkip)
    (mSeq (mAsg (mLc (m1 srcOf (mVar 0)) [4] (gNm 4) (mNot (mTru (m1 py_is_alike (mCons (mVar 4) (mCons (mVar 2) mNil))))) (mVar 4)) (gNm 3))
    (mRet (mOrV (m2 eqV (mVar 3) (m1 dLst mNil)) (m2 neV (m2 getV (m1 py_reach (mCons (mVar 3) (mCons (mVar 2) mNil))) (mC (.int 1))) (m1 (c1 listV) (mCons (mVar 2) mNil))))))))
noncomputable def py_is_kept : List PV → HS → R PV := mDef 2 3 b_is_kept
theorem ok_is_kept {k : Nat} {f : Addr} {fd : FuncData} (F : Fun K "is_kept" "is_kept" s_is_kept f fd) (hb : Binds K fd ["rows", "number"] []) (hg : mg "is_kept" = some (.ref f)) (B : Bt mg) (G_is_empty : FnAt P w K mg base k "is_empty" py_is_empty) (G_is_alike : FnAt P w K mg base k "is_alike" py_is_alike) (G_reach : FnAt P w K mg base k "reach" py_reach) : FnAt P w K mg base (k + 1) "is_kept" py_is_kept :=
  have nd := sc_is_kept.nd
  fn_def (b := b_is_kept) F sc_is_kept hb hg fun cdv A outer s H E hr tk hp =>
    (sm_cons (sm_set (i := 2) nd (em_ix (hu_of hr) (em_var (i := 0)) (em_var (i := 1))))
    (sm_cons (sm_if (tm_w (wm_or (tm_tru (em_call tk hr G_is_empty (am_cons (em_var (i := 2)) am_nil))) (wm_or1 (tm_tru (em_callB Lt.b_any B.b_any (by decide +kernel) (am_cons (em_lc (own := [("other", 4)]) nd (im_seq (em_slice (em_var (i := 0)) om_none (om_some (em_var (i := 1))))) (by kernel_rfl) (fun _ _ _ _ _ => (gm_name (i := 4) nd)) (fun _ _ _ _ _ => tsm_nil) (fun _ _ _ _ _ => (em_call takes0 hr G_is_alike (am_cons (em_var (i := 4)) (am_cons (em_var (i := 2)) am_nil)))) (by decide)) am_nil))))))
    (sm_one (sm_ret em_bl))
    sm_nil)
    (sm_cons (sm_setLc (i := 3) (own := [("other", 4)]) nd (sw_true rfl rfl rfl (by decide +kernel)) (im_seq (em_var (i := 0))) (by kernel_rfl) (fun _ _ _ _ _ => (gm_name (i := 4) nd)) (fun _ _ _ _ _ => (tsm_one (tm_not (tm_tru (em_call takes0 hr G_is_alike (am_cons (em_var (i := 4)) (am_cons (em_var (i := 2)) am_nil))))))) (fun _ _ _ _ _ => (em_var (i := 4))) (by decide))
    (sm_one (sm_ret (em_or (em_cmp (o_eq hr.units) (em_var (i := 3)) (em_lst am_nil)) (em_one (em_cmp (o_ne hr.units) (em_ix (hu_of hr) (em_call tk hr G_reach (am_cons (em_var (i := 3)) (am_cons (em_var (i := 2)) am_nil))) em_int) (em_callTy Lt.b_list B.b_list (by decide +kernel) (am_cons (em_var (i := 2)) am_nil))))))))))
/-! few -/
abbrev s_few : Stmt := topS 13
theorem sc_few : FnScope ["rows", "number"] ["rows"] (defScope s_few) := ⟨rfl, rfl, rfl, by decide +kernel, rfl, by decide +kernel, by decide +kernel⟩
noncomputable def b_few : Ms :=
    (mRet (mLc (m1 rng1 (mCons (m1 (c1 lenV) (mCons (mVar 0) mNil)) mNil)) [1] (gNm 1) (mTru (m1 py_is_kept (mCons (mVar 0) (mCons (mVar 1) mNil)))) (mVar 1)))
noncomputable def py_few : List PV → HS → R PV := mDef 1 1 b_few
theorem ok_few {k : Nat} {f : Addr} {fd : FuncData} (F : Fun K "few" "few" s_few f fd) (hb : Binds K fd ["rows"] []) (hg : mg "few" = some (.ref f)) (B : Bt mg) (G_is_kept : FnAt P w K mg base k "is_kept" py_is_kept) : FnAt P w K mg base (k + 1) "few" py_few :=
  have nd := sc_few.nd
  fn_def (b := b_few) F sc_few hb hg fun cdv A outer s H E hr tk hp =>
    (sm_one (sm_ret (em_lc (own := [("number", 1)]) nd (im_range1 B.b_range (am_cons (em_callB Lt.b_len B.b_len (by decide +kernel) (am_cons (em_var (i := 0)) am_nil)) am_nil)) (by kernel_rfl) (fun _ _ _ _ _ => (gm_name (i := 1) nd)) (fun _ _ _ _ _ => (tsm_one (tm_tru (em_call takes0 hr G_is_kept (am_cons (em_var (i := 0)) (am_cons (em_var (i := 1)) am_nil)))))) (fun _ _ _ _ _ => (em_var (i := 1))) (by decide))))
/-! _law_take -/
abbrev s_take : Stmt := topS 16
theorem sc_take : FnScope ["_law_state", "_law_many", "_law_turn", "_law_place", "_law_cell", "_law_digit", "_law_mixed_here"] ["_law_state", "_law_many"] (defScope s_take) := ⟨rfl, rfl, rfl, by decide +kernel, rfl, by decide +kernel, by decide +kernel⟩
noncomputable def b_take : Ms :=
    (mSeq (mAsg (m2 addV (m2 getV (mVar 0) (mC (.str "turn"))) (mC (.int 1))) (gNm 2))
    (mSeq (mAsg (mVar 2) (gSb (mVar 0) (mC (.str "turn"))))
    (mSeq (mAsg (m2 modV (mVar 2) (m1 (c1 lenV) (mCons (m2 getV (mVar 0) (mC (.str "cells"))) mNil))) (gNm 3))
    (mSeq (mAsg (m2 getV (m2 getV (mVar 0) (mC (.str "cells"))) (mVar 3)) (gNm 4))
    (mSeq (mIfS (m1 asB (m2 geV (mVar 4) (m2 powV (mC (.int 10)) (mC (.int 18)))))
    (mSeq (mAsg (m1 (c2 divmodV) (mCons (mVar 4) (mCons (mVar 1) mNil))) (gTp 2 (gC (gSb (m2 getV (mVar 0) (mC (.str "cells"))) (mVar 3)) (gC (gNm 5) gN0))))
    (mRet (mVar 5)))
    mSkip)
    (mSeq (mAsg (m2 modV (m2 mulV (m2 addV (m2 addV (m2 modV (mVar 4) (mC (.int 2147483629))) (m2 mulV (m2 mulV (mVar 2) (mVar 2)) (mC (.int 7919)))) (mC (.int 11))) (mC (.int 48271))) (mC (.int 2147483647))) (gNm 6))
    (mSeq (mAsg (m2 modV (m2 mulV (mVar 6) (mVar 6)) (mC (.int 2147483587))) (gNm 6))
    (mRet (m2 modV (m2 fdivV (m2 modV (m2 mulV (m2 addV (mVar 6) (m2 mulV (mVar 2) (mC (.int 104729)))) (mC (.int 39373))) (mC (.int 2147483629))) (mC (.int 64))) (mVar 1))))))))))
noncomputable def py_take : List PV → HS → R PV := mDef 2 5 b_take
theorem ok_take {k : Nat} {f : Addr} {fd : FuncData} (F : Fun K "_law_take" "_law_take" s_take f fd) (hb : Binds K fd ["_law_state", "_law_many"] []) (hg : mg "_law_take" = some (.ref f)) (B : Bt mg) : FnAt P w K mg base (k + 1) "_law_take" py_take :=
  have nd := sc_take.nd
  fn_def (b := b_take) F sc_take hb hg fun cdv A outer s H E hr tk hp =>
    (sm_cons (sm_set (i := 2) nd (em_op o_add (em_ix (hu_of hr) (em_var (i := 0)) em_str) em_int))
    (sm_cons (sm_asg (em_var (i := 2)) (gm_sub (hu_of hr) (em_var (i := 0)) em_str))
    (sm_cons (sm_set (i := 3) nd (em_op o_mod (em_var (i := 2)) (em_callB Lt.b_len B.b_len (by decide +kernel) (am_cons (em_ix (hu_of hr) (em_var (i := 0)) em_str) am_nil))))
    (sm_cons (sm_set (i := 4) nd (em_ix (hu_of hr) (em_ix (hu_of hr) (em_var (i := 0)) em_str) (em_var (i := 3))))
    (sm_cons (sm_if (tm_cmp o_ge (em_var (i := 4)) (em_op o_pow em_int em_int))
    (sm_cons (sm_asg (em_callB Lt.b_divmod B.b_divmod (by decide +kernel) (am_cons (em_var (i := 4)) (am_cons (em_var (i := 1)) am_nil))) (gm_tup (gm_cons (gm_sub (hu_of hr) (em_ix (hu_of hr) (em_var (i := 0)) em_str) (em_var (i := 3))) (gm_cons (gm_name (i := 5) nd) gm_nil))))
    (sm_one (sm_ret (em_var (i := 5)))))
    sm_nil)
    (sm_cons (sm_set (i := 6) nd (em_op o_mod (em_op o_mul (em_op o_add (em_op o_add (em_op o_mod (em_var (i := 4)) em_int) (em_op o_mul (em_op o_mul (em_var (i := 2)) (em_var (i := 2))) em_int)) em_int) em_int) em_int))
    (sm_cons (sm_set (i := 6) nd (em_op o_mod (em_op o_mul (em_var (i := 6)) (em_var (i := 6))) em_int))
    (sm_one (sm_ret (em_op o_mod (em_op o_fdiv (em_op o_mod (em_op o_mul (em_op o_add (em_var (i := 6)) (em_op o_mul (em_var (i := 2)) em_int)) em_int) em_int) em_int) (em_var (i := 1))))))))))))
/-! _law_same -/
abbrev s_h_same : Stmt := topS 17
theorem sc_h_same : FnScope ["_law_found", "_law_due", "_law_one", "_law_other"] ["_law_found", "_law_due"] (defScope s_h_same) := ⟨rfl, rfl, rfl, by decide +kernel, rfl, by decide +kernel, by decide +kernel⟩
noncomputable def b_h_same (rec : List PV → HS → R PV) : Ms :=
    (mSeq (mIfS (m1 asB (m2 isV (mVar 1) (mC .non)))
    (mRet (m2 isV (mVar 0) (mC .non)))
    mSkip)
    (mSeq (mIfS (mOr (mTru (m1 (c2 isinstV) (mCons (mVar 1) (mCons (mC (.ty "list")) mNil)))) (mTru (m1 (c2 isinstV) (mCons (mVar 1) (mCons (mC (.ty "tuple")) mNil)))))
    (mSeq (mIfS (m1 asB (m2 neV (m1 (c2 isinstV) (mCons (mVar 0) (mCons (mC (.ty "list")) mNil))) (m1 (c2 isinstV) (mCons (mVar 1) (mCons (mC (.ty "list")) mNil)))))
    (mRet (mC (.bl false)))
    mSkip)
    (mSeq (mIfS (mOr (m1 asB (m2 neV (m1 (c2 isinstV) (mCons (mVar 0) (mCons (mC (.ty "tuple")) mNil))) (m1 (c2 isinstV) (mCons (mVar 1) (mCons (mC (.ty "tuple")) mNil))))) (m1 asB (m2 neV (m1 (c1 lenV) (mCons (mVar 0) mNil)) (m1 (c1 lenV) (mCons (mVar 1) mNil)))))
    (mRet (mC (.bl false)))
    mSkip)
    (mRet (m1 (c1 allV) (mCons (mLc (m1 zipS (mCons (mVar 0) (mCons (mVar 1) mNil))) [2, 3] (gTp 2 (gC (gNm 2) (gC (gNm 3) gN0))) mYes (m1 rec (mCons (mVar 2) (mCons (mVar 3) mNil)))) mNil)))))
    mSkip)
    (mSeq (mIfS (mTru (m1 (c2 isinstV) (mCons (mVar 1) (mCons (mC (.ty "str")) mNil))))
    (mRet (mAndV (m1 (c2 isinstV) (mCons (mVar 0) (mCons (mC (.ty "str")) mNil))) (m2 eqV (mVar 0) (mVar 1))))
    mSkip)
    (mRet (mAndV (m1 (c2 isinstV) (mCons (mVar 0) (mCons (mC (.ty "int")) mNil))) (mAndV (mNotV (m1 (c2 isinstV) (mCons (mVar 0) (mCons (mC (.ty "bool")) mNil)))) (m2 eqV (mVar 0) (mVar 1))))))))
noncomputable def py_h_same : Nat → List PV → HS → R PV
  | 0 => fun _ _ => .no
  | k + 1 => mDef 2 2 (b_h_same (py_h_same k))
theorem ok_h_same {k : Nat} {f : Addr} {fd : FuncData} (F : Fun K "_law_same" "_law_same" s_h_same f fd) (hb : Binds K fd ["_law_found", "_law_due"] []) (hg : mg "_law_same" = some (.ref f)) (B : Bt mg) {rec : List PV → HS → R PV} (G_h_same : FnAt P w K mg base k "_law_same" rec) : FnAt P w K mg base (k + 1) "_law_same" (mDef 2 2 (b_h_same rec)) :=
  have nd := sc_h_same.nd
  fn_def (b := b_h_same rec) F sc_h_same hb hg fun cdv A outer s H E hr tk hp =>
    (sm_cons (sm_if (tm_cmp o_is (em_var (i := 1)) em_non)
    (sm_one (sm_ret (em_cmp o_is (em_var (i := 0)) em_non)))
    sm_nil)
    (sm_cons (sm_if (tm_w (wm_or (tm_tru (em_callB Lt.b_isinst B.b_isinstance (by decide +kernel) (am_cons (em_var (i := 1)) (am_cons (em_ty (n := "list") B.b_list (by decide +kernel)) am_nil)))) (wm_or1 (tm_tru (em_callB Lt.b_isinst B.b_isinstance (by decide +kernel) (am_cons (em_var (i := 1)) (am_cons (em_ty (n := "tuple") B.b_tuple (by decide +kernel)) am_nil)))))))
    (sm_cons (sm_if (tm_cmp (o_ne hr.units) (em_callB Lt.b_isinst B.b_isinstance (by decide +kernel) (am_cons (em_var (i := 0)) (am_cons (em_ty (n := "list") B.b_list (by decide +kernel)) am_nil))) (em_callB Lt.b_isinst B.b_isinstance (by decide +kernel) (am_cons (em_var (i := 1)) (am_cons (em_ty (n := "list") B.b_list (by decide +kernel)) am_nil))))
    (sm_one (sm_ret em_bl))
    sm_nil)
    (sm_cons (sm_if (tm_w (wm_or (tm_cmp (o_ne hr.units) (em_callB Lt.b_isinst B.b_isinstance (by decide +kernel) (am_cons (em_var (i := 0)) (am_cons (em_ty (n := "tuple") B.b_tuple (by decide +kernel)) am_nil))) (em_callB Lt.b_isinst B.b_isinstance (by decide +kernel) (am_cons (em_var (i := 1)) (am_cons (em_ty (n := "tuple") B.b_tuple (by decide +kernel)) am_nil)))) (wm_or1 (tm_cmp (o_ne hr.units) (em_callB Lt.b_len B.b_len (by decide +kernel) (am_cons (em_var (i := 0)) am_nil)) (em_callB Lt.b_len B.b_len (by decide +kernel) (am_cons (em_var (i := 1)) am_nil))))))
    (sm_one (sm_ret em_bl))
    sm_nil)
    (sm_one (sm_ret (em_callB Lt.b_all B.b_all (by decide +kernel) (am_cons (em_lc (own := [("_law_one", 2), ("_law_other", 3)]) nd (im_zip B.b_zip (am_cons (em_var (i := 0)) (am_cons (em_var (i := 1)) am_nil))) (by kernel_rfl) (fun _ _ _ _ _ => (gm_tup (gm_cons (gm_name (i := 2) nd) (gm_cons (gm_name (i := 3) nd) gm_nil)))) (fun _ _ _ _ _ => tsm_nil) (fun _ _ _ _ _ => (em_call takes0 hr G_h_same (am_cons (em_var (i := 2)) (am_cons (em_var (i := 3)) am_nil)))) (by decide)) am_nil))))))
    sm_nil)
    (sm_cons (sm_if (tm_tru (em_callB Lt.b_isinst B.b_isinstance (by decide +kernel) (am_cons (em_var (i := 1)) (am_cons (em_ty (n := "str") B.b_str (by decide +kernel)) am_nil))))
    (sm_one (sm_ret (em_and (em_callB Lt.b_isinst B.b_isinstance (by decide +kernel) (am_cons (em_var (i := 0)) (am_cons (em_ty (n := "str") B.b_str (by decide +kernel)) am_nil))) (em_one (em_cmp (o_eq hr.units) (em_var (i := 0)) (em_var (i := 1)))))))
    sm_nil)
    (sm_one (sm_ret (em_and (em_callB Lt.b_isinst B.b_isinstance (by decide +kernel) (am_cons (em_var (i := 0)) (am_cons (em_ty (n := "int") B.b_int (by decide +kernel)) am_nil))) (em_and (em_not (em_callB Lt.b_isinst B.b_isinstance (by decide +kernel) (am_cons (em_var (i := 0)) (am_cons (em_ty (n := "bool") B.b_bool (by decide +kernel)) am_nil)))) (em_one (em_cmp (o_eq hr.units) (em_var (i := 0)) (em_var (i := 1)))))))))))
/-! _law_entry -/
abbrev s_h_entry : Stmt := topS 18
theorem sc_h_entry : FnScope ["_law_state", "_law_most", "_law_odds", "_law_number", "_law_turn"] ["_law_state", "_law_most", "_law_odds"] (defScope s_h_entry) := ⟨rfl, rfl, rfl, by decide +kernel, rfl, by decide +kernel, by decide +kernel⟩
noncomputable def b_h_entry : Ms :=
    (mSeq (mIfS (m1 asB (m2 eqV (m1 py_take (mCons (mVar 0) (mCons (mVar 2) mNil))) (mC (.int 0))))
    (mRet (mC .non))
    mSkip)
    (mSeq (mIfS (m1 asB (m2 ltV (mVar 1) (m2 powV (mC (.int 10)) (mC (.int 9)))))
    (mRet (m2 subV (m1 py_take (mCons (mVar 0) (mCons (m2 addV (m2 mulV (mC (.int 2)) (mVar 1)) (mC (.int 1))) mNil))) (mVar 1)))
    mSkip)
    (mSeq (mAsg (mC (.int 0)) (gNm 3))
    (mSeq (mFor (m1 rng1 (mCons (mC (.int 3)) mNil)) (gNm 4)
    (mAsg (m2 addV (m2 mulV (mVar 3) (m2 powV (mC (.int 10)) (mC (.int 10)))) (m1 py_take (mCons (mVar 0) (mCons (m2 powV (mC (.int 10)) (mC (.int 10))) mNil)))) (gNm 3)))
    (mRet (m2 mulV (mVar 3) (m2 subV (mC (.int 1)) (m2 mulV (mC (.int 2)) (m1 py_take (mCons (mVar 0) (mCons (mC (.int 2)) mNil)))))))))))
noncomputable def py_h_entry : List PV → HS → R PV := mDef 3 2 b_h_entry
theorem ok_h_entry {k : Nat} {f : Addr} {fd : FuncData} (F : Fun K "_law_entry" "_law_entry" s_h_entry f fd) (hb : Binds K fd ["_law_state", "_law_most", "_law_odds"] []) (hg : mg "_law_entry" = some (.ref f)) (B : Bt mg) (G_take : FnAt P w K mg base k "_law_take" py_take) : FnAt P w K mg base (k + 1) "_law_entry" py_h_entry :=
  have nd := sc_h_entry.nd
  fn_def (b := b_h_entry) F sc_h_entry hb hg fun cdv A outer s H E hr tk hp =>
    (sm_cons (sm_if (tm_cmp (o_eq hr.units) (em_call tk hr G_take (am_cons (em_var (i := 0)) (am_cons (em_var (i := 2)) am_nil))) em_int)
    (sm_one (sm_ret em_non))
    sm_nil)
    (sm_cons (sm_if (tm_cmp o_lt (em_var (i := 1)) (em_op o_pow em_int em_int))
    (sm_one (sm_ret (em_op o_sub (em_call tk hr G_take (am_cons (em_var (i := 0)) (am_cons (em_op o_add (em_op o_mul em_int (em_var (i := 1))) em_int) am_nil))) (em_var (i := 1)))))
    sm_nil)
    (sm_cons (sm_set (i := 3) nd em_int)
    (sm_cons (sm_for hp (im_range1 B.b_range (am_cons em_int am_nil)) (gm_name (i := 4) nd)
    (sm_one (sm_set (i := 3) nd (em_op o_add (em_op o_mul (em_var (i := 3)) (em_op o_pow em_int em_int)) (em_call tk hr G_take (am_cons (em_var (i := 0)) (am_cons (em_op o_pow em_int em_int) am_nil)))))))
    (sm_one (sm_ret (em_op o_mul (em_var (i := 3)) (em_op o_sub em_int (em_op o_mul em_int (em_call tk hr G_take (am_cons (em_var (i := 0)) (am_cons em_int am_nil))))))))))))
/-! _law_sum -/
abbrev s_h_sum : Stmt := topS 19
theorem sc_h_sum : FnScope ["_law_one", "_law_other"] ["_law_one", "_law_other"] (defScope s_h_sum) := ⟨rfl, rfl, rfl, by decide +kernel, rfl, by decide +kernel, by decide +kernel⟩
noncomputable def b_h_sum : Ms :=
    (mRet (mIf (mOr (m1 asB (m2 isV (mVar 0) (mC .non))) (m1 asB (m2 isV (mVar 1) (mC .non)))) (mC .non) (m2 addV (mVar 0) (mVar 1))))
noncomputable def py_h_sum : List PV → HS → R PV := mDef 2 0 b_h_sum
theorem ok_h_sum {k : Nat} {f : Addr} {fd : FuncData} (F : Fun K "_law_sum" "_law_sum" s_h_sum f fd) (hb : Binds K fd ["_law_one", "_law_other"] []) (hg : mg "_law_sum" = some (.ref f)) (B : Bt mg) : FnAt P w K mg base (k + 1) "_law_sum" py_h_sum :=
  have nd := sc_h_sum.nd
  fn_def (b := b_h_sum) F sc_h_sum hb hg fun cdv A outer s H E hr tk hp =>
    (sm_one (sm_ret (em_if (tm_w (wm_or (tm_cmp o_is (em_var (i := 0)) em_non) (wm_or1 (tm_cmp o_is (em_var (i := 1)) em_non)))) em_non (em_op o_add (em_var (i := 0)) (em_var (i := 1))))))
/-! _law_less -/
abbrev s_h_less : Stmt := topS 20
theorem sc_h_less : FnScope ["_law_one", "_law_other"] ["_law_one", "_law_other"] (defScope s_h_less) := ⟨rfl, rfl, rfl, by decide +kernel, rfl, by decide +kernel, by decide +kernel⟩
noncomputable def b_h_less : Ms :=
    (mSeq (mIfS (mOr (m1 asB (m2 isV (mVar 0) (mC .non))) (m1 asB (m2 isV (mVar 1) (mC .non))))
    (mRet (mIf (m1 asB (m2 isV (mVar 0) (mC .non))) (mVar 1) (mVar 0)))
    mSkip)
    (mRet (m1 (c2 min2V) (mCons (mVar 0) (mCons (mVar 1) mNil)))))
noncomputable def py_h_less : List PV → HS → R PV := mDef 2 0 b_h_less
theorem ok_h_less {k : Nat} {f : Addr} {fd : FuncData} (F : Fun K "_law_less" "_law_less" s_h_less f fd) (hb : Binds K fd ["_law_one", "_law_other"] []) (hg : mg "_law_less" = some (.ref f)) (B : Bt mg) : FnAt P w K mg base (k + 1) "_law_less" py_h_less :=
  have nd := sc_h_less.nd
  fn_def (b := b_h_less) F sc_h_less hb hg fun cdv A outer s H E hr tk hp =>
    (sm_cons (sm_if (tm_w (wm_or (tm_cmp o_is (em_var (i := 0)) em_non) (wm_or1 (tm_cmp o_is (em_var (i := 1)) em_non))))
    (sm_one (sm_ret (em_if (tm_cmp o_is (em_var (i := 0)) em_non) (em_var (i := 1)) (em_var (i := 0)))))
    sm_nil)
    (sm_one (sm_ret (em_callB Lt.b_min2 B.b_min (by decide +kernel) (am_cons (em_var (i := 0)) (am_cons (em_var (i := 1)) am_nil))))))
/-! _law_lifted -/
abbrev s_h_lifted : Stmt := topS 21
theorem sc_h_lifted : FnScope ["_law_row", "_law_entry_here", "_law_one"] ["_law_row", "_law_entry_here"] (defScope s_h_lifted) := ⟨rfl, rfl, rfl, by decide +kernel, rfl, by decide +kernel, by decide +kernel⟩
noncomputable def b_h_lifted : Ms :=
    (mRet (mLc (m1 srcOf (mVar 0)) [2] (gNm 2) mYes (m1 py_h_sum (mCons (mVar 2) (mCons (mVar 1) mNil)))))
noncomputable def py_h_lifted : List PV → HS → R PV := mDef 2 1 b_h_lifted
theorem ok_h_lifted {k : Nat} {f : Addr} {fd : FuncData} (F : Fun K "_law_lifted" "_law_lifted" s_h_lifted f fd) (hb : Binds K fd ["_law_row", "_law_entry_here"] []) (hg : mg "_law_lifted" = some (.ref f)) (B : Bt mg) (G_h_sum : FnAt P w K mg base k "_law_sum" py_h_sum) : FnAt P w K mg base (k + 1) "_law_lifted" py_h_lifted :=
  have nd := sc_h_lifted.nd
  fn_def (b := b_h_lifted) F sc_h_lifted hb hg fun cdv A outer s H E hr tk hp =>
    (sm_one (sm_ret (em_lc (own := [("_law_one", 2)]) nd (im_seq (em_var (i := 0))) (by kernel_rfl) (fun _ _ _ _ _ => (gm_name (i := 2) nd)) (fun _ _ _ _ _ => tsm_nil) (fun _ _ _ _ _ => (em_call takes0 hr G_h_sum (am_cons (em_var (i := 2)) (am_cons (em_var (i := 1)) am_nil)))) (by decide))))
/-! _law_both -/
abbrev s_h_both : Stmt := topS 22
theorem sc_h_both : FnScope ["_law_row", "_law_other", "_law_one", "_law_two"] ["_law_row", "_law_other"] (defScope s_h_both) := ⟨rfl, rfl, rfl, by decide +kernel, rfl, by decide +kernel, by decide +kernel⟩
noncomputable def b_h_both : Ms :=
    (mRet (mLc (m1 zipS (mCons (mVar 0) (mCons (mVar 1) mNil))) [2, 3] (gTp 2 (gC (gNm 2) (gC (gNm 3) gN0))) mYes (m1 py_h_less (mCons (mVar 2) (mCons (mVar 3) mNil)))))
noncomputable def py_h_both : List PV → HS → R PV := mDef 2 2 b_h_both
theorem ok_h_both {k : Nat} {f : Addr} {fd : FuncData} (F : Fun K "_law_both" "_law_both" s_h_both f fd) (hb : Binds K fd ["_law_row", "_law_other"] []) (hg : mg "_law_both" = some (.ref f)) (B : Bt mg) (G_h_less : FnAt P w K mg base k "_law_less" py_h_less) : FnAt P w K mg base (k + 1) "_law_both" py_h_both :=
  have nd := sc_h_both.nd
  fn_def (b := b_h_both) F sc_h_both hb hg fun cdv A outer s H E hr tk hp =>
    (sm_one (sm_ret (em_lc (own := [("_law_one", 2), ("_law_two", 3)]) nd (im_zip B.b_zip (am_cons (em_var (i := 0)) (am_cons (em_var (i := 1)) am_nil))) (by kernel_rfl) (fun _ _ _ _ _ => (gm_tup (gm_cons (gm_name (i := 2) nd) (gm_cons (gm_name (i := 3) nd) gm_nil)))) (fun _ _ _ _ _ => tsm_nil) (fun _ _ _ _ _ => (em_call takes0 hr G_h_less (am_cons (em_var (i := 2)) (am_cons (em_var (i := 3)) am_nil)))) (by decide))))
/-! _law_made -/
abbrev s_h_made : Stmt := topS 23
theorem sc_h_made : FnScope ["_law_rows_here", "_law_adds", "_law_found", "_law_row", "_law_entry_here"] ["_law_rows_here", "_law_adds"] (defScope s_h_made) := ⟨rfl, rfl, rfl, by decide +kernel, rfl, by decide +kernel, by decide +kernel⟩
noncomputable def b_h_made : Ms :=
    (mSeq (mAsg (m2 mulV (m1 dLst (mCons (mC .non) mNil)) (m1 (c1 lenV) (mCons (m2 getV (mVar 0) (mC (.int 0))) mNil))) (gNm 2))
    (mSeq (mFor (m1 zipS (mCons (mVar 0) (mCons (mVar 1) mNil))) (gTp 2 (gC (gNm 3) (gC (gNm 4) gN0)))
    (mAsg (m1 py_h_both (mCons (mVar 2) (mCons (m1 py_h_lifted (mCons (mVar 3) (mCons (mVar 4) mNil))) mNil))) (gNm 2)))
    (mRet (mVar 2))))
noncomputable def py_h_made : List PV → HS → R PV := mDef 2 3 b_h_made
theorem ok_h_made {k : Nat} {f : Addr} {fd : FuncData} (F : Fun K "_law_made" "_law_made" s_h_made f fd) (hb : Binds K fd ["_law_rows_here", "_law_adds"] []) (hg : mg "_law_made" = some (.ref f)) (B : Bt mg) (G_h_both : FnAt P w K mg base k "_law_both" py_h_both) (G_h_lifted : FnAt P w K mg base k "_law_lifted" py_h_lifted) : FnAt P w K mg base (k + 1) "_law_made" py_h_made :=
  have nd := sc_h_made.nd
  fn_def (b := b_h_made) F sc_h_made hb hg fun cdv A outer s H E hr tk hp =>
    (sm_cons (sm_set (i := 2) nd (em_op o_mul (em_lst (am_cons em_non am_nil)) (em_callB Lt.b_len B.b_len (by decide +kernel) (am_cons (em_ix (hu_of hr) (em_var (i := 0)) em_int) am_nil))))
    (sm_cons (sm_for hp (im_zip B.b_zip (am_cons (em_var (i := 0)) (am_cons (em_var (i := 1)) am_nil))) (gm_tup (gm_cons (gm_name (i := 3) nd) (gm_cons (gm_name (i := 4) nd) gm_nil)))
    (sm_one (sm_set (i := 2) nd (em_call tk hr G_h_both (am_cons (em_var (i := 2)) (am_cons (em_call tk hr G_h_lifted (am_cons (em_var (i := 3)) (am_cons (em_var (i := 4)) am_nil))) am_nil))))))
    (sm_one (sm_ret (em_var (i := 2))))))
/-! _law_rows -/
abbrev s_h_rows : Stmt := topS 24
theorem sc_h_rows : FnScope ["_law_state", "_law_many", "_law_wide", "_law_most", "_law_odds", "_law_rows_here", "_law_number", "_law_kind", "_law_row", "_law_place"] ["_law_state", "_law_many", "_law_wide"] (defScope s_h_rows) := ⟨rfl, rfl, rfl, by decide +kernel, rfl, by decide +kernel, by decide +kernel⟩
noncomputable def b_h_rows : Ms :=
    (mSeq (mAsg (m2 getV (m1 dLst (mCons (mC (.int 2)) (mCons (mC (.int 9)) (mCons (mC (.int 1000)) (mCons (m2 powV (mC (.int 10)) (mC (.int 30))) mNil))))) (m1 py_take (mCons (mVar 0) (mCons (mC (.int 4)) mNil)))) (gNm 3))
    (mSeq (mAsg (m2 getV (m1 dLst (mCons (mC (.int 2)) (mCons (mC (.int 3)) (mCons (mC (.int 6)) (mCons (mC (.int 30)) mNil))))) (m1 py_take (mCons (mVar 0) (mCons (mC (.int 4)) mNil)))) (gNm 4))
    (mSeq (mAsg (m1 dLst mNil) (gNm 5))
    (mSeq (mFor (m1 rng1 (mCons (mVar 1) mNil)) (gNm 6)
    (mSeq (mAsg (m1 py_take (mCons (mVar 0) (mCons (mC (.int 9)) mNil))) (gNm 7))
    (mSeq (mAsg (mLc (m1 rng1 (mCons (mVar 2) mNil)) [9] (gNm 9) mYes (m1 py_h_entry (mCons (mVar 0) (mCons (mVar 3) (mCons (mVar 4) mNil))))) (gNm 8))
    (mSeq (mIfS (mAnd (m1 asB (m2 neV (mVar 5) (m1 dLst mNil))) (m1 asB (m2 ltV (mVar 7) (mC (.int 3)))))
    (mSeq (mAsg (m1 (c1 listV) (mCons (m2 getV (mVar 5) (m1 py_take (mCons (mVar 0) (mCons (m1 (c1 lenV) (mCons (mVar 5) mNil)) mNil)))) mNil)) (gNm 8))
    (mSeq (mIfS (m1 asB (m2 gtV (mVar 7) (mC (.int 0))))
    (mAsg (m1 py_h_lifted (mCons (mVar 8) (mCons (m2 subV (m1 py_take (mCons (mVar 0) (mCons (mC (.int 9)) mNil))) (mC (.int 4))) mNil))) (gNm 8))
    mSkip)
    (mIfS (m1 asB (m2 gtV (mVar 7) (mC (.int 1))))
    (mAsg (m1 py_h_both (mCons (mVar 8) (mCons (m1 py_h_lifted (mCons (m2 getV (mVar 5) (m1 py_take (mCons (mVar 0) (mCons (m1 (c1 lenV) (mCons (mVar 5) mNil)) mNil)))) (mCons (m2 subV (m1 py_take (mCons (mVar 0) (mCons (mC (.int 9)) mNil))) (mC (.int 4))) mNil))) mNil))) (gNm 8))
    mSkip)))
    (mIfS (mAnd (m1 asB (m2 eqV (mVar 7) (mC (.int 3)))) (m1 asB (m2 eqV (m1 py_take (mCons (mVar 0) (mCons (mC (.int 3)) mNil))) (mC (.int 0)))))
    (mAsg (m2 mulV (m1 dLst (mCons (mC .non) mNil)) (mVar 2)) (gNm 8))
    mSkip))
    (mDrop (mMeth isLst lApp (mVar 5) (mCons (mVar 8) mNil)))))))
    (mRet (mVar 5))))))
noncomputable def py_h_rows : List PV → HS → R PV := mDef 3 7 b_h_rows
theorem ok_h_rows {k : Nat} {f : Addr} {fd : FuncData} (F : Fun K "_law_rows" "_law_rows" s_h_rows f fd) (hb : Binds K fd ["_law_state", "_law_many", "_law_wide"] []) (hg : mg "_law_rows" = some (.ref f)) (B : Bt mg) (G_take : FnAt P w K mg base k "_law_take" py_take) (G_h_entry : FnAt P w K mg base k "_law_entry" py_h_entry) (G_h_lifted : FnAt P w K mg base k "_law_lifted" py_h_lifted) (G_h_both : FnAt P w K mg base k "_law_both" py_h_both) : FnAt P w K mg base (k + 1) "_law_rows" py_h_rows :=
  have nd := sc_h_rows.nd
  fn_def (b := b_h_rows) F sc_h_rows hb hg fun cdv A outer s H E hr tk hp =>
    (sm_cons (sm_set (i := 3) nd (em_ix (hu_of hr) (em_lst (am_cons em_int (am_cons em_int (am_cons em_int (am_cons (em_op o_pow em_int em_int) am_nil))))) (em_call tk hr G_take (am_cons (em_var (i := 0)) (am_cons em_int am_nil)))))
    (sm_cons (sm_set (i := 4) nd (em_ix (hu_of hr) (em_lst (am_cons em_int (am_cons em_int (am_cons em_int (am_cons em_int am_nil))))) (em_call tk hr G_take (am_cons (em_var (i := 0)) (am_cons em_int am_nil)))))
    (sm_cons (sm_set (i := 5) nd (em_lst am_nil))
    (sm_cons (sm_for hp (im_range1 B.b_range (am_cons (em_var (i := 1)) am_nil)) (gm_name (i := 6) nd)
    (sm_cons (sm_set (i := 7) nd (em_call tk hr G_take (am_cons (em_var (i := 0)) (am_cons em_int am_nil))))
    (sm_cons (sm_setLc (i := 8) (own := [("_law_place", 9)]) nd (sw_true rfl rfl rfl (by decide +kernel)) (im_range1 B.b_range (am_cons (em_var (i := 2)) am_nil)) (by kernel_rfl) (fun _ _ _ _ _ => (gm_name (i := 9) nd)) (fun _ _ _ _ _ => tsm_nil) (fun _ _ _ _ _ => (em_call takes0 hr G_h_entry (am_cons (em_var (i := 0)) (am_cons (em_var (i := 3)) (am_cons (em_var (i := 4)) am_nil))))) (by decide))
    (sm_cons (sm_if (tm_w (wm_and (tm_cmp (o_ne hr.units) (em_var (i := 5)) (em_lst am_nil)) (wm_and1 (tm_cmp o_lt (em_var (i := 7)) em_int))))
    (sm_cons (sm_set (i := 8) nd (em_callTy Lt.b_list B.b_list (by decide +kernel) (am_cons (em_ix (hu_of hr) (em_var (i := 5)) (em_call tk hr G_take (am_cons (em_var (i := 0)) (am_cons (em_callB Lt.b_len B.b_len (by decide +kernel) (am_cons (em_var (i := 5)) am_nil)) am_nil)))) am_nil)))
    (sm_cons (sm_if (tm_cmp o_gt (em_var (i := 7)) em_int)
    (sm_one (sm_set (i := 8) nd (em_call tk hr G_h_lifted (am_cons (em_var (i := 8)) (am_cons (em_op o_sub (em_call tk hr G_take (am_cons (em_var (i := 0)) (am_cons em_int am_nil))) em_int) am_nil)))))
    sm_nil)
    (sm_one (sm_if (tm_cmp o_gt (em_var (i := 7)) em_int)
    (sm_one (sm_set (i := 8) nd (em_call tk hr G_h_both (am_cons (em_var (i := 8)) (am_cons (em_call tk hr G_h_lifted (am_cons (em_ix (hu_of hr) (em_var (i := 5)) (em_call tk hr G_take (am_cons (em_var (i := 0)) (am_cons (em_callB Lt.b_len B.b_len (by decide +kernel) (am_cons (em_var (i := 5)) am_nil)) am_nil)))) (am_cons (em_op o_sub (em_call tk hr G_take (am_cons (em_var (i := 0)) (am_cons em_int am_nil))) em_int) am_nil))) am_nil)))))
    sm_nil))))
    (sm_one (sm_if (tm_w (wm_and (tm_cmp (o_eq hr.units) (em_var (i := 7)) em_int) (wm_and1 (tm_cmp (o_eq hr.units) (em_call tk hr G_take (am_cons (em_var (i := 0)) (am_cons em_int am_nil))) em_int))))
    (sm_one (sm_set (i := 8) nd (em_op o_mul (em_lst (am_cons em_non am_nil)) (em_var (i := 2)))))
    sm_nil)))
    (sm_one (sm_expr (em_meth PySem.F.plainAttrs_list PySem.F.slot_list_append PySem.F.type_list_append ty_list l_app (em_var (i := 5)) (am_cons (em_var (i := 8)) am_nil))))))))
    (sm_one (sm_ret (em_var (i := 5))))))))
/-! _law_alike -/
abbrev s_h_alike : Stmt := topS 25
theorem sc_h_alike : FnScope ["_law_row", "_law_other", "_law_one", "_law_two"] ["_law_row", "_law_other"] (defScope s_h_alike) := ⟨rfl, rfl, rfl, by decide +kernel, rfl, by decide +kernel, by decide +kernel⟩
noncomputable def b_h_alike : Ms :=
    (mSeq (mFor (m1 zipS (mCons (mVar 0) (mCons (mVar 1) mNil))) (gTp 2 (gC (gNm 2) (gC (gNm 3) gN0)))
    (mIfS (m1 asB (m2 isnotV (mVar 2) (mC .non)))
    (mRet (mAndV (m2 isnotV (mVar 3) (mC .non)) (m2 eqV (m1 py_h_lifted (mCons (mVar 0) (mCons (m2 subV (mVar 3) (mVar 2)) mNil))) (mVar 1))))
    mSkip))
    (mRet (m1 (c1 allV) (mCons (mLc (m1 srcOf (mVar 1)) [3] (gNm 3) mYes (m2 isV (mVar 3) (mC .non))) mNil))))
noncomputable def py_h_alike : List PV → HS → R PV := mDef 2 2 b_h_alike
theorem ok_h_alike {k : Nat} {f : Addr} {fd : FuncData} (F : Fun K "_law_alike" "_law_alike" s_h_alike f fd) (hb : Binds K fd ["_law_row", "_law_other"] []) (hg : mg "_law_alike" = some (.ref f)) (B : Bt mg) (G_h_lifted : FnAt P w K mg base k "_law_lifted" py_h_lifted) : FnAt P w K mg base (k + 1) "_law_alike" py_h_alike :=
  have nd := sc_h_alike.nd
  fn_def (b := b_h_alike) F sc_h_alike hb hg fun cdv A outer s H E hr tk hp =>
    (sm_cons (sm_for hp (im_zip B.b_zip (am_cons (em_var (i := 0)) (am_cons (em_var (i := 1)) am_nil))) (gm_tup (gm_cons (gm_name (i := 2) nd) (gm_cons (gm_name (i := 3) nd) gm_nil)))
    (sm_one (sm_if (tm_cmp o_isnot (em_var (i := 2)) em_non)
    (sm_one (sm_ret (em_and (em_cmp o_isnot (em_var (i := 3)) em_non) (em_one (em_cmp (o_eq hr.units) (em_call tk hr G_h_lifted (am_cons (em_var (i := 0)) (am_cons (em_op o_sub (em_var (i := 3)) (em_var (i := 2))) am_nil))) (em_var (i := 1)))))))
    sm_nil)))
    (sm_one (sm_ret (em_callB Lt.b_all B.b_all (by decide +kernel) (am_cons (em_lc (own := [("_law_two", 3)]) nd (im_seq (em_var (i := 1))) (by kernel_rfl) (fun _ _ _ _ _ => (gm_name (i := 3) nd)) (fun _ _ _ _ _ => tsm_nil) (fun _ _ _ _ _ => (em_cmp o_is (em_var (i := 3)) em_non)) (by decide)) am_nil)))))
/-! _law_mixed -/
abbrev s_h_mixed : Stmt := topS 26
theorem sc_h_mixed : FnScope ["_law_state", "_law_rows_here", "_law_left", "_law_found", "_law_row"] ["_law_state", "_law_rows_here"] (defScope s_h_mixed) := ⟨rfl, rfl, rfl, by decide +kernel, rfl, by decide +kernel, by decide +kernel⟩
noncomputable def b_h_mixed : Ms :=
    (mSeq (mAsg (m1 (c1 listV) (mCons (mVar 1) mNil)) (gNm 2))
    (mSeq (mAsg (m1 dLst mNil) (gNm 3))
    (mSeq (mWhile (m1 asB (m2 neV (mVar 2) (m1 dLst mNil)))
    (mSeq (mAsg (mMeth isLst lPopAt (mVar 2) (mCons (m1 py_take (mCons (mVar 0) (mCons (m1 (c1 lenV) (mCons (mVar 2) mNil)) mNil))) mNil)) (gNm 4))
    (mDrop (mMeth isLst lApp (mVar 3) (mCons (m1 py_h_lifted (mCons (mVar 4) (mCons (m2 subV (m1 py_take (mCons (mVar 0) (mCons (mC (.int 19)) mNil))) (mC (.int 9))) mNil))) mNil)))))
    (mRet (mVar 3)))))
noncomputable def py_h_mixed : List PV → HS → R PV := mDef 2 3 b_h_mixed
theorem ok_h_mixed {k : Nat} {f : Addr} {fd : FuncData} (F : Fun K "_law_mixed" "_law_mixed" s_h_mixed f fd) (hb : Binds K fd ["_law_state", "_law_rows_here"] []) (hg : mg "_law_mixed" = some (.ref f)) (B : Bt mg) (G_take : FnAt P w K mg base k "_law_take" py_take) (G_h_lifted : FnAt P w K mg base k "_law_lifted" py_h_lifted) : FnAt P w K mg base (k + 1) "_law_mixed" py_h_mixed :=
  have nd := sc_h_mixed.nd
  fn_def (b := b_h_mixed) F sc_h_mixed hb hg fun cdv A outer s H E hr tk hp =>
    (sm_cons (sm_set (i := 2) nd (em_callTy Lt.b_list B.b_list (by decide +kernel) (am_cons (em_var (i := 1)) am_nil)))
    (sm_cons (sm_set (i := 3) nd (em_lst am_nil))
    (sm_cons (sm_while hp (tm_cmp (o_ne hr.units) (em_var (i := 2)) (em_lst am_nil))
    (sm_cons (sm_set (i := 4) nd (em_meth PySem.F.plainAttrs_list PySem.F.slot_list_pop PySem.F.type_list_pop ty_list l_popAt (em_var (i := 2)) (am_cons (em_call tk hr G_take (am_cons (em_var (i := 0)) (am_cons (em_callB Lt.b_len B.b_len (by decide +kernel) (am_cons (em_var (i := 2)) am_nil)) am_nil))) am_nil)))
    (sm_one (sm_expr (em_meth PySem.F.plainAttrs_list PySem.F.slot_list_append PySem.F.type_list_append ty_list l_app (em_var (i := 3)) (am_cons (em_call tk hr G_h_lifted (am_cons (em_var (i := 4)) (am_cons (em_op o_sub (em_call tk hr G_take (am_cons (em_var (i := 0)) (am_cons em_int am_nil))) em_int) am_nil))) am_nil))))))
    (sm_one (sm_ret (em_var (i := 3)))))))
/-! _law_right -/
abbrev s_h_right : Stmt := topS 27
theorem sc_h_right : FnScope ["_law_state", "_law_wide", "_law_rows_here", "_law_found", "_law_kept", "_law_other", "_law_told", "_law_number", "_law_more", "_law_ahead", "_law_first", "_law_place", "_law_turn", "_law_entry_here", "_law_row"] ["_law_state"] (defScope s_h_right) := ⟨rfl, rfl, rfl, by decide +kernel, rfl, by decide +kernel, by decide +kernel⟩
noncomputable def b_h_right : Ms :=
    (mSeq (mAsg (m2 addV (mC (.int 1)) (m1 py_take (mCons (mVar 0) (mCons (mC (.int 6)) mNil)))) (gNm 1))
    (mSeq (mAsg (m1 py_h_rows (mCons (mVar 0) (mCons (m2 getV (m1 dLst (mCons (m2 addV (mC (.int 1)) (m1 py_take (mCons (mVar 0) (mCons (mC (.int 6)) mNil)))) (mCons (m2 addV (mC (.int 1)) (m1 py_take (mCons (mVar 0) (mCons (mC (.int 20)) mNil)))) mNil))) (m1 py_take (mCons (mVar 0) (mCons (mC (.int 2)) mNil)))) (mCons (mVar 1) mNil)))) (gNm 2))
    (mSeq (mAsg (m1 py_few (mCons (mLc (m1 srcOf (mVar 2)) [14] (gNm 14) mYes (m1 (c1 listV) (mCons (mVar 14) mNil))) mNil)) (gNm 3))
    (mSeq (mAsg (mLc (m1 srcOf (mVar 3)) [7] (gNm 7) mYes (m2 getV (mVar 2) (mVar 7))) (gNm 4))
    (mSeq (mIfS (mAnd (m1 asB (m2 neV (mVar 4) (m1 dLst mNil))) (mNot (mTru (m1 (py_h_same 8) (mCons (m1 py_few (mCons (mLc (m1 srcOf (mVar 4)) [14] (gNm 14) mYes (m1 (c1 listV) (mCons (mVar 14) mNil))) mNil)) (mCons (m1 lrg1 (m1 (c1 lenV) (mCons (mVar 4) mNil))) mNil))))))
    (mRet (mC (.bl false)))
    mSkip)
    (mSeq (mAsg (m1 py_h_mixed (mCons (mVar 0) (mCons (mVar 2) mNil))) (gNm 5))
    (mSeq (mAsg (m1 py_few (mCons (mVar 5) mNil)) (gNm 6))
    (mSeq (mIfS (mOr (m1 asB (m2 neV (m1 (c1 lenV) (mCons (mVar 6) mNil)) (m1 (c1 lenV) (mCons (mVar 3) mNil)))) (mNot (mTru (m1 (py_h_same 8) (mCons (mVar 6) (mCons (m1 sortSetV (mVar 6)) mNil))))))
    (mRet (mC (.bl false)))
    mSkip)
    (mSeq (mFor (m1 srcOf (mVar 6)) (gNm 7)
    (mIfS (m1 asB (m2 neV (m1 (c1 lenV) (mCons (mLc (m1 srcOf (mVar 4)) [14] (gNm 14) (mTru (m1 py_h_alike (mCons (mVar 14) (mCons (m2 getV (mVar 5) (mVar 7)) mNil)))) (mVar 14)) mNil)) (mC (.int 1))))
    (mRet (mC (.bl false)))
    mSkip))
    (mSeq (mAsg (mLc (m1 rng1 (mCons (mC (.int 3)) mNil)) [12] (gNm 12) mYes (m1 py_h_made (mCons (mVar 2) (mCons (mLc (m1 srcOf (mVar 2)) [14] (gNm 14) mYes (m1 py_h_entry (mCons (mVar 0) (mCons (mC (.int 9)) (mCons (mC (.int 3)) mNil))))) mNil)))) (gNm 8))
    (mSeq (mAsg (mLc (m1 rng1 (mCons (mVar 1) mNil)) [11] (gNm 11) mYes (m1 py_h_entry (mCons (mVar 0) (mCons (mC (.int 9)) (mCons (mC (.int 4)) mNil))))) (gNm 9))
    (mSeq (mIfS (mNot (mTru (m1 (py_h_same 8) (mCons (m1 py_few (mCons (mLc (m1 srcOf (m2 addV (mVar 2) (mVar 8))) [14] (gNm 14) mYes (m1 (c1 listV) (mCons (mVar 14) mNil))) mNil)) (mCons (mVar 3) mNil)))))
    (mRet (mC (.bl false)))
    mSkip)
    (mSeq (mAsg (m1 py_few (mCons (m2 addV (m1 dLst (mCons (mVar 9) mNil)) (mLc (m1 srcOf (mVar 2)) [14] (gNm 14) mYes (m1 (c1 listV) (mCons (mVar 14) mNil)))) mNil)) (gNm 10))
    (mSeq (mAsg (m1 py_take (mCons (mVar 0) (mCons (m1 (c1 lenV) (mCons (mVar 5) mNil)) mNil))) (gNm 11))
    (mSeq (mAsg (mLc (m1 srcOf (m2 getV (mVar 5) (mVar 11))) [13] (gNm 13) mYes (m1 py_h_entry (mCons (mVar 0) (mCons (mC (.int 9)) (mCons (mC (.int 4)) mNil))))) (gSb (mVar 5) (mVar 11)))
    (mSeq (mIfS (mNot (mTru (m1 (py_h_same 8) (mCons (m1 py_few (mCons (mVar 5) mNil)) (mCons (m1 py_few (mCons (mLc (m1 srcOf (mVar 5)) [14] (gNm 14) mYes (m1 (c1 listV) (mCons (mVar 14) mNil))) mNil)) mNil)))))
    (mRet (mC (.bl false)))
    mSkip)
    (mSeq (mIfS (mNot (mTru (m1 (py_h_same 8) (mCons (m1 py_few (mCons (mLc (m1 srcOf (mVar 2)) [14] (gNm 14) mYes (m1 (c1 listV) (mCons (mVar 14) mNil))) mNil)) (mCons (mVar 3) mNil)))))
    (mRet (mC (.bl false)))
    mSkip)
    (mRet (m1 (py_h_same 8) (mCons (m1 py_few (mCons (m2 addV (m1 dLst (mCons (mVar 9) mNil)) (mLc (m1 srcOf (mVar 2)) [14] (gNm 14) mYes (m1 (c1 listV) (mCons (mVar 14) mNil)))) mNil)) (mCons (mVar 10) mNil)))))))))))))))))))))
noncomputable def py_h_right : List PV → HS → R PV := mDef 1 14 b_h_right
theorem ok_h_right {k : Nat} {f : Addr} {fd : FuncData} (F : Fun K "_law_right" "_law_right" s_h_right f fd) (hb : Binds K fd ["_law_state"] []) (hg : mg "_law_right" = some (.ref f)) (B : Bt mg) (G_take : FnAt P w K mg base k "_law_take" py_take) (G_h_rows : FnAt P w K mg base k "_law_rows" py_h_rows) (G_few : FnAt P w K mg base k "few" py_few) (G_h_same : FnAt P w K mg base k "_law_same" (py_h_same 8)) (G_h_mixed : FnAt P w K mg base k "_law_mixed" py_h_mixed) (G_h_alike : FnAt P w K mg base k "_law_alike" py_h_alike) (G_h_made : FnAt P w K mg base k "_law_made" py_h_made) (G_h_entry : FnAt P w K mg base k "_law_entry" py_h_entry) : FnAt P w K mg base (k + 1) "_law_right" py_h_right :=
  have nd := sc_h_right.nd
  fn_def (b := b_h_right) F sc_h_right hb hg fun cdv A outer s H E hr tk hp =>
    (sm_cons (sm_set (i := 1) nd (em_op o_add em_int (em_call tk hr G_take (am_cons (em_var (i := 0)) (am_cons em_int am_nil)))))
    (sm_cons (sm_set (i := 2) nd (em_call tk hr G_h_rows (am_cons (em_var (i := 0)) (am_cons (em_ix (hu_of hr) (em_lst (am_cons (em_op o_add em_int (em_call tk hr G_take (am_cons (em_var (i := 0)) (am_cons em_int am_nil)))) (am_cons (em_op o_add em_int (em_call tk hr G_take (am_cons (em_var (i := 0)) (am_cons em_int am_nil)))) am_nil))) (em_call tk hr G_take (am_cons (em_var (i := 0)) (am_cons em_int am_nil)))) (am_cons (em_var (i := 1)) am_nil)))))
    (sm_cons (sm_set (i := 3) nd (em_call tk hr G_few (am_cons (em_lc (own := [("_law_row", 14)]) nd (im_seq (em_var (i := 2))) (by kernel_rfl) (fun _ _ _ _ _ => (gm_name (i := 14) nd)) (fun _ _ _ _ _ => tsm_nil) (fun _ _ _ _ _ => (em_callTy Lt.b_list B.b_list (by decide +kernel) (am_cons (em_var (i := 14)) am_nil))) (by decide)) am_nil)))
    (sm_cons (sm_setLc (i := 4) (own := [("_law_number", 7)]) nd (sw_true rfl rfl rfl (by decide +kernel)) (im_seq (em_var (i := 3))) (by kernel_rfl) (fun _ _ _ _ _ => (gm_name (i := 7) nd)) (fun _ _ _ _ _ => tsm_nil) (fun _ _ _ _ _ => (em_ix (hu_of hr) (em_var (i := 2)) (em_var (i := 7)))) (by decide))
    (sm_cons (sm_if (tm_w (wm_and (tm_cmp (o_ne hr.units) (em_var (i := 4)) (em_lst am_nil)) (wm_and1 (tm_not (tm_tru (em_call tk hr G_h_same (am_cons (em_call tk hr G_few (am_cons (em_lc (own := [("_law_row", 14)]) nd (im_seq (em_var (i := 4))) (by kernel_rfl) (fun _ _ _ _ _ => (gm_name (i := 14) nd)) (fun _ _ _ _ _ => tsm_nil) (fun _ _ _ _ _ => (em_callTy Lt.b_list B.b_list (by decide +kernel) (am_cons (em_var (i := 14)) am_nil))) (by decide)) am_nil)) (am_cons (em_listRg1 B.b_list B.b_range (em_callB Lt.b_len B.b_len (by decide +kernel) (am_cons (em_var (i := 4)) am_nil))) am_nil))))))))
    (sm_one (sm_ret em_bl))
    sm_nil)
    (sm_cons (sm_set (i := 5) nd (em_call tk hr G_h_mixed (am_cons (em_var (i := 0)) (am_cons (em_var (i := 2)) am_nil))))
    (sm_cons (sm_set (i := 6) nd (em_call tk hr G_few (am_cons (em_var (i := 5)) am_nil)))
    (sm_cons (sm_if (tm_w (wm_or (tm_cmp (o_ne hr.units) (em_callB Lt.b_len B.b_len (by decide +kernel) (am_cons (em_var (i := 6)) am_nil)) (em_callB Lt.b_len B.b_len (by decide +kernel) (am_cons (em_var (i := 3)) am_nil))) (wm_or1 (tm_not (tm_tru (em_call tk hr G_h_same (am_cons (em_var (i := 6)) (am_cons (em_sortSet B.b_sorted B.b_set (em_var (i := 6))) am_nil))))))))
    (sm_one (sm_ret em_bl))
    sm_nil)
    (sm_cons (sm_for hp (im_seq (em_var (i := 6))) (gm_name (i := 7) nd)
    (sm_one (sm_if (tm_cmp (o_ne hr.units) (em_callB Lt.b_len B.b_len (by decide +kernel) (am_cons (em_lc (own := [("_law_row", 14)]) nd (im_seq (em_var (i := 4))) (by kernel_rfl) (fun _ _ _ _ _ => (gm_name (i := 14) nd)) (fun _ _ _ _ _ => (tsm_one (tm_tru (em_call takes0 hr G_h_alike (am_cons (em_var (i := 14)) (am_cons (em_ix (hu_of hr) (em_var (i := 5)) (em_var (i := 7))) am_nil)))))) (fun _ _ _ _ _ => (em_var (i := 14))) (by decide)) am_nil)) em_int)
    (sm_one (sm_ret em_bl))
    sm_nil)))
    (sm_cons (sm_setLc (i := 8) (own := [("_law_turn", 12)]) nd (sw_true rfl rfl rfl (by decide +kernel)) (im_range1 B.b_range (am_cons em_int am_nil)) (by kernel_rfl) (fun _ _ _ _ _ => (gm_name (i := 12) nd)) (fun _ _ _ _ _ => tsm_nil) (fun _ _ _ _ _ => (em_call takes0 hr G_h_made (am_cons (em_var (i := 2)) (am_cons (em_lc (own := [("_law_row", 14)]) nd (im_seq (em_var (i := 2))) (by kernel_rfl) (fun _ _ _ _ _ => (gm_name (i := 14) nd)) (fun _ _ _ _ _ => tsm_nil) (fun _ _ _ _ _ => (em_call takes0 hr G_h_entry (am_cons (em_var (i := 0)) (am_cons em_int (am_cons em_int am_nil))))) (by decide)) am_nil)))) (by decide))
    (sm_cons (sm_setLc (i := 9) (own := [("_law_place", 11)]) nd (sw_true rfl rfl rfl (by decide +kernel)) (im_range1 B.b_range (am_cons (em_var (i := 1)) am_nil)) (by kernel_rfl) (fun _ _ _ _ _ => (gm_name (i := 11) nd)) (fun _ _ _ _ _ => tsm_nil) (fun _ _ _ _ _ => (em_call takes0 hr G_h_entry (am_cons (em_var (i := 0)) (am_cons em_int (am_cons em_int am_nil))))) (by decide))
    (sm_cons (sm_if (tm_not (tm_tru (em_call tk hr G_h_same (am_cons (em_call tk hr G_few (am_cons (em_lc (own := [("_law_row", 14)]) nd (im_seq (em_op o_add (em_var (i := 2)) (em_var (i := 8)))) (by kernel_rfl) (fun _ _ _ _ _ => (gm_name (i := 14) nd)) (fun _ _ _ _ _ => tsm_nil) (fun _ _ _ _ _ => (em_callTy Lt.b_list B.b_list (by decide +kernel) (am_cons (em_var (i := 14)) am_nil))) (by decide)) am_nil)) (am_cons (em_var (i := 3)) am_nil)))))
    (sm_one (sm_ret em_bl))
    sm_nil)
    (sm_cons (sm_set (i := 10) nd (em_call tk hr G_few (am_cons (em_op o_add (em_lst (am_cons (em_var (i := 9)) am_nil)) (em_lc (own := [("_law_row", 14)]) nd (im_seq (em_var (i := 2))) (by kernel_rfl) (fun _ _ _ _ _ => (gm_name (i := 14) nd)) (fun _ _ _ _ _ => tsm_nil) (fun _ _ _ _ _ => (em_callTy Lt.b_list B.b_list (by decide +kernel) (am_cons (em_var (i := 14)) am_nil))) (by decide))) am_nil)))
    (sm_cons (sm_set (i := 11) nd (em_call tk hr G_take (am_cons (em_var (i := 0)) (am_cons (em_callB Lt.b_len B.b_len (by decide +kernel) (am_cons (em_var (i := 5)) am_nil)) am_nil))))
    (sm_cons (sm_asg (em_lc (own := [("_law_entry_here", 13)]) nd (im_seq (em_ix (hu_of hr) (em_var (i := 5)) (em_var (i := 11)))) (by kernel_rfl) (fun _ _ _ _ _ => (gm_name (i := 13) nd)) (fun _ _ _ _ _ => tsm_nil) (fun _ _ _ _ _ => (em_call takes0 hr G_h_entry (am_cons (em_var (i := 0)) (am_cons em_int (am_cons em_int am_nil))))) (by decide)) (gm_sub (hu_of hr) (em_var (i := 5)) (em_var (i := 11))))
    (sm_cons (sm_if (tm_not (tm_tru (em_call tk hr G_h_same (am_cons (em_call tk hr G_few (am_cons (em_var (i := 5)) am_nil)) (am_cons (em_call tk hr G_few (am_cons (em_lc (own := [("_law_row", 14)]) nd (im_seq (em_var (i := 5))) (by kernel_rfl) (fun _ _ _ _ _ => (gm_name (i := 14) nd)) (fun _ _ _ _ _ => tsm_nil) (fun _ _ _ _ _ => (em_callTy Lt.b_list B.b_list (by decide +kernel) (am_cons (em_var (i := 14)) am_nil))) (by decide)) am_nil)) am_nil)))))
    (sm_one (sm_ret em_bl))
    sm_nil)
    (sm_cons (sm_if (tm_not (tm_tru (em_call tk hr G_h_same (am_cons (em_call tk hr G_few (am_cons (em_lc (own := [("_law_row", 14)]) nd (im_seq (em_var (i := 2))) (by kernel_rfl) (fun _ _ _ _ _ => (gm_name (i := 14) nd)) (fun _ _ _ _ _ => tsm_nil) (fun _ _ _ _ _ => (em_callTy Lt.b_list B.b_list (by decide +kernel) (am_cons (em_var (i := 14)) am_nil))) (by decide)) am_nil)) (am_cons (em_var (i := 3)) am_nil)))))
    (sm_one (sm_ret em_bl))
    sm_nil)
    (sm_one (sm_ret (em_call tk hr G_h_same (am_cons (em_call tk hr G_few (am_cons (em_op o_add (em_lst (am_cons (em_var (i := 9)) am_nil)) (em_lc (own := [("_law_row", 14)]) nd (im_seq (em_var (i := 2))) (by kernel_rfl) (fun _ _ _ _ _ => (gm_name (i := 14) nd)) (fun _ _ _ _ _ => tsm_nil) (fun _ _ _ _ _ => (em_callTy Lt.b_list B.b_list (by decide +kernel) (am_cons (em_var (i := 14)) am_nil))) (by decide))) am_nil)) (am_cons (em_var (i := 10)) am_nil))))))))))))))))))))))
abbrev s_begin : Stmt := topS 15
theorem sc_begin : FnScope ["_law_script", "_law_cells"] ["_law_script"] (defScope s_begin) := ⟨rfl, rfl, rfl, by decide +kernel, rfl, by decide +kernel, by decide +kernel⟩
noncomputable def b_begin : Ms :=
    (mSeq (mIfS (m1 asB (m2 eqV (mVar 1) (m1 dLst mNil)))
    (mAsg (m1 dLst (mCons (mC (.int 7)) mNil)) (gNm 1))
    mSkip)
    (mRet (mDict [((mC (.str "cells")), (mVar 1)), ((mC (.str "turn")), (mC (.int 0)))])))
theorem ok_begin {k : Nat} {f : Addr} {fd : FuncData} (F : Fun K "_law_begin" "_law_begin" s_begin f fd) (B : Bt mg) (hbeg : BeginOk b_begin) : FnOk P w K mg base (L2.CX P w) (k + 1) f fd ["_law_script"] (spBegin K) := by
  have nd := sc_begin.nd
  refine F.okX sc_begin (fun vs H Q E h => by obtain ⟨a, ns, rfl, _⟩ := h; rfl) fun cdv A outer s H vs Q E hr h => ?_
  obtain ⟨a, ns, rfl, hS, hl, q⟩ := h
  have tk : Takes (bodyX P w K mg base ["_law_script", "_law_cells"] "_law_begin" s_begin f cdv A outer s H E) (fun cls d _ H => E cls d H) := takes_of rfl rfl rfl rfl
  have rest : PSsm (bodyX P w K mg base ["_law_script", "_law_cells"] "_law_begin" s_begin f cdv A outer s H E) (fun cls d _ H => E cls d H) ((defBody s_begin).drop 1) b_begin :=
    (sm_cons (sm_if (tm_cmp (o_eq hr.units) (em_var (i := 1)) (em_lst am_nil))
    (sm_one (sm_set (i := 1) nd (em_lst (am_cons em_int am_nil))))
    sm_nil)
    (sm_one (sm_ret (em_dict (ppm_cons em_str (em_var (i := 1)) (ppm_cons em_str em_int ppm_nil))))))
  exact ⟨_, pss_cons (ps_set (i := 1) nd rfl (by first | exact Or.inl rfl | exact Or.inr rfl) (pe_callTy call_list_of (by rfl) B.b_list (by decide +kernel) (pa_cons (pe_slice sl_list (pv 0) po_none (po_some pe_int)) pa_nil))) rest, begin_read hbeg hS hl q⟩
abbrev s_law : Stmt := topS 28
theorem sc_law : FnScope ["_law_script", "_law_state", "_law_turn"] ["_law_script"] (defScope s_law) := ⟨rfl, rfl, rfl, by decide +kernel, rfl, by decide +kernel, by decide +kernel⟩
noncomputable def b_law : Ms :=
    (mRet (m1 (c1 allV) (mCons (mLc (m1 rng1 (mCons (mC (.int 3)) mNil)) [2] (gNm 2) mYes (m1 py_h_right (mCons (mVar 1) mNil))) mNil)))
theorem ok_law {k : Nat} {f fB : Addr} {fd fdB : FuncData} (F : Fun K "law" "law" s_law f fd) (GB : FnOk P w K mg base (L2.CX P w) k fB fdB ["_law_script"] (spBegin K)) (kB : PySem.W.keepIn K (.ref fB) = true) (bB : Binds K fdB ["_law_script"] []) (gB : mg "_law_begin" = some (.ref fB)) (B : Bt mg) (G_h_right : FnAt P w K mg base k "_law_right" py_h_right) (hlaw : LawOk 1 b_law) : FnOk P w K mg base (L2.CX P w) (k + 1) f fd ["_law_script"] (spLaw K) := by
  have nd := sc_law.nd
  refine F.okX sc_law (fun vs H Q E h => by obtain ⟨a, ns, rfl, _⟩ := h; rfl) fun cdv A outer s H vs Q E hr h => ?_
  obtain ⟨a, ns, rfl, hS, hl, q⟩ := h
  have tk : Takes (bodyX P w K mg base ["_law_script", "_law_state", "_law_turn"] "law" s_law f cdv A outer s H E) (fun cls d _ H => E cls d H) := takes_of rfl rfl rfl rfl
  have hp : PassesOwn (model P w) (bodyX P w K mg base ["_law_script", "_law_state", "_law_turn"] "law" s_law f cdv A outer s H E).A (bodyX P w K mg base ["_law_script", "_law_state", "_law_turn"] "law" s_law f cdv A outer s H E).env (bodyX P w K mg base ["_law_script", "_law_state", "_law_turn"] "law" s_law f cdv A outer s H E).xe := passes_of rfl
  have rest : PSsm (bodyX P w K mg base ["_law_script", "_law_state", "_law_turn"] "law" s_law f cdv A outer s H E) (fun cls d _ H => E cls d H) ((defBody s_law).drop 1) b_law :=
    (sm_one (sm_ret (em_callB Lt.b_all B.b_all (by decide +kernel) (am_cons (em_lc (own := [("_law_turn", 2)]) nd (im_range1 B.b_range (am_cons em_int am_nil)) (by kernel_rfl) (fun _ _ _ _ _ => (gm_name (i := 2) nd)) (fun _ _ _ _ _ => tsm_nil) (fun _ _ _ _ _ => (em_call takes0 hr G_h_right (am_cons (em_var (i := 1)) am_nil))) (by decide)) am_nil))))
  exact ⟨_, pss_cons (ps_set (i := 1) nd rfl (by first | exact Or.inl rfl | exact Or.inr rfl) (pe_callS GB hr (by rfl) gB kB bB (passAt tk) (pa_cons (pv 0) pa_nil))) rest,
    ⟨.ref a, rfl, a, ns, rfl, hS, hl, fun H' pc pd cs h1 h2 hne g1 g2 => law_read hlaw h1 h2 hne g1 g2 q rfl⟩⟩
set_option maxHeartbeats 4000000 in
theorem all_mk {l : PySem.W.OpenLaw} {h : Heap} {fa : Addr} (X : K.In h) (G : h.Ns mainGlobals mg) (hfa : mg "law" = some (.ref fa)) (hbeg : BeginOk b_begin) (hlaw : LawOk 1 b_law)
    (t_lesser : Stands K "lesser" s_lesser)
    (t_summed : Stands K "summed" s_summed)
    (t_both : Stands K "both" s_both)
    (t_raised : Stands K "raised" s_raised)
    (t_is_empty : Stands K "is_empty" s_is_empty)
    (t_made : Stands K "made" s_made)
    (t_add_for : Stands K "add_for" s_add_for)
    (t_reach : Stands K "reach" s_reach)
    (t_is_alike : Stands K "is_alike" s_is_alike)
    (t_is_kept : Stands K "is_kept" s_is_kept)
    (t_few : Stands K "few" s_few)
    (t_take : Stands K "_law_take" s_take)
    (t_h_same : Stands K "_law_same" s_h_same)
    (t_h_entry : Stands K "_law_entry" s_h_entry)
    (t_h_sum : Stands K "_law_sum" s_h_sum)
    (t_h_less : Stands K "_law_less" s_h_less)
    (t_h_lifted : Stands K "_law_lifted" s_h_lifted)
    (t_h_both : Stands K "_law_both" s_h_both)
    (t_h_made : Stands K "_law_made" s_h_made)
    (t_h_rows : Stands K "_law_rows" s_h_rows)
    (t_h_alike : Stands K "_law_alike" s_h_alike)
    (t_h_mixed : Stands K "_law_mixed" s_h_mixed)
    (t_h_right : Stands K "_law_right" s_h_right)
    (t_begin : Stands K "_law_begin" s_begin)
    (t_law : Stands K "law" s_law)
    (z_all : PySem.W.nsIn K mainGlobals "all" = some none)
    (z_any : PySem.W.nsIn K mainGlobals "any" = some none)
    (z_bool : PySem.W.nsIn K mainGlobals "bool" = some none)
    (z_divmod : PySem.W.nsIn K mainGlobals "divmod" = some none)
    (z_int : PySem.W.nsIn K mainGlobals "int" = some none)
    (z_isinstance : PySem.W.nsIn K mainGlobals "isinstance" = some none)
    (z_len : PySem.W.nsIn K mainGlobals "len" = some none)
    (z_list : PySem.W.nsIn K mainGlobals "list" = some none)
    (z_min : PySem.W.nsIn K mainGlobals "min" = some none)
    (z_range : PySem.W.nsIn K mainGlobals "range" = some none)
    (z_set : PySem.W.nsIn K mainGlobals "set" = some none)
    (z_sorted : PySem.W.nsIn K mainGlobals "sorted" = some none)
    (z_str : PySem.W.nsIn K mainGlobals "str" = some none)
    (z_tuple : PySem.W.nsIn K mainGlobals "tuple" = some none)
    (z_zip : PySem.W.nsIn K mainGlobals "zip" = some none) :
    ∃ fd : FuncData, (∀ (s : Shared) (v : Value), BindsTo s fd ⟨[v], []⟩ [("_law_script", v)]) ∧ ∀ base : Heap, K.In base → base.Ns mainGlobals mg → FnOk l.prog w K mg base (L2.CX l.prog w) 11 fa fd ["_law_script"] (spLaw K) := by
  have B : Bt mg := ⟨PySem.W.mg_none_of X G z_all, PySem.W.mg_none_of X G z_any, PySem.W.mg_none_of X G z_bool, PySem.W.mg_none_of X G z_divmod, PySem.W.mg_none_of X G z_int, PySem.W.mg_none_of X G z_isinstance, PySem.W.mg_none_of X G z_len, PySem.W.mg_none_of X G z_list, PySem.W.mg_none_of X G z_min, PySem.W.mg_none_of X G z_range, PySem.W.mg_none_of X G z_set, PySem.W.mg_none_of X G z_sorted, PySem.W.mg_none_of X G z_str, PySem.W.mg_none_of X G z_tuple, PySem.W.mg_none_of X G z_zip⟩
  obtain ⟨f_lesser, fd_lesser, F_lesser, g_lesser, x_lesser⟩ := t_lesser.get X G
  have b_lesser := F_lesser.binds (ps := ["one", "other"]) fun _ _ _ _ _ _ us hl => match us, hl with | [_, _], _ => rfl
  obtain ⟨f_summed, fd_summed, F_summed, g_summed, x_summed⟩ := t_summed.get X G
  have b_summed := F_summed.binds (ps := ["one", "other"]) fun _ _ _ _ _ _ us hl => match us, hl with | [_, _], _ => rfl
  obtain ⟨f_both, fd_both, F_both, g_both, x_both⟩ := t_both.get X G
  have b_both := F_both.binds (ps := ["row", "other"]) fun _ _ _ _ _ _ us hl => match us, hl with | [_, _], _ => rfl
  obtain ⟨f_raised, fd_raised, F_raised, g_raised, x_raised⟩ := t_raised.get X G
  have b_raised := F_raised.binds (ps := ["row", "entry"]) fun _ _ _ _ _ _ us hl => match us, hl with | [_, _], _ => rfl
  obtain ⟨f_is_empty, fd_is_empty, F_is_empty, g_is_empty, x_is_empty⟩ := t_is_empty.get X G
  have b_is_empty := F_is_empty.binds (ps := ["row"]) fun _ _ _ _ _ _ us hl => match us, hl with | [_], _ => rfl
  obtain ⟨f_made, fd_made, F_made, g_made, x_made⟩ := t_made.get X G
  have b_made := F_made.binds (ps := ["rows", "adds"]) fun _ _ _ _ _ _ us hl => match us, hl with | [_, _], _ => rfl
  obtain ⟨f_add_for, fd_add_for, F_add_for, g_add_for, x_add_for⟩ := t_add_for.get X G
  have b_add_for := F_add_for.binds (ps := ["row", "other"]) fun _ _ _ _ _ _ us hl => match us, hl with | [_, _], _ => rfl
  obtain ⟨f_reach, fd_reach, F_reach, g_reach, x_reach⟩ := t_reach.get X G
  have b_reach := F_reach.binds (ps := ["rows", "row"]) fun _ _ _ _ _ _ us hl => match us, hl with | [_, _], _ => rfl
  obtain ⟨f_is_alike, fd_is_alike, F_is_alike, g_is_alike, x_is_alike⟩ := t_is_alike.get X G
  have b_is_alike := F_is_alike.binds (ps := ["row", "other"]) fun _ _ _ _ _ _ us hl => match us, hl with | [_, _], _ => rfl
  obtain ⟨f_is_kept, fd_is_kept, F_is_kept, g_is_kept, x_is_kept⟩ := t_is_kept.get X G
  have b_is_kept := F_is_kept.binds (ps := ["rows", "number"]) fun _ _ _ _ _ _ us hl => match us, hl with | [_, _], _ => rfl
  obtain ⟨f_few, fd_few, F_few, g_few, x_few⟩ := t_few.get X G
  have b_few := F_few.binds (ps := ["rows"]) fun _ _ _ _ _ _ us hl => match us, hl with | [_], _ => rfl
  obtain ⟨f_take, fd_take, F_take, g_take, x_take⟩ := t_take.get X G
  have b_take := F_take.binds (ps := ["_law_state", "_law_many"]) fun _ _ _ _ _ _ us hl => match us, hl with | [_, _], _ => rfl
  obtain ⟨f_h_same, fd_h_same, F_h_same, g_h_same, x_h_same⟩ := t_h_same.get X G
  have b_h_same := F_h_same.binds (ps := ["_law_found", "_law_due"]) fun _ _ _ _ _ _ us hl => match us, hl with | [_, _], _ => rfl
  obtain ⟨f_h_entry, fd_h_entry, F_h_entry, g_h_entry, x_h_entry⟩ := t_h_entry.get X G
  have b_h_entry := F_h_entry.binds (ps := ["_law_state", "_law_most", "_law_odds"]) fun _ _ _ _ _ _ us hl => match us, hl with | [_, _, _], _ => rfl
  obtain ⟨f_h_sum, fd_h_sum, F_h_sum, g_h_sum, x_h_sum⟩ := t_h_sum.get X G
  have b_h_sum := F_h_sum.binds (ps := ["_law_one", "_law_other"]) fun _ _ _ _ _ _ us hl => match us, hl with | [_, _], _ => rfl
  obtain ⟨f_h_less, fd_h_less, F_h_less, g_h_less, x_h_less⟩ := t_h_less.get X G
  have b_h_less := F_h_less.binds (ps := ["_law_one", "_law_other"]) fun _ _ _ _ _ _ us hl => match us, hl with | [_, _], _ => rfl
  obtain ⟨f_h_lifted, fd_h_lifted, F_h_lifted, g_h_lifted, x_h_lifted⟩ := t_h_lifted.get X G
  have b_h_lifted := F_h_lifted.binds (ps := ["_law_row", "_law_entry_here"]) fun _ _ _ _ _ _ us hl => match us, hl with | [_, _], _ => rfl
  obtain ⟨f_h_both, fd_h_both, F_h_both, g_h_both, x_h_both⟩ := t_h_both.get X G
  have b_h_both := F_h_both.binds (ps := ["_law_row", "_law_other"]) fun _ _ _ _ _ _ us hl => match us, hl with | [_, _], _ => rfl
  obtain ⟨f_h_made, fd_h_made, F_h_made, g_h_made, x_h_made⟩ := t_h_made.get X G
  have b_h_made := F_h_made.binds (ps := ["_law_rows_here", "_law_adds"]) fun _ _ _ _ _ _ us hl => match us, hl with | [_, _], _ => rfl
  obtain ⟨f_h_rows, fd_h_rows, F_h_rows, g_h_rows, x_h_rows⟩ := t_h_rows.get X G
  have b_h_rows := F_h_rows.binds (ps := ["_law_state", "_law_many", "_law_wide"]) fun _ _ _ _ _ _ us hl => match us, hl with | [_, _, _], _ => rfl
  obtain ⟨f_h_alike, fd_h_alike, F_h_alike, g_h_alike, x_h_alike⟩ := t_h_alike.get X G
  have b_h_alike := F_h_alike.binds (ps := ["_law_row", "_law_other"]) fun _ _ _ _ _ _ us hl => match us, hl with | [_, _], _ => rfl
  obtain ⟨f_h_mixed, fd_h_mixed, F_h_mixed, g_h_mixed, x_h_mixed⟩ := t_h_mixed.get X G
  have b_h_mixed := F_h_mixed.binds (ps := ["_law_state", "_law_rows_here"]) fun _ _ _ _ _ _ us hl => match us, hl with | [_, _], _ => rfl
  obtain ⟨f_h_right, fd_h_right, F_h_right, g_h_right, x_h_right⟩ := t_h_right.get X G
  have b_h_right := F_h_right.binds (ps := ["_law_state"]) fun _ _ _ _ _ _ us hl => match us, hl with | [_], _ => rfl
  obtain ⟨f_begin, fd_begin, F_begin, g_begin, x_begin⟩ := t_begin.get X G
  have b_begin := F_begin.binds (ps := ["_law_script"]) fun _ _ _ _ _ _ us hl => match us, hl with | [_], _ => rfl
  obtain ⟨f_law, fd_law, F_law, g_law, x_law⟩ := t_law.get X G
  have b_law := F_law.binds (ps := ["_law_script"]) fun _ _ _ _ _ _ us hl => match us, hl with | [_], _ => rfl
  rw [g_law] at hfa
  cases hfa
  refine ⟨fd_law, fun s v => ?_, fun base _ _ => ?_⟩
  · obtain ⟨_, _, _, _, _, _, rfl⟩ := x_law
    exact .of_eq rfl
  · have G_lesser := ok_lesser (P := l.prog) (w := w) (base := base) (k := 0) F_lesser b_lesser g_lesser B
    have G_summed := ok_summed (P := l.prog) (w := w) (base := base) (k := 0) F_summed b_summed g_summed B
    have G_both := ok_both (P := l.prog) (w := w) (base := base) (k := 1) F_both b_both g_both B (G_lesser.mono (by decide))
    have G_raised := ok_raised (P := l.prog) (w := w) (base := base) (k := 1) F_raised b_raised g_raised B (G_summed.mono (by decide))
    have G_is_empty := ok_is_empty (P := l.prog) (w := w) (base := base) (k := 0) F_is_empty b_is_empty g_is_empty B
    have G_made := ok_made (P := l.prog) (w := w) (base := base) (k := 2) F_made b_made g_made B (G_both.mono (by decide)) (G_raised.mono (by decide))
    have G_add_for := ok_add_for (P := l.prog) (w := w) (base := base) (k := 0) F_add_for b_add_for g_add_for B
    have G_reach := ok_reach (P := l.prog) (w := w) (base := base) (k := 3) F_reach b_reach g_reach B (G_add_for.mono (by decide)) (G_made.mono (by decide))
    have G_is_alike := ok_is_alike (P := l.prog) (w := w) (base := base) (k := 2) F_is_alike b_is_alike g_is_alike B (G_raised.mono (by decide)) (G_is_empty.mono (by decide))
    have G_is_kept := ok_is_kept (P := l.prog) (w := w) (base := base) (k := 4) F_is_kept b_is_kept g_is_kept B (G_is_empty.mono (by decide)) (G_is_alike.mono (by decide)) (G_reach.mono (by decide))
    have G_few := ok_few (P := l.prog) (w := w) (base := base) (k := 5) F_few b_few g_few B (G_is_kept.mono (by decide))
    have G_take := ok_take (P := l.prog) (w := w) (base := base) (k := 0) F_take b_take g_take B
    have R_h_same : ∀ k : Nat, FnAt l.prog w K mg base (1 + k) "_law_same" (py_h_same k) := fun k => by
      induction k with
      | zero => exact (fn_no F_h_same sc_h_same b_h_same g_h_same).mono (by decide)
      | succ k ih => exact ok_h_same F_h_same b_h_same g_h_same B ih
    have G_h_same := R_h_same 8
    have G_h_entry := ok_h_entry (P := l.prog) (w := w) (base := base) (k := 1) F_h_entry b_h_entry g_h_entry B (G_take.mono (by decide))
    have G_h_sum := ok_h_sum (P := l.prog) (w := w) (base := base) (k := 0) F_h_sum b_h_sum g_h_sum B
    have G_h_less := ok_h_less (P := l.prog) (w := w) (base := base) (k := 0) F_h_less b_h_less g_h_less B
    have G_h_lifted := ok_h_lifted (P := l.prog) (w := w) (base := base) (k := 1) F_h_lifted b_h_lifted g_h_lifted B (G_h_sum.mono (by decide))
    have G_h_both := ok_h_both (P := l.prog) (w := w) (base := base) (k := 1) F_h_both b_h_both g_h_both B (G_h_less.mono (by decide))
    have G_h_made := ok_h_made (P := l.prog) (w := w) (base := base) (k := 2) F_h_made b_h_made g_h_made B (G_h_both.mono (by decide)) (G_h_lifted.mono (by decide))
    have G_h_rows := ok_h_rows (P := l.prog) (w := w) (base := base) (k := 2) F_h_rows b_h_rows g_h_rows B (G_take.mono (by decide)) (G_h_entry.mono (by decide)) (G_h_lifted.mono (by decide)) (G_h_both.mono (by decide))
    have G_h_alike := ok_h_alike (P := l.prog) (w := w) (base := base) (k := 2) F_h_alike b_h_alike g_h_alike B (G_h_lifted.mono (by decide))
    have G_h_mixed := ok_h_mixed (P := l.prog) (w := w) (base := base) (k := 2) F_h_mixed b_h_mixed g_h_mixed B (G_take.mono (by decide)) (G_h_lifted.mono (by decide))
    have G_h_right := ok_h_right (P := l.prog) (w := w) (base := base) (k := 9) F_h_right b_h_right g_h_right B (G_take.mono (by decide)) (G_h_rows.mono (by decide)) (G_few.mono (by decide)) (G_h_same.mono (by decide)) (G_h_mixed.mono (by decide)) (G_h_alike.mono (by decide)) (G_h_made.mono (by decide)) (G_h_entry.mono (by decide))
    have GB := ok_begin (P := l.prog) (w := w) (base := base) (k := 0) F_begin B hbeg
    exact ok_law (k := 10) F_law (GB.mono (by decide)) F_begin.kp b_begin g_begin B (G_h_right.mono (by decide)) hlaw
end
end Lw
namespace Lw
open PySem L2 Lt
/-! lesser -/
noncomputable def f_lesser : Ds :=
    (dSeq (dIfS (dOr (dAsB (d2 isD (dVar 0) (dC .non))) (dAnd (dAsB (d2 isnotD (dVar 1) (dC .non))) (dAsB (d2 ltD (dVar 1) (dVar 0)))))
    (dRet (dChk (dVar 1)))
    dSkip)
    (dRet (dChk (dVar 0))))
noncomputable def d_lesser : List D → G → Rd D := dDef 2 0 f_lesser
theorem fu_lesser : FnF py_lesser d_lesser :=
  fn_fr (n := 2) (r := 0) (κ' := []) <|
    (ps_seq (ps_if (pt_or (pt_asB (PuX.rd (PuX.map2 PR.mon pp_is (pe_varR (i := 0)) (PuX.rd pe_non)))) (pt_and (pt_asB (PuX.rd (PuX.map2 PR.mon pp_isnot (pe_varR (i := 1)) (PuX.rd pe_non)))) (pt_asB (PuX.rd (PuX.map2 PR.mon pp_lt (pe_varR (i := 1)) (pe_varR (i := 0)))))))
    (ps_ret (pe_chk (PuX.rd (pe_var (i := 1)))))
    ps_skip)
    (ps_ret (pe_chk (PuX.rd (pe_var (i := 0))))))
/-! summed -/
noncomputable def f_summed : Ds :=
    (dSeq (dIfS (dOr (dAsB (d2 isD (dVar 0) (dC .non))) (dAsB (d2 isD (dVar 1) (dC .non))))
    (dRet (dC .non))
    dSkip)
    (dRet (d2 addC (dVar 0) (dVar 1))))
noncomputable def d_summed : List D → G → Rd D := dDef 2 0 f_summed
theorem fu_summed : FnF py_summed d_summed :=
  fn_fr (n := 2) (r := 0) (κ' := []) <|
    (ps_seq (ps_if (pt_or (pt_asB (PuX.rd (PuX.map2 PR.mon pp_is (pe_varR (i := 0)) (PuX.rd pe_non)))) (pt_asB (PuX.rd (PuX.map2 PR.mon pp_is (pe_varR (i := 1)) (PuX.rd pe_non)))))
    (ps_ret pe_non)
    ps_skip)
    (ps_ret (PuX.map2 PR.mon pp_addC (pe_varR (i := 0)) (pe_varR (i := 1)))))
/-! both -/
noncomputable def f_both : Ds :=
    (dRet (dLc (d1 (dO zipT) (dCons (dVar 0) (dCons (dVar 1) dNil))) [2, 3] (tTp 2 (tC (tNm 2) (tC (tNm 3) t0))) dYes (d1 d_lesser (dCons (dVar 2) (dCons (dVar 3) dNil)))))
noncomputable def d_both : List D → G → Rd D := dDef 2 2 f_both
theorem fu_both : FnF py_both d_both :=
  fn_fr (n := 2) (r := 2) (κ' := []) <|
    (ps_ret (pe_lc (m := .fr) (k := .rk) (pi_zip (k := .rk) (PuX.krs (pa_cons (pe_varR (i := 0)) (pa_cons (pe_varR (i := 1)) pa_nil)))) (pg_tup (pg_cons (pg_name (k := .rk) (i := 2)) (pg_cons (pg_name (k := .rk) (i := 3)) pg_nil))) pt_yes (pe_call fu_lesser (pa_cons (pe_varR (i := 2)) (pa_cons (pe_varR (i := 3)) pa_nil)))))
/-! raised -/
noncomputable def f_raised : Ds :=
    (dRet (dLc (d1 (dO D.seq) (dVar 0)) [2] (tNm 2) dYes (d1 d_summed (dCons (dVar 2) (dCons (dVar 1) dNil)))))
noncomputable def d_raised : List D → G → Rd D := dDef 2 1 f_raised
theorem fu_raised : FnF py_raised d_raised :=
  fn_fr (n := 2) (r := 1) (κ' := []) <|
    (ps_ret (pe_lc (m := .fr) (k := .rk) (pi_seq (k := .rk) (PuX.kr (pe_varR (i := 0)))) (pg_name (k := .rk) (i := 2)) pt_yes (pe_call fu_summed (pa_cons (pe_varR (i := 2)) (pa_cons (pe_varR (i := 1)) pa_nil)))))
/-! is_empty -/
noncomputable def f_is_empty : Ds :=
    (dRet (d1 (dc1 (dO (onBls fun bs => bs.all id))) (dCons (dLc (d1 (dO D.seq) (dVar 0)) [1] (tNm 1) dYes (d2 isD (dVar 1) (dC .non))) dNil)))
noncomputable def d_is_empty : List D → G → Rd D := dDef 1 1 f_is_empty
theorem fu_is_empty : FnF py_is_empty d_is_empty :=
  fn_fr (n := 1) (r := 1) (κ' := []) <|
    (ps_ret (PuX.map (pa_cons (PuX.rd (pe_lc (m := .fr) (k := .rk) (pi_seq (k := .rk) (PuX.kr (pe_varR (i := 0)))) (pg_name (k := .rk) (i := 1)) pt_yes (PuX.map2 PR.mon pp_is (pe_varR (i := 1)) (PuX.rd pe_non)))) pa_nil) (pp_c1 pp_all)))
/-! made -/
noncomputable def f_made : Ds :=
    (dSeq (dAsg (d2 mulD (d1 (dO fun ds => (dLstD ds).map .lst) (dCons (dC .non) dNil)) (d1 (dc1 (dO lenT)) (dCons (d2 getD' (dVar 0) (dC (.int 0))) dNil))) (tNm 2))
    (dSeq (dFor (d1 (dO zipT) (dCons (dVar 0) (dCons (dVar 1) dNil))) (tTp 2 (tC (tNm 3) (tC (tNm 4) t0)))
    (dAsg (d1 d_both (dCons (dVar 2) (dCons (d1 d_raised (dCons (dVar 3) (dCons (dVar 4) dNil))) dNil))) (tNm 2)))
    (dRet (dVar 2))))
noncomputable def d_made : List D → G → Rd D := dDef 2 3 f_made
theorem fu_made : FnF py_made d_made :=
  fn_fr (n := 2) (r := 3) (κ' := []) <|
    (ps_seq (sa_tr (i := 2) (PuX.map2 PR.mon pp_mul (PuX.rd (pe_lst (m := .fr) (pa_cons pe_non pa_nil))) (PuX.rd (PuX.map (pa_cons (PuX.map2 PR.mon (pp_get (m := .rd)) (pe_varR (i := 0)) (PuX.rd pe_int)) pa_nil) (pp_c1 pp_len)))))
    (ps_seq (ps_for (pi_zip (k := .im) (PuX.kis (m := .bo) (pa_cons (pe_var (i := 0)) (pa_cons (pe_var (i := 1)) pa_nil)))) (pg_tup (pg_cons (pg_name (k := .im) (i := 3)) (pg_cons (pg_name (k := .im) (i := 4)) pg_nil)))
    (sa_tr (i := 2) (pe_call fu_both (pa_cons (pe_varR (i := 2)) (pa_cons (PuX.rd (pe_call fu_raised (pa_cons (pe_varR (i := 3)) (pa_cons (pe_varR (i := 4)) pa_nil)))) pa_nil)))))
    (ps_ret (pe_take (i := 2)))))
/-! add_for -/
noncomputable def f_add_for : Ds :=
    (dSeq (dAsg (dC .non) (tNm 2))
    (dSeq (dFor (d1 (dO zipT) (dCons (dVar 0) (dCons (dVar 1) dNil))) (tTp 2 (tC (tNm 3) (tC (tNm 4) t0)))
    (dSeq (dIfS (dAsB (d2 isD (dVar 3) (dC .non)))
    dCnt
    dSkip)
    (dSeq (dIfS (dAsB (d2 isD (dVar 4) (dC .non)))
    (dRet (dC .non))
    dSkip)
    (dIfS (dOr (dAsB (d2 isD (dVar 2) (dC .non))) (dAsB (d2 gtD (d2 subD (dVar 4) (dVar 3)) (dVar 2))))
    (dAsg (d2 subD (dVar 4) (dVar 3)) (tNm 2))
    dSkip))))
    (dRet (dChk (dVar 2)))))
noncomputable def d_add_for : List D → G → Rd D := dDef 2 3 f_add_for
theorem fu_add_for : FnF py_add_for d_add_for :=
  fn_fr (n := 2) (r := 3) (κ' := []) <|
    (ps_seq (sa_im (i := 2) (m := .bo) (PuX.bo pe_non))
    (ps_seq (ps_for (pi_zip (k := .im) (PuX.kis (m := .bo) (pa_cons (pe_var (i := 0)) (pa_cons (pe_var (i := 1)) pa_nil)))) (pg_tup (pg_cons (pg_name (k := .im) (i := 3)) (pg_cons (pg_name (k := .im) (i := 4)) pg_nil)))
    (ps_seq (ps_if (pt_asB (PuX.rd (PuX.map2 PR.mon pp_is (pe_varR (i := 3)) (PuX.rd pe_non))))
    ps_cnt
    ps_skip)
    (ps_seq (ps_if (pt_asB (PuX.rd (PuX.map2 PR.mon pp_is (pe_varR (i := 4)) (PuX.rd pe_non))))
    (ps_ret pe_non)
    ps_skip)
    (ps_if (pt_or (pt_asB (PuX.rd (PuX.map2 PR.mon pp_is (pe_varR (i := 2)) (PuX.rd pe_non)))) (pt_asB (PuX.rd (PuX.map2 PR.mon pp_gt (PuX.rd (PuX.map2 PR.mon pp_sub (pe_varR (i := 4)) (pe_varR (i := 3)))) (pe_varR (i := 2))))))
    (sa_im (i := 2) (m := .bo) (PuX.bo (PuX.map2 PR.mon pp_sub (pe_varR (i := 4)) (pe_varR (i := 3)))))
    ps_skip))))
    (ps_ret (pe_chk (PuX.rd (pe_var (i := 2)))))))
/-! reach -/
noncomputable def f_reach : Ds :=
    (dSeq (dAsg (dLc (d1 (dO D.seq) (dVar 0)) [3] (tNm 3) dYes (d1 d_add_for (dCons (dVar 3) (dCons (dVar 1) dNil)))) (tNm 2))
    (dRet (d1 (dO dTupD) (dCons (dVar 2) (dCons (d1 d_made (dCons (dVar 0) (dCons (dVar 2) dNil))) dNil)))))
noncomputable def d_reach : List D → G → Rd D := dDef 2 2 f_reach
theorem fu_reach : FnF py_reach d_reach :=
  fn_fr (n := 2) (r := 2) (κ' := []) <|
    (ps_seq (sa_tr (i := 2) (pe_lc (m := .fr) (k := .rk) (pi_seq (k := .rk) (PuX.kr (pe_varR (i := 0)))) (pg_name (k := .rk) (i := 3)) pt_yes (pe_call fu_add_for (pa_cons (pe_varR (i := 3)) (pa_cons (pe_varR (i := 1)) pa_nil)))))
    (ps_ret (pe_tup (m := .fr) (pa_cons (pe_take (i := 2)) (pa_cons (pe_call fu_made (pa_cons (pe_varR (i := 0)) (pa_cons (pe_varR (i := 2)) pa_nil))) pa_nil)))))
/-! is_alike -/
noncomputable def f_is_alike : Ds :=
    (dSeq (dFor (d1 (dO zipT) (dCons (dVar 0) (dCons (dVar 1) dNil))) (tTp 2 (tC (tNm 2) (tC (tNm 3) t0)))
    (dIfS (dAsB (d2 isnotD (dVar 2) (dC .non)))
    (dRet (dAndV (d2 isnotD (dVar 3) (dC .non)) (d2 eqD (d1 d_raised (dCons (dVar 0) (dCons (d2 subD (dVar 3) (dVar 2)) dNil))) (d1 (dc1 (dO fun b => (listC b).map .lst)) (dCons (dVar 1) dNil)))))
    dSkip))
    (dRet (d1 d_is_empty (dCons (dVar 1) dNil))))
noncomputable def d_is_alike : List D → G → Rd D := dDef 2 2 f_is_alike
theorem fu_is_alike : FnF py_is_alike d_is_alike :=
  fn_fr (n := 2) (r := 2) (κ' := []) <|
    (ps_seq (ps_for (pi_zip (k := .im) (PuX.kis (m := .bo) (pa_cons (pe_var (i := 0)) (pa_cons (pe_var (i := 1)) pa_nil)))) (pg_tup (pg_cons (pg_name (k := .im) (i := 2)) (pg_cons (pg_name (k := .im) (i := 3)) pg_nil)))
    (ps_if (pt_asB (PuX.rd (PuX.map2 PR.mon pp_isnot (pe_varR (i := 2)) (PuX.rd pe_non))))
    (ps_ret (pe_and (PuX.map2 PR.mon pp_isnot (pe_varR (i := 3)) (PuX.rd pe_non)) (PuX.map2 PR.mon pp_eq (PuX.rd (pe_call fu_raised (pa_cons (pe_varR (i := 0)) (pa_cons (PuX.rd (PuX.map2 PR.mon pp_sub (pe_varR (i := 3)) (pe_varR (i := 2)))) pa_nil)))) (PuX.rd (PuX.map (pa_cons (pe_varR (i := 1)) pa_nil) (pp_c1 pp_listC))))))
    ps_skip))
    (ps_ret (pe_call fu_is_empty (pa_cons (pe_varR (i := 1)) pa_nil))))
/-! is_kept -/
noncomputable def f_is_kept : Ds :=
    (dSeq (dAsg (d2 getD' (dVar 0) (dVar 1)) (tNm 2))
    (dSeq (dIfS (dOr (dTru (d1 d_is_empty (dCons (dVar 2) dNil))) (dTru (d1 (dc1 (dO (onBls fun bs => bs.any id))) (dCons (dLc (d1 (dO D.seq) (d3 sliceD (dVar 0) (fun _ g => .ok none g) (d1 (dO asID) (dVar 1)))) [4] (tNm 4) dYes (d1 d_is_alike (dCons (dVar 4) (dCons (dVar 2) dNil)))) dNil))))
    (dRet (dC (.bl false)))
    dSkip)
    (dSeq (dAsg (dLc (d1 (dO D.seq) (dVar 0)) [4] (tNm 4) (dNot (dTru (d1 d_is_alike (dCons (dVar 4) (dCons (dVar 2) dNil))))) (dVar 4)) (tNm 3))
    (dRet (dOrV (d2 eqD (dVar 3) (d1 (dO fun ds => (dLstD ds).map .lst) dNil)) (d2 neD (d2 getD' (d1 d_reach (dCons (dVar 3) (dCons (dVar 2) dNil))) (dC (.int 1))) (d1 (dc1 (dO fun b => (listC b).map .lst)) (dCons (dVar 2) dNil))))))))
noncomputable def d_is_kept : List D → G → Rd D := dDef 2 3 f_is_kept
theorem fu_is_kept : FnF py_is_kept d_is_kept :=
  fn_fr (n := 2) (r := 3) (κ' := []) <|
    (ps_seq (sa_im (i := 2) (m := .bo) (PuX.map2 PR.mon (pp_get (m := .bo)) (pe_var (i := 0)) (pe_varR (i := 1))))
    (ps_seq (ps_if (pt_or (pt_tru (PuX.rd (pe_call fu_is_empty (pa_cons (pe_varR (i := 2)) pa_nil)))) (pt_tru (PuX.rd (PuX.map (pa_cons (PuX.rd (pe_lc (m := .fr) (k := .rk) (pi_seq (k := .rk) (PuX.kr (PuX.rd (PuX.map3 PR.mon PE.mon (pp_slice (m := .bo)) (pe_var (i := 0)) po_none (PuX.map (pe_varR (i := 1)) pp_asI))))) (pg_name (k := .rk) (i := 4)) pt_yes (pe_call fu_is_alike (pa_cons (pe_varR (i := 4)) (pa_cons (pe_varR (i := 2)) pa_nil))))) pa_nil) (pp_c1 pp_any)))))
    (ps_ret pe_bl)
    ps_skip)
    (ps_seq (sa_im (i := 3) (m := .bo) (pe_lc (m := .bo) (k := .im) (pi_seq (k := .im) (PuX.ki (m := .bo) (pe_var (i := 0)))) (pg_name (k := .im) (i := 4)) (pt_not (pt_tru (PuX.rd (pe_call fu_is_alike (pa_cons (pe_varR (i := 4)) (pa_cons (pe_varR (i := 2)) pa_nil)))))) (pe_var (i := 4))))
    (ps_ret (pe_or (PuX.map2 PR.mon pp_eq (pe_varR (i := 3)) (PuX.rd (pe_lst (m := .fr) pa_nil))) (PuX.map2 PR.mon pp_ne (PuX.map2 PR.mon (pp_get (m := .rd)) (PuX.rd (pe_call fu_reach (pa_cons (pe_varR (i := 3)) (pa_cons (pe_varR (i := 2)) pa_nil)))) (PuX.rd pe_int)) (PuX.rd (PuX.map (pa_cons (pe_varR (i := 2)) pa_nil) (pp_c1 pp_listC)))))))))
/-! few -/
noncomputable def f_few : Ds :=
    (dRet (dLc (d1 (dO rng1T) (dCons (d1 (dc1 (dO lenT)) (dCons (dVar 0) dNil)) dNil)) [1] (tNm 1) (dTru (d1 d_is_kept (dCons (dVar 0) (dCons (dVar 1) dNil)))) (dChk (dVar 1))))
noncomputable def d_few : List D → G → Rd D := dDef 1 1 f_few
theorem fu_few : FnF py_few d_few :=
  fn_fr (n := 1) (r := 1) (κ' := []) <|
    (ps_ret (pe_lc (m := .fr) (k := .rk) (pi_range1 (k := .rk) (pa_cons (PuX.rd (PuX.map (pa_cons (pe_varR (i := 0)) pa_nil) (pp_c1 pp_len))) pa_nil)) (pg_name (k := .rk) (i := 1)) (pt_tru (PuX.rd (pe_call fu_is_kept (pa_cons (pe_varR (i := 0)) (pa_cons (pe_varR (i := 1)) pa_nil))))) (pe_chk (pe_varR (i := 1)))))
theorem take_is : py_take = kTakeC 39373 := rfl
noncomputable abbrev d_take := takeD 39373
theorem fu_take : FnF py_take d_take := by
  rw [take_is]
  exact fu_kTake (by decide)
/-! _law_same -/
noncomputable def f_h_same (drec : List D → G → Rd D) : Ds :=
    (dSeq (dIfS (dAsB (d2 isD (dVar 1) (dC .non)))
    (dRet (d2 isD (dVar 0) (dC .non)))
    dSkip)
    (dSeq (dIfS (dOr (dTru (d1 (dc2 isinstD) (dCons (dVar 1) (dCons (dC (.ty "list")) dNil)))) (dTru (d1 (dc2 isinstD) (dCons (dVar 1) (dCons (dC (.ty "tuple")) dNil)))))
    (dSeq (dIfS (dAsB (d2 neD (d1 (dc2 isinstD) (dCons (dVar 0) (dCons (dC (.ty "list")) dNil))) (d1 (dc2 isinstD) (dCons (dVar 1) (dCons (dC (.ty "list")) dNil)))))
    (dRet (dC (.bl false)))
    dSkip)
    (dSeq (dIfS (dOr (dAsB (d2 neD (d1 (dc2 isinstD) (dCons (dVar 0) (dCons (dC (.ty "tuple")) dNil))) (d1 (dc2 isinstD) (dCons (dVar 1) (dCons (dC (.ty "tuple")) dNil))))) (dAsB (d2 neD (d1 (dc1 (dO lenT)) (dCons (dVar 0) dNil)) (d1 (dc1 (dO lenT)) (dCons (dVar 1) dNil)))))
    (dRet (dC (.bl false)))
    dSkip)
    (dRet (d1 (dc1 (dO (onBls fun bs => bs.all id))) (dCons (dLc (d1 (dO zipT) (dCons (dVar 0) (dCons (dVar 1) dNil))) [2, 3] (tTp 2 (tC (tNm 2) (tC (tNm 3) t0))) dYes (d1 drec (dCons (dVar 2) (dCons (dVar 3) dNil)))) dNil)))))
    dSkip)
    (dSeq (dIfS (dTru (d1 (dc2 isinstD) (dCons (dVar 1) (dCons (dC (.ty "str")) dNil))))
    (dRet (dAndV (d1 (dc2 isinstD) (dCons (dVar 0) (dCons (dC (.ty "str")) dNil))) (d2 eqD (dVar 0) (dVar 1))))
    dSkip)
    (dRet (dAndV (d1 (dc2 isinstD) (dCons (dVar 0) (dCons (dC (.ty "int")) dNil))) (dAndV (dNotV (d1 (dc2 isinstD) (dCons (dVar 0) (dCons (dC (.ty "bool")) dNil)))) (d2 eqD (dVar 0) (dVar 1))))))))
noncomputable def d_h_same : Nat → List D → G → Rd D
  | 0 => fun _ _ => .no
  | k + 1 => dDef 2 2 (f_h_same (d_h_same k))
theorem fs_h_same {rec : List PV → HS → R PV} {drec : List D → G → Rd D} (hrec : FnF rec drec) : FnF (mDef 2 2 (b_h_same rec)) (dDef 2 2 (f_h_same drec)) :=
  fn_fr (n := 2) (r := 2) (κ' := []) <|
    (ps_seq (ps_if (pt_asB (PuX.rd (PuX.map2 PR.mon pp_is (pe_varR (i := 1)) (PuX.rd pe_non))))
    (ps_ret (PuX.map2 PR.mon pp_is (pe_varR (i := 0)) (PuX.rd pe_non)))
    ps_skip)
    (ps_seq (ps_if (pt_or (pt_tru (PuX.rd (PuX.map (pa_cons (pe_varR (i := 1)) (pa_cons (PuX.rd (pe_ty (i := "list"))) pa_nil)) (pp_c2 pp_isinst)))) (pt_tru (PuX.rd (PuX.map (pa_cons (pe_varR (i := 1)) (pa_cons (PuX.rd (pe_ty (i := "tuple"))) pa_nil)) (pp_c2 pp_isinst)))))
    (ps_seq (ps_if (pt_asB (PuX.rd (PuX.map2 PR.mon pp_ne (PuX.rd (PuX.map (pa_cons (pe_varR (i := 0)) (pa_cons (PuX.rd (pe_ty (i := "list"))) pa_nil)) (pp_c2 pp_isinst))) (PuX.rd (PuX.map (pa_cons (pe_varR (i := 1)) (pa_cons (PuX.rd (pe_ty (i := "list"))) pa_nil)) (pp_c2 pp_isinst))))))
    (ps_ret pe_bl)
    ps_skip)
    (ps_seq (ps_if (pt_or (pt_asB (PuX.rd (PuX.map2 PR.mon pp_ne (PuX.rd (PuX.map (pa_cons (pe_varR (i := 0)) (pa_cons (PuX.rd (pe_ty (i := "tuple"))) pa_nil)) (pp_c2 pp_isinst))) (PuX.rd (PuX.map (pa_cons (pe_varR (i := 1)) (pa_cons (PuX.rd (pe_ty (i := "tuple"))) pa_nil)) (pp_c2 pp_isinst)))))) (pt_asB (PuX.rd (PuX.map2 PR.mon pp_ne (PuX.rd (PuX.map (pa_cons (pe_varR (i := 0)) pa_nil) (pp_c1 pp_len))) (PuX.rd (PuX.map (pa_cons (pe_varR (i := 1)) pa_nil) (pp_c1 pp_len)))))))
    (ps_ret pe_bl)
    ps_skip)
    (ps_ret (PuX.map (pa_cons (PuX.rd (pe_lc (m := .fr) (k := .rk) (pi_zip (k := .rk) (PuX.krs (pa_cons (pe_varR (i := 0)) (pa_cons (pe_varR (i := 1)) pa_nil)))) (pg_tup (pg_cons (pg_name (k := .rk) (i := 2)) (pg_cons (pg_name (k := .rk) (i := 3)) pg_nil))) pt_yes (pe_call hrec (pa_cons (pe_varR (i := 2)) (pa_cons (pe_varR (i := 3)) pa_nil))))) pa_nil) (pp_c1 pp_all)))))
    ps_skip)
    (ps_seq (ps_if (pt_tru (PuX.rd (PuX.map (pa_cons (pe_varR (i := 1)) (pa_cons (PuX.rd (pe_ty (i := "str"))) pa_nil)) (pp_c2 pp_isinst))))
    (ps_ret (pe_and (PuX.map (pa_cons (pe_varR (i := 0)) (pa_cons (PuX.rd (pe_ty (i := "str"))) pa_nil)) (pp_c2 pp_isinst)) (PuX.map2 PR.mon pp_eq (pe_varR (i := 0)) (pe_varR (i := 1)))))
    ps_skip)
    (ps_ret (pe_and (PuX.map (pa_cons (pe_varR (i := 0)) (pa_cons (PuX.rd (pe_ty (i := "int"))) pa_nil)) (pp_c2 pp_isinst)) (pe_and (pe_not (PuX.rd (PuX.map (pa_cons (pe_varR (i := 0)) (pa_cons (PuX.rd (pe_ty (i := "bool"))) pa_nil)) (pp_c2 pp_isinst)))) (PuX.map2 PR.mon pp_eq (pe_varR (i := 0)) (pe_varR (i := 1)))))))))
theorem fu_h_same : ∀ k, FnF (py_h_same k) (d_h_same k)
  | 0 => fun _ _ _ _ _ _ _ _ _ _ _ => trivial
  | k + 1 => fs_h_same (fu_h_same k)
/-! _law_entry -/
noncomputable def f_h_entry : Ds :=
    (dSeq (dIfS (dAsB (d2 eqD (d1 d_take (dCons (dVar 0) (dCons (dVar 2) dNil))) (dC (.int 0))))
    (dRet (dC .non))
    dSkip)
    (dSeq (dIfS (dAsB (d2 ltD (dVar 1) (d2 powD (dC (.int 10)) (dC (.int 9)))))
    (dRet (d2 subD (d1 d_take (dCons (dVar 0) (dCons (d2 addC (d2 mulD (dC (.int 2)) (dVar 1)) (dC (.int 1))) dNil))) (dVar 1)))
    dSkip)
    (dSeq (dAsg (dC (.int 0)) (tNm 3))
    (dSeq (dFor (d1 (dO rng1T) (dCons (dC (.int 3)) dNil)) (tNm 4)
    (dAsg (d2 addC (d2 mulD (dVar 3) (d2 powD (dC (.int 10)) (dC (.int 10)))) (d1 d_take (dCons (dVar 0) (dCons (d2 powD (dC (.int 10)) (dC (.int 10))) dNil)))) (tNm 3)))
    (dRet (d2 mulD (dVar 3) (d2 subD (dC (.int 1)) (d2 mulD (dC (.int 2)) (d1 d_take (dCons (dVar 0) (dCons (dC (.int 2)) dNil)))))))))))
noncomputable def d_h_entry : List D → G → Rd D := dDef 3 2 f_h_entry
theorem fu_h_entry : FnF py_h_entry d_h_entry :=
  fn_fr (n := 3) (r := 2) (κ' := []) <|
    (ps_seq (ps_if (pt_asB (PuX.rd (PuX.map2 PR.mon pp_eq (PuX.rd (pe_call fu_take (pa_cons (pe_varR (i := 0)) (pa_cons (pe_varR (i := 2)) pa_nil)))) (PuX.rd pe_int))))
    (ps_ret pe_non)
    ps_skip)
    (ps_seq (ps_if (pt_asB (PuX.rd (PuX.map2 PR.mon pp_lt (pe_varR (i := 1)) (PuX.rd (PuX.map2 PR.mon pp_pow (PuX.rd pe_int) (PuX.rd pe_int))))))
    (ps_ret (PuX.map2 PR.mon pp_sub (PuX.rd (pe_call fu_take (pa_cons (pe_varR (i := 0)) (pa_cons (PuX.rd (PuX.map2 PR.mon pp_addC (PuX.rd (PuX.map2 PR.mon pp_mul (PuX.rd pe_int) (pe_varR (i := 1)))) (PuX.rd pe_int))) pa_nil)))) (pe_varR (i := 1))))
    ps_skip)
    (ps_seq (sa_im (i := 3) (m := .bo) (PuX.bo pe_int))
    (ps_seq (ps_for (pi_range1 (k := .im) (pa_cons (PuX.rd pe_int) pa_nil)) (pg_name (k := .im) (i := 4))
    (sa_im (i := 3) (m := .bo) (PuX.bo (PuX.map2 PR.mon pp_addC (PuX.rd (PuX.map2 PR.mon pp_mul (pe_varR (i := 3)) (PuX.rd (PuX.map2 PR.mon pp_pow (PuX.rd pe_int) (PuX.rd pe_int))))) (PuX.rd (pe_call fu_take (pa_cons (pe_varR (i := 0)) (pa_cons (PuX.rd (PuX.map2 PR.mon pp_pow (PuX.rd pe_int) (PuX.rd pe_int))) pa_nil))))))))
    (ps_ret (PuX.map2 PR.mon pp_mul (pe_varR (i := 3)) (PuX.rd (PuX.map2 PR.mon pp_sub (PuX.rd pe_int) (PuX.rd (PuX.map2 PR.mon pp_mul (PuX.rd pe_int) (PuX.rd (pe_call fu_take (pa_cons (pe_varR (i := 0)) (pa_cons (PuX.rd pe_int) pa_nil))))))))))))))
/-! _law_sum -/
noncomputable def f_h_sum : Ds :=
    (dRet (dIf (dOr (dAsB (d2 isD (dVar 0) (dC .non))) (dAsB (d2 isD (dVar 1) (dC .non)))) (dC .non) (d2 addC (dVar 0) (dVar 1))))
noncomputable def d_h_sum : List D → G → Rd D := dDef 2 0 f_h_sum
theorem fu_h_sum : FnF py_h_sum d_h_sum :=
  fn_fr (n := 2) (r := 0) (κ' := []) <|
    (ps_ret (pe_if (pt_or (pt_asB (PuX.rd (PuX.map2 PR.mon pp_is (pe_varR (i := 0)) (PuX.rd pe_non)))) (pt_asB (PuX.rd (PuX.map2 PR.mon pp_is (pe_varR (i := 1)) (PuX.rd pe_non))))) pe_non (PuX.map2 PR.mon pp_addC (pe_varR (i := 0)) (pe_varR (i := 1)))))
/-! _law_less -/
noncomputable def f_h_less : Ds :=
    (dSeq (dIfS (dOr (dAsB (d2 isD (dVar 0) (dC .non))) (dAsB (d2 isD (dVar 1) (dC .non))))
    (dRet (dIf (dAsB (d2 isD (dVar 0) (dC .non))) (dChk (dVar 1)) (dChk (dVar 0))))
    dSkip)
    (dRet (d1 (dc2 min2D) (dCons (dVar 0) (dCons (dVar 1) dNil)))))
noncomputable def d_h_less : List D → G → Rd D := dDef 2 0 f_h_less
theorem fu_h_less : FnF py_h_less d_h_less :=
  fn_fr (n := 2) (r := 0) (κ' := []) <|
    (ps_seq (ps_if (pt_or (pt_asB (PuX.rd (PuX.map2 PR.mon pp_is (pe_varR (i := 0)) (PuX.rd pe_non)))) (pt_asB (PuX.rd (PuX.map2 PR.mon pp_is (pe_varR (i := 1)) (PuX.rd pe_non)))))
    (ps_ret (pe_if (pt_asB (PuX.rd (PuX.map2 PR.mon pp_is (pe_varR (i := 0)) (PuX.rd pe_non)))) (pe_chk (PuX.rd (pe_var (i := 1)))) (pe_chk (PuX.rd (pe_var (i := 0))))))
    ps_skip)
    (ps_ret (PuX.map (pa_cons (pe_varR (i := 0)) (pa_cons (pe_varR (i := 1)) pa_nil)) (pp_c2 pp_min2))))
/-! _law_lifted -/
noncomputable def f_h_lifted : Ds :=
    (dRet (dLc (d1 (dO D.seq) (dVar 0)) [2] (tNm 2) dYes (d1 d_h_sum (dCons (dVar 2) (dCons (dVar 1) dNil)))))
noncomputable def d_h_lifted : List D → G → Rd D := dDef 2 1 f_h_lifted
theorem fu_h_lifted : FnF py_h_lifted d_h_lifted :=
  fn_fr (n := 2) (r := 1) (κ' := []) <|
    (ps_ret (pe_lc (m := .fr) (k := .rk) (pi_seq (k := .rk) (PuX.kr (pe_varR (i := 0)))) (pg_name (k := .rk) (i := 2)) pt_yes (pe_call fu_h_sum (pa_cons (pe_varR (i := 2)) (pa_cons (pe_varR (i := 1)) pa_nil)))))
/-! _law_both -/
noncomputable def f_h_both : Ds :=
    (dRet (dLc (d1 (dO zipT) (dCons (dVar 0) (dCons (dVar 1) dNil))) [2, 3] (tTp 2 (tC (tNm 2) (tC (tNm 3) t0))) dYes (d1 d_h_less (dCons (dVar 2) (dCons (dVar 3) dNil)))))
noncomputable def d_h_both : List D → G → Rd D := dDef 2 2 f_h_both
theorem fu_h_both : FnF py_h_both d_h_both :=
  fn_fr (n := 2) (r := 2) (κ' := []) <|
    (ps_ret (pe_lc (m := .fr) (k := .rk) (pi_zip (k := .rk) (PuX.krs (pa_cons (pe_varR (i := 0)) (pa_cons (pe_varR (i := 1)) pa_nil)))) (pg_tup (pg_cons (pg_name (k := .rk) (i := 2)) (pg_cons (pg_name (k := .rk) (i := 3)) pg_nil))) pt_yes (pe_call fu_h_less (pa_cons (pe_varR (i := 2)) (pa_cons (pe_varR (i := 3)) pa_nil)))))
/-! _law_made -/
noncomputable def f_h_made : Ds :=
    (dSeq (dAsg (d2 mulD (d1 (dO fun ds => (dLstD ds).map .lst) (dCons (dC .non) dNil)) (d1 (dc1 (dO lenT)) (dCons (d2 getD' (dVar 0) (dC (.int 0))) dNil))) (tNm 2))
    (dSeq (dFor (d1 (dO zipT) (dCons (dVar 0) (dCons (dVar 1) dNil))) (tTp 2 (tC (tNm 3) (tC (tNm 4) t0)))
    (dAsg (d1 d_h_both (dCons (dVar 2) (dCons (d1 d_h_lifted (dCons (dVar 3) (dCons (dVar 4) dNil))) dNil))) (tNm 2)))
    (dRet (dVar 2))))
noncomputable def d_h_made : List D → G → Rd D := dDef 2 3 f_h_made
theorem fu_h_made : FnF py_h_made d_h_made :=
  fn_fr (n := 2) (r := 3) (κ' := []) <|
    (ps_seq (sa_tr (i := 2) (PuX.map2 PR.mon pp_mul (PuX.rd (pe_lst (m := .fr) (pa_cons pe_non pa_nil))) (PuX.rd (PuX.map (pa_cons (PuX.map2 PR.mon (pp_get (m := .rd)) (pe_varR (i := 0)) (PuX.rd pe_int)) pa_nil) (pp_c1 pp_len)))))
    (ps_seq (ps_for (pi_zip (k := .im) (PuX.kis (m := .bo) (pa_cons (pe_var (i := 0)) (pa_cons (pe_var (i := 1)) pa_nil)))) (pg_tup (pg_cons (pg_name (k := .im) (i := 3)) (pg_cons (pg_name (k := .im) (i := 4)) pg_nil)))
    (sa_tr (i := 2) (pe_call fu_h_both (pa_cons (pe_varR (i := 2)) (pa_cons (PuX.rd (pe_call fu_h_lifted (pa_cons (pe_varR (i := 3)) (pa_cons (pe_varR (i := 4)) pa_nil)))) pa_nil)))))
    (ps_ret (pe_take (i := 2)))))
/-! _law_rows -/
noncomputable def f_h_rows : Ds :=
    (dSeq (dAsg (d2 getC (d1 (dO fun ds => (dLstD ds).map .lst) (dCons (dC (.int 2)) (dCons (dC (.int 9)) (dCons (dC (.int 1000)) (dCons (d2 powD (dC (.int 10)) (dC (.int 30))) dNil))))) (d1 d_take (dCons (dVar 0) (dCons (dC (.int 4)) dNil)))) (tNm 3))
    (dSeq (dAsg (d2 getC (d1 (dO fun ds => (dLstD ds).map .lst) (dCons (dC (.int 2)) (dCons (dC (.int 3)) (dCons (dC (.int 6)) (dCons (dC (.int 30)) dNil))))) (d1 d_take (dCons (dVar 0) (dCons (dC (.int 4)) dNil)))) (tNm 4))
    (dSeq (dAsg (d1 (dO fun ds => (dLstD ds).map .lst) dNil) (tNm 5))
    (dSeq (dFor (d1 (dO rng1T) (dCons (dVar 1) dNil)) (tNm 6)
    (dSeq (dAsg (d1 d_take (dCons (dVar 0) (dCons (dC (.int 9)) dNil))) (tNm 7))
    (dSeq (dAsg (dLc (d1 (dO rng1T) (dCons (dVar 2) dNil)) [9] (tNm 9) dYes (d1 d_h_entry (dCons (dVar 0) (dCons (dVar 3) (dCons (dVar 4) dNil))))) (tNm 8))
    (dSeq (dIfS (dAnd (dAsB (d2 neD (dVar 5) (d1 (dO fun ds => (dLstD ds).map .lst) dNil))) (dAsB (d2 ltD (dVar 7) (dC (.int 3)))))
    (dSeq (dAsg (d1 (dc1 (dO fun b => (listC b).map .lst)) (dCons (d2 getD' (dVar 5) (d1 d_take (dCons (dVar 0) (dCons (d1 (dc1 (dO lenT)) (dCons (dVar 5) dNil)) dNil)))) dNil)) (tNm 8))
    (dSeq (dIfS (dAsB (d2 gtD (dVar 7) (dC (.int 0))))
    (dAsg (d1 d_h_lifted (dCons (dVar 8) (dCons (d2 subD (d1 d_take (dCons (dVar 0) (dCons (dC (.int 9)) dNil))) (dC (.int 4))) dNil))) (tNm 8))
    dSkip)
    (dIfS (dAsB (d2 gtD (dVar 7) (dC (.int 1))))
    (dAsg (d1 d_h_both (dCons (dVar 8) (dCons (d1 d_h_lifted (dCons (d2 getD' (dVar 5) (d1 d_take (dCons (dVar 0) (dCons (d1 (dc1 (dO lenT)) (dCons (dVar 5) dNil)) dNil)))) (dCons (d2 subD (d1 d_take (dCons (dVar 0) (dCons (dC (.int 9)) dNil))) (dC (.int 4))) dNil))) dNil))) (tNm 8))
    dSkip)))
    (dIfS (dAnd (dAsB (d2 eqD (dVar 7) (dC (.int 3)))) (dAsB (d2 eqD (d1 d_take (dCons (dVar 0) (dCons (dC (.int 3)) dNil))) (dC (.int 0)))))
    (dAsg (d2 mulD (d1 (dO fun ds => (dLstD ds).map .lst) (dCons (dC .non) dNil)) (dVar 2)) (tNm 8))
    dSkip))
    (dApp 5 (dVar 8))))))
    (dRet (dVar 5))))))
noncomputable def d_h_rows : List D → G → Rd D := dDef 3 7 f_h_rows
theorem fu_h_rows : FnF py_h_rows d_h_rows :=
  fn_fr (n := 3) (r := 7) (κ' := []) <|
    (ps_seq (sa_im (i := 3) (m := .bo) (PuX.bo (PuX.map2 PR.mon pp_getC (PuX.rd (pe_lst (m := .fr) (pa_cons pe_int (pa_cons pe_int (pa_cons pe_int (pa_cons (PuX.map2 PR.mon pp_pow (PuX.rd pe_int) (PuX.rd pe_int)) pa_nil)))))) (PuX.rd (pe_call fu_take (pa_cons (pe_varR (i := 0)) (pa_cons (PuX.rd pe_int) pa_nil)))))))
    (ps_seq (sa_im (i := 4) (m := .bo) (PuX.bo (PuX.map2 PR.mon pp_getC (PuX.rd (pe_lst (m := .fr) (pa_cons pe_int (pa_cons pe_int (pa_cons pe_int (pa_cons pe_int pa_nil)))))) (PuX.rd (pe_call fu_take (pa_cons (pe_varR (i := 0)) (pa_cons (PuX.rd pe_int) pa_nil)))))))
    (ps_seq (sa_tr (i := 5) (pe_lst (m := .fr) pa_nil))
    (ps_seq (wk_xx 8 (k := .im) (ps_for (pi_range1 (k := .im) (pa_cons (pe_varR (i := 1)) pa_nil)) (pg_name (k := .im) (i := 6))
    (ps_seq (sa_im (i := 7) (m := .bo) (PuX.bo (pe_call fu_take (pa_cons (pe_varR (i := 0)) (pa_cons (PuX.rd pe_int) pa_nil)))))
    (ps_seq (sa_tr (i := 8) (pe_lc (m := .fr) (k := .rk) (pi_range1 (k := .rk) (pa_cons (pe_varR (i := 2)) pa_nil)) (pg_name (k := .rk) (i := 9)) pt_yes (pe_call fu_h_entry (pa_cons (pe_varR (i := 0)) (pa_cons (pe_varR (i := 3)) (pa_cons (pe_varR (i := 4)) pa_nil))))))
    (ps_seq (ps_if (pt_and (pt_asB (PuX.rd (PuX.map2 PR.mon pp_ne (pe_varR (i := 5)) (PuX.rd (pe_lst (m := .fr) pa_nil))))) (pt_asB (PuX.rd (PuX.map2 PR.mon pp_lt (pe_varR (i := 7)) (PuX.rd pe_int)))))
    (ps_seq (sa_tr (i := 8) (PuX.map (pa_cons (PuX.map2 PR.mon (pp_get (m := .rd)) (pe_varR (i := 5)) (PuX.rd (pe_call fu_take (pa_cons (pe_varR (i := 0)) (pa_cons (PuX.rd (PuX.map (pa_cons (pe_varR (i := 5)) pa_nil) (pp_c1 pp_len))) pa_nil))))) pa_nil) (pp_c1 pp_listC)))
    (ps_seq (ps_if (pt_asB (PuX.rd (PuX.map2 PR.mon pp_gt (pe_varR (i := 7)) (PuX.rd pe_int))))
    (sa_tr (i := 8) (pe_call fu_h_lifted (pa_cons (pe_varR (i := 8)) (pa_cons (PuX.rd (PuX.map2 PR.mon pp_sub (PuX.rd (pe_call fu_take (pa_cons (pe_varR (i := 0)) (pa_cons (PuX.rd pe_int) pa_nil)))) (PuX.rd pe_int))) pa_nil))))
    ps_skip)
    (ps_if (pt_asB (PuX.rd (PuX.map2 PR.mon pp_gt (pe_varR (i := 7)) (PuX.rd pe_int))))
    (sa_tr (i := 8) (pe_call fu_h_both (pa_cons (pe_varR (i := 8)) (pa_cons (PuX.rd (pe_call fu_h_lifted (pa_cons (PuX.map2 PR.mon (pp_get (m := .rd)) (pe_varR (i := 5)) (PuX.rd (pe_call fu_take (pa_cons (pe_varR (i := 0)) (pa_cons (PuX.rd (PuX.map (pa_cons (pe_varR (i := 5)) pa_nil) (pp_c1 pp_len))) pa_nil))))) (pa_cons (PuX.rd (PuX.map2 PR.mon pp_sub (PuX.rd (pe_call fu_take (pa_cons (pe_varR (i := 0)) (pa_cons (PuX.rd pe_int) pa_nil)))) (PuX.rd pe_int))) pa_nil)))) pa_nil))))
    ps_skip)))
    (ps_if (pt_and (pt_asB (PuX.rd (PuX.map2 PR.mon pp_eq (pe_varR (i := 7)) (PuX.rd pe_int)))) (pt_asB (PuX.rd (PuX.map2 PR.mon pp_eq (PuX.rd (pe_call fu_take (pa_cons (pe_varR (i := 0)) (pa_cons (PuX.rd pe_int) pa_nil)))) (PuX.rd pe_int)))))
    (sa_tr (i := 8) (PuX.map2 PR.mon pp_mul (PuX.rd (pe_lst (m := .fr) (pa_cons pe_non pa_nil))) (pe_varR (i := 2))))
    ps_skip))
    (su_appMv (i := 5) (y := 8)))))))
    (ps_ret (pe_take (i := 5)))))))
/-! _law_alike -/
noncomputable def f_h_alike : Ds :=
    (dSeq (dFor (d1 (dO zipT) (dCons (dVar 0) (dCons (dVar 1) dNil))) (tTp 2 (tC (tNm 2) (tC (tNm 3) t0)))
    (dIfS (dAsB (d2 isnotD (dVar 2) (dC .non)))
    (dRet (dAndV (d2 isnotD (dVar 3) (dC .non)) (d2 eqD (d1 d_h_lifted (dCons (dVar 0) (dCons (d2 subD (dVar 3) (dVar 2)) dNil))) (dVar 1))))
    dSkip))
    (dRet (d1 (dc1 (dO (onBls fun bs => bs.all id))) (dCons (dLc (d1 (dO D.seq) (dVar 1)) [3] (tNm 3) dYes (d2 isD (dVar 3) (dC .non))) dNil))))
noncomputable def d_h_alike : List D → G → Rd D := dDef 2 2 f_h_alike
theorem fu_h_alike : FnF py_h_alike d_h_alike :=
  fn_fr (n := 2) (r := 2) (κ' := []) <|
    (ps_seq (ps_for (pi_zip (k := .im) (PuX.kis (m := .bo) (pa_cons (pe_var (i := 0)) (pa_cons (pe_var (i := 1)) pa_nil)))) (pg_tup (pg_cons (pg_name (k := .im) (i := 2)) (pg_cons (pg_name (k := .im) (i := 3)) pg_nil)))
    (ps_if (pt_asB (PuX.rd (PuX.map2 PR.mon pp_isnot (pe_varR (i := 2)) (PuX.rd pe_non))))
    (ps_ret (pe_and (PuX.map2 PR.mon pp_isnot (pe_varR (i := 3)) (PuX.rd pe_non)) (PuX.map2 PR.mon pp_eq (PuX.rd (pe_call fu_h_lifted (pa_cons (pe_varR (i := 0)) (pa_cons (PuX.rd (PuX.map2 PR.mon pp_sub (pe_varR (i := 3)) (pe_varR (i := 2)))) pa_nil)))) (pe_varR (i := 1)))))
    ps_skip))
    (ps_ret (PuX.map (pa_cons (PuX.rd (pe_lc (m := .fr) (k := .rk) (pi_seq (k := .rk) (PuX.kr (pe_varR (i := 1)))) (pg_name (k := .rk) (i := 3)) pt_yes (PuX.map2 PR.mon pp_is (pe_varR (i := 3)) (PuX.rd pe_non)))) pa_nil) (pp_c1 pp_all))))
/-! _law_mixed -/
noncomputable def f_h_mixed : Ds :=
    (dSeq (dAsg (d1 (dc1 (dO fun b => (listT b).map .lst)) (dCons (dVar 1) dNil)) (tNm 2))
    (dSeq (dAsg (d1 (dO fun ds => (dLstD ds).map .lst) dNil) (tNm 3))
    (dSeq (dWhile (dAsB (d2 neD (dVar 2) (d1 (dO fun ds => (dLstD ds).map .lst) dNil)))
    (dSeq (dPopAt 2 4 (d1 d_take (dCons (dVar 0) (dCons (d1 (dc1 (dO lenT)) (dCons (dVar 2) dNil)) dNil))))
    (dApp 3 (d1 d_h_lifted (dCons (dVar 4) (dCons (d2 subD (d1 d_take (dCons (dVar 0) (dCons (dC (.int 19)) dNil))) (dC (.int 9))) dNil))))))
    (dRet (dVar 3)))))
noncomputable def d_h_mixed : List D → G → Rd D := dDef 2 3 f_h_mixed
theorem fu_h_mixed : FnF py_h_mixed d_h_mixed :=
  fn_fr (n := 2) (r := 3) (κ' := []) <|
    (ps_seq (sa_sp (i := 2) (PuX.map (pa_cons (pe_var (i := 1)) pa_nil) (pp_c1N (pp_listN (m := .bo)))))
    (ps_seq (sa_tr (i := 3) (pe_lst (m := .fr) pa_nil))
    (ps_seq (ps_while (pt_asB (PuX.rd (PuX.map2 PR.mon pp_ne (pe_varR (i := 2)) (PuX.rd (pe_lst (m := .fr) pa_nil)))))
    (ps_seq (su_popAt (i := 2) (j := 4) (k := .sp) (PuX.rd (pe_call fu_take (pa_cons (pe_varR (i := 0)) (pa_cons (PuX.rd (PuX.map (pa_cons (pe_varR (i := 2)) pa_nil) (pp_c1 pp_len))) pa_nil)))))
    (su_app (i := 3) (k := .tr) (pe_call fu_h_lifted (pa_cons (pe_varR (i := 4)) (pa_cons (PuX.rd (PuX.map2 PR.mon pp_sub (PuX.rd (pe_call fu_take (pa_cons (pe_varR (i := 0)) (pa_cons (PuX.rd pe_int) pa_nil)))) (PuX.rd pe_int))) pa_nil))))))
    (ps_ret (pe_take (i := 3))))))
/-! _law_right -/
noncomputable def f_h_right : Ds :=
    (dSeq (dAsg (d2 addC (dC (.int 1)) (d1 d_take (dCons (dVar 0) (dCons (dC (.int 6)) dNil)))) (tNm 1))
    (dSeq (dAsg (d1 d_h_rows (dCons (dVar 0) (dCons (d2 getD' (d1 (dO fun ds => (dLstD ds).map .lst) (dCons (d2 addC (dC (.int 1)) (d1 d_take (dCons (dVar 0) (dCons (dC (.int 6)) dNil)))) (dCons (d2 addC (dC (.int 1)) (d1 d_take (dCons (dVar 0) (dCons (dC (.int 20)) dNil)))) dNil))) (d1 d_take (dCons (dVar 0) (dCons (dC (.int 2)) dNil)))) (dCons (dVar 1) dNil)))) (tNm 2))
    (dSeq (dAsg (d1 d_few (dCons (dLc (d1 (dO D.seq) (dVar 2)) [14] (tNm 14) dYes (d1 (dc1 (dO fun b => (listC b).map .lst)) (dCons (dVar 14) dNil))) dNil)) (tNm 3))
    (dSeq (dAsg (dLc (d1 (dO D.seq) (dVar 3)) [7] (tNm 7) dYes (d2 getD' (dVar 2) (dVar 7))) (tNm 4))
    (dSeq (dIfS (dAnd (dAsB (d2 neD (dVar 4) (d1 (dO fun ds => (dLstD ds).map .lst) dNil))) (dNot (dTru (d1 (d_h_same 8) (dCons (d1 d_few (dCons (dLc (d1 (dO D.seq) (dVar 4)) [14] (tNm 14) dYes (d1 (dc1 (dO fun b => (listC b).map .lst)) (dCons (dVar 14) dNil))) dNil)) (dCons (d1 (dO fun b => (lrg1T b).map .lst) (d1 (dc1 (dO lenT)) (dCons (dVar 4) dNil))) dNil))))))
    (dRet (dC (.bl false)))
    dSkip)
    (dSeq (dAsg (d1 d_h_mixed (dCons (dVar 0) (dCons (dVar 2) dNil))) (tNm 5))
    (dSeq (dAsg (d1 d_few (dCons (dVar 5) dNil)) (tNm 6))
    (dSeq (dIfS (dOr (dAsB (d2 neD (d1 (dc1 (dO lenT)) (dCons (dVar 6) dNil)) (d1 (dc1 (dO lenT)) (dCons (dVar 3) dNil)))) (dNot (dTru (d1 (d_h_same 8) (dCons (dVar 6) (dCons (d1 (dO fun b => (sortSetL b).map .lst) (dVar 6)) dNil))))))
    (dRet (dC (.bl false)))
    dSkip)
    (dSeq (dFor (d1 (dO D.seq) (dVar 6)) (tNm 7)
    (dIfS (dAsB (d2 neD (d1 (dc1 (dO lenT)) (dCons (dLc (d1 (dO D.seq) (dVar 4)) [14] (tNm 14) (dTru (d1 d_h_alike (dCons (dVar 14) (dCons (d2 getD' (dVar 5) (dVar 7)) dNil)))) (dVar 14)) dNil)) (dC (.int 1))))
    (dRet (dC (.bl false)))
    dSkip))
    (dSeq (dAsg (dLc (d1 (dO rng1T) (dCons (dC (.int 3)) dNil)) [12] (tNm 12) dYes (d1 d_h_made (dCons (dVar 2) (dCons (dLc (d1 (dO D.seq) (dVar 2)) [14] (tNm 14) dYes (d1 d_h_entry (dCons (dVar 0) (dCons (dC (.int 9)) (dCons (dC (.int 3)) dNil))))) dNil)))) (tNm 8))
    (dSeq (dAsg (dLc (d1 (dO rng1T) (dCons (dVar 1) dNil)) [11] (tNm 11) dYes (d1 d_h_entry (dCons (dVar 0) (dCons (dC (.int 9)) (dCons (dC (.int 4)) dNil))))) (tNm 9))
    (dSeq (dIfS (dNot (dTru (d1 (d_h_same 8) (dCons (d1 d_few (dCons (dLc (d1 (dO D.seq) (d2 addD (dVar 2) (dVar 8))) [14] (tNm 14) dYes (d1 (dc1 (dO fun b => (listC b).map .lst)) (dCons (dVar 14) dNil))) dNil)) (dCons (dVar 3) dNil)))))
    (dRet (dC (.bl false)))
    dSkip)
    (dSeq (dAsg (d1 d_few (dCons (d2 addD (d1 (dO fun ds => (dLstD ds).map .lst) (dCons (dVar 9) dNil)) (dLc (d1 (dO D.seq) (dVar 2)) [14] (tNm 14) dYes (d1 (dc1 (dO fun b => (listC b).map .lst)) (dCons (dVar 14) dNil)))) dNil)) (tNm 10))
    (dSeq (dAsg (d1 d_take (dCons (dVar 0) (dCons (d1 (dc1 (dO lenT)) (dCons (dVar 5) dNil)) dNil))) (tNm 11))
    (dSeq (dSet 5 (dVar 11) (dLc (d1 (dO D.seq) (d2 getD' (dVar 5) (dVar 11))) [13] (tNm 13) dYes (d1 d_h_entry (dCons (dVar 0) (dCons (dC (.int 9)) (dCons (dC (.int 4)) dNil))))))
    (dSeq (dIfS (dNot (dTru (d1 (d_h_same 8) (dCons (d1 d_few (dCons (dVar 5) dNil)) (dCons (d1 d_few (dCons (dLc (d1 (dO D.seq) (dVar 5)) [14] (tNm 14) dYes (d1 (dc1 (dO fun b => (listC b).map .lst)) (dCons (dVar 14) dNil))) dNil)) dNil)))))
    (dRet (dC (.bl false)))
    dSkip)
    (dSeq (dIfS (dNot (dTru (d1 (d_h_same 8) (dCons (d1 d_few (dCons (dLc (d1 (dO D.seq) (dVar 2)) [14] (tNm 14) dYes (d1 (dc1 (dO fun b => (listC b).map .lst)) (dCons (dVar 14) dNil))) dNil)) (dCons (dVar 3) dNil)))))
    (dRet (dC (.bl false)))
    dSkip)
    (dRet (d1 (d_h_same 8) (dCons (d1 d_few (dCons (d2 addD (d1 (dO fun ds => (dLstD ds).map .lst) (dCons (dVar 9) dNil)) (dLc (d1 (dO D.seq) (dVar 2)) [14] (tNm 14) dYes (d1 (dc1 (dO fun b => (listC b).map .lst)) (dCons (dVar 14) dNil)))) dNil)) (dCons (dVar 10) dNil)))))))))))))))))))))
noncomputable def d_h_right : List D → G → Rd D := dDef 1 14 f_h_right
theorem fu_h_right : FnF py_h_right d_h_right :=
  fn_fr (n := 1) (r := 14) (κ' := []) <|
    (ps_seq (sa_im (i := 1) (m := .bo) (PuX.bo (PuX.map2 PR.mon pp_addC (PuX.rd pe_int) (PuX.rd (pe_call fu_take (pa_cons (pe_varR (i := 0)) (pa_cons (PuX.rd pe_int) pa_nil)))))))
    (ps_seq (sa_im (i := 2) (m := .bo) (PuX.bo (pe_call fu_h_rows (pa_cons (pe_varR (i := 0)) (pa_cons (PuX.map2 PR.mon (pp_get (m := .rd)) (PuX.rd (pe_lst (m := .fr) (pa_cons (PuX.map2 PR.mon pp_addC (PuX.rd pe_int) (PuX.rd (pe_call fu_take (pa_cons (pe_varR (i := 0)) (pa_cons (PuX.rd pe_int) pa_nil))))) (pa_cons (PuX.map2 PR.mon pp_addC (PuX.rd pe_int) (PuX.rd (pe_call fu_take (pa_cons (pe_varR (i := 0)) (pa_cons (PuX.rd pe_int) pa_nil))))) pa_nil)))) (PuX.rd (pe_call fu_take (pa_cons (pe_varR (i := 0)) (pa_cons (PuX.rd pe_int) pa_nil))))) (pa_cons (pe_varR (i := 1)) pa_nil))))))
    (ps_seq (sa_im (i := 3) (m := .bo) (PuX.bo (pe_call fu_few (pa_cons (PuX.rd (pe_lc (m := .fr) (k := .rk) (pi_seq (k := .rk) (PuX.kr (pe_varR (i := 2)))) (pg_name (k := .rk) (i := 14)) pt_yes (PuX.map (pa_cons (pe_varR (i := 14)) pa_nil) (pp_c1 pp_listC)))) pa_nil))))
    (ps_seq (sa_im (i := 4) (m := .bo) (pe_lc (m := .bo) (k := .im) (pi_seq (k := .im) (PuX.ki (m := .bo) (pe_var (i := 3)))) (pg_name (k := .im) (i := 7)) pt_yes (PuX.map2 PR.mon (pp_get (m := .bo)) (pe_var (i := 2)) (pe_varR (i := 7)))))
    (ps_seq (ps_if (pt_and (pt_asB (PuX.rd (PuX.map2 PR.mon pp_ne (pe_varR (i := 4)) (PuX.rd (pe_lst (m := .fr) pa_nil))))) (pt_not (pt_tru (PuX.rd (pe_call (fu_h_same 8) (pa_cons (PuX.rd (pe_call fu_few (pa_cons (PuX.rd (pe_lc (m := .fr) (k := .rk) (pi_seq (k := .rk) (PuX.kr (pe_varR (i := 4)))) (pg_name (k := .rk) (i := 14)) pt_yes (PuX.map (pa_cons (pe_varR (i := 14)) pa_nil) (pp_c1 pp_listC)))) pa_nil))) (pa_cons (PuX.rd (PuX.map (PuX.rd (PuX.map (pa_cons (pe_varR (i := 4)) pa_nil) (pp_c1 pp_len))) pp_lrg1)) pa_nil)))))))
    (ps_ret pe_bl)
    ps_skip)
    (ps_seq (sa_tr (i := 5) (pe_call fu_h_mixed (pa_cons (pe_varR (i := 0)) (pa_cons (pe_varR (i := 2)) pa_nil))))
    (ps_seq (sa_im (i := 6) (m := .bo) (PuX.bo (pe_call fu_few (pa_cons (pe_varR (i := 5)) pa_nil))))
    (ps_seq (ps_if (pt_or (pt_asB (PuX.rd (PuX.map2 PR.mon pp_ne (PuX.rd (PuX.map (pa_cons (pe_varR (i := 6)) pa_nil) (pp_c1 pp_len))) (PuX.rd (PuX.map (pa_cons (pe_varR (i := 3)) pa_nil) (pp_c1 pp_len)))))) (pt_not (pt_tru (PuX.rd (pe_call (fu_h_same 8) (pa_cons (pe_varR (i := 6)) (pa_cons (PuX.rd (PuX.map (pe_varR (i := 6)) pp_sortSet)) pa_nil)))))))
    (ps_ret pe_bl)
    ps_skip)
    (ps_seq (ps_for (pi_seq (k := .im) (PuX.ki (m := .bo) (pe_var (i := 6)))) (pg_name (k := .im) (i := 7))
    (ps_if (pt_asB (PuX.rd (PuX.map2 PR.mon pp_ne (PuX.rd (PuX.map (pa_cons (PuX.rd (pe_lc (m := .bo) (k := .im) (pi_seq (k := .im) (PuX.ki (m := .bo) (pe_var (i := 4)))) (pg_name (k := .im) (i := 14)) (pt_tru (PuX.rd (pe_call fu_h_alike (pa_cons (pe_varR (i := 14)) (pa_cons (PuX.map2 PR.mon (pp_get (m := .rd)) (pe_varR (i := 5)) (pe_varR (i := 7))) pa_nil))))) (pe_var (i := 14)))) pa_nil) (pp_c1 pp_len))) (PuX.rd pe_int))))
    (ps_ret pe_bl)
    ps_skip))
    (ps_seq (sa_im (i := 8) (m := .bo) (PuX.bo (pe_lc (m := .fr) (k := .rk) (pi_range1 (k := .rk) (pa_cons (PuX.rd pe_int) pa_nil)) (pg_name (k := .rk) (i := 12)) pt_yes (pe_call fu_h_made (pa_cons (pe_varR (i := 2)) (pa_cons (PuX.rd (pe_lc (m := .fr) (k := .rk) (pi_seq (k := .rk) (PuX.kr (pe_varR (i := 2)))) (pg_name (k := .rk) (i := 14)) pt_yes (pe_call fu_h_entry (pa_cons (pe_varR (i := 0)) (pa_cons (PuX.rd pe_int) (pa_cons (PuX.rd pe_int) pa_nil)))))) pa_nil))))))
    (ps_seq (sa_im (i := 9) (m := .bo) (PuX.bo (pe_lc (m := .fr) (k := .rk) (pi_range1 (k := .rk) (pa_cons (pe_varR (i := 1)) pa_nil)) (pg_name (k := .rk) (i := 11)) pt_yes (pe_call fu_h_entry (pa_cons (pe_varR (i := 0)) (pa_cons (PuX.rd pe_int) (pa_cons (PuX.rd pe_int) pa_nil)))))))
    (ps_seq (ps_if (pt_not (pt_tru (PuX.rd (pe_call (fu_h_same 8) (pa_cons (PuX.rd (pe_call fu_few (pa_cons (PuX.rd (pe_lc (m := .fr) (k := .rk) (pi_seq (k := .rk) (PuX.kr (PuX.rd (PuX.map2 PR.mon (pp_add (m := .bo)) (pe_var (i := 2)) (pe_var (i := 8)))))) (pg_name (k := .rk) (i := 14)) pt_yes (PuX.map (pa_cons (pe_varR (i := 14)) pa_nil) (pp_c1 pp_listC)))) pa_nil))) (pa_cons (pe_varR (i := 3)) pa_nil))))))
    (ps_ret pe_bl)
    ps_skip)
    (ps_seq (sa_im (i := 10) (m := .bo) (PuX.bo (pe_call fu_few (pa_cons (PuX.rd (PuX.map2 PR.mon (pp_add (m := .bo)) (pe_lst (m := .bo) (pa_cons (pe_var (i := 9)) pa_nil)) (PuX.bo (pe_lc (m := .fr) (k := .rk) (pi_seq (k := .rk) (PuX.kr (pe_varR (i := 2)))) (pg_name (k := .rk) (i := 14)) pt_yes (PuX.map (pa_cons (pe_varR (i := 14)) pa_nil) (pp_c1 pp_listC)))))) pa_nil))))
    (ps_seq (sa_im (i := 11) (m := .bo) (PuX.bo (pe_call fu_take (pa_cons (pe_varR (i := 0)) (pa_cons (PuX.rd (PuX.map (pa_cons (pe_varR (i := 5)) pa_nil) (pp_c1 pp_len))) pa_nil)))))
    (ps_seq (su_set (i := 5) (k := .tr) (pe_lc (m := .fr) (k := .rk) (pi_seq (k := .rk) (PuX.kr (PuX.map2 PR.mon (pp_get (m := .rd)) (pe_varR (i := 5)) (pe_varR (i := 11))))) (pg_name (k := .rk) (i := 13)) pt_yes (pe_call fu_h_entry (pa_cons (pe_varR (i := 0)) (pa_cons (PuX.rd pe_int) (pa_cons (PuX.rd pe_int) pa_nil))))) (pe_varR (i := 11)))
    (ps_seq (ps_if (pt_not (pt_tru (PuX.rd (pe_call (fu_h_same 8) (pa_cons (PuX.rd (pe_call fu_few (pa_cons (pe_varR (i := 5)) pa_nil))) (pa_cons (PuX.rd (pe_call fu_few (pa_cons (PuX.rd (pe_lc (m := .fr) (k := .rk) (pi_seq (k := .rk) (PuX.kr (pe_varR (i := 5)))) (pg_name (k := .rk) (i := 14)) pt_yes (PuX.map (pa_cons (pe_varR (i := 14)) pa_nil) (pp_c1 pp_listC)))) pa_nil))) pa_nil))))))
    (ps_ret pe_bl)
    ps_skip)
    (ps_seq (ps_if (pt_not (pt_tru (PuX.rd (pe_call (fu_h_same 8) (pa_cons (PuX.rd (pe_call fu_few (pa_cons (PuX.rd (pe_lc (m := .fr) (k := .rk) (pi_seq (k := .rk) (PuX.kr (pe_varR (i := 2)))) (pg_name (k := .rk) (i := 14)) pt_yes (PuX.map (pa_cons (pe_varR (i := 14)) pa_nil) (pp_c1 pp_listC)))) pa_nil))) (pa_cons (pe_varR (i := 3)) pa_nil))))))
    (ps_ret pe_bl)
    ps_skip)
    (ps_ret (pe_call (fu_h_same 8) (pa_cons (PuX.rd (pe_call fu_few (pa_cons (PuX.rd (PuX.map2 PR.mon (pp_add (m := .bo)) (pe_lst (m := .bo) (pa_cons (pe_var (i := 9)) pa_nil)) (PuX.bo (pe_lc (m := .fr) (k := .rk) (pi_seq (k := .rk) (PuX.kr (pe_varR (i := 2)))) (pg_name (k := .rk) (i := 14)) pt_yes (PuX.map (pa_cons (pe_varR (i := 14)) pa_nil) (pp_c1 pp_listC)))))) pa_nil))) (pa_cons (pe_varR (i := 10)) pa_nil)))))))))))))))))))))
noncomputable def f_law : Ds :=
    (dRet (d1 (dc1 (dO (onBls fun bs => bs.all id))) (dCons (dLc (d1 (dO rng1T) (dCons (dC (.int 3)) dNil)) [2] (tNm 2) dYes (d1 d_h_right (dCons (dVar 1) dNil))) dNil)))
theorem fu_law : PuS .fr [] (List.replicate 3 .im) [] b_law f_law :=
    (ps_ret (PuX.map (pa_cons (PuX.rd (pe_lc (m := .fr) (k := .rk) (pi_range1 (k := .rk) (pa_cons (PuX.rd pe_int) pa_nil)) (pg_name (k := .rk) (i := 2)) pt_yes (pe_call fu_h_right (pa_cons (pe_varR (i := 1)) pa_nil)))) pa_nil) (pp_c1 pp_all)))
end Lw
namespace Lw
open Lt
open L2 (atI ixN)
/-! lesser -/
@[simp] theorem lesser_eq {a b : Ent} {g : G} : d_lesser [eD a, eD b] g = .ok (eD (lesO a b)) g := by
  apply PW.eq
  cases a <;> cases b <;> simp [d_lesser, f_lesser, lesO]
  split <;> first | rfl | (intros; omega) | simp_all
/-! summed -/
@[simp] theorem summed_eq {a b : Ent} {g : G} : d_summed [eD a, eD b] g = .ok (eD (addO a b)) g := by
  apply PW.eq
  cases a <;> cases b <;> simp [d_summed, f_summed, addO]
/-! both -/
theorem both_eq {x y : D} {xs ys : Row} {g : G} (hx : Rw x xs) (hy : Rw y ys) (hl : xs.length ≤ 1000000) : d_both [x, y] g = .ok (rowD (bothO xs ys)) g := by
  apply PW.eq
  simp [d_both, f_both, hx.seq, hy.seq]
  rw [zip_map2 eD eD]
  refine OQ_all (fun p => eD (lesO p.1 p.2)) (fun p hp => ?_) ?_
  · apply PW.eq
    simp
  · have e2 : List.map (fun p : Ent × Ent => eD (lesO p.1 p.2)) (xs.zip ys) = (bothO xs ys).map eD := by
      rw [List.zip, List.map_zipWith, bothO, List.map_zipWith]
    simp only [qEnd]
    rw [e2]
    simp [rowD, bothO]
    omega
/-! raised -/
theorem raised_eq {x : D} {xs : Row} {e : Ent} {g : G} (hx : Rw x xs) (hl : xs.length ≤ 1000000) : d_raised [x, eD e] g = .ok (rowD (raiseO xs e)) g := by
  apply PW.eq
  simp [d_raised, f_raised, hx.seq]
  refine OQ_all (fun a => eD (addO a e)) (fun a _ => by apply PW.eq; simp) ?_
  simp [raiseO, rowD, show xs.length ≤ 16777216 by omega]
/-! made -/
theorem made_eq {t a : D} {xss : Tab} {es : Row} {n : Nat} {g : G} (ht : Tb t xss) (ha : Rw a es) (h0 : xss ≠ []) (hw : wideO n xss) (hn : n ≤ 1000000) : d_made [t, a] g = .ok (rowD (madeO n xss es)) g := by
  obtain ⟨ds, hs, hr⟩ := ht
  obtain ⟨r0, rest, rfl⟩ : ∃ r rest, xss = r :: rest := by
    cases xss with
    | nil => exact absurd rfl h0
    | cons r rest => exact ⟨r, rest, rfl⟩
  obtain ⟨d0, hd0, hr0⟩ := hr.getT (i := 0) rfl
  have hr0n : r0.length = n := hw r0 (.head _)
  apply PW.eq
  simp [d_made, f_made, getT_seq hs, hd0, lenT_seq hr0.seq, hr0n, hs, ha.seq]
  refine ⟨by omega, ?_⟩
  have e0 : List.replicate n D.non = (List.replicate n (none : Ent)).map eD := by simp
  rw [e0]
  refine for_pw (fun i η g' => g' = g ∧ ∃ (acc : Row) (z3 z4 : Option D), acc.length = n ∧ η = [some t, some a, some (rowD acc), z3, z4] ∧ madeF acc ((r0 :: rest).drop i) (es.drop i) = madeO n (r0 :: rest) es) ⟨rfl, _, none, none, by simp, rfl, rfl⟩ ?_ ?_
  · rintro i z η g' ez ⟨rfl, acc, z3, z4, hacc, rfl, h⟩
    obtain ⟨d, xs, o, e1, e2, hxs, rfl⟩ := zip_rws hr ez
    have hxn : xs.length = n := hw xs (List.mem_of_getElem? e1)
    rw [madeF_drop e1 e2] at h
    simp [raised_eq hxs (show xs.length ≤ 1000000 by omega), both_eq (Rw_row acc) (Rw_row (raiseO xs o)) (show acc.length ≤ 1000000 by omega)]
    exact ⟨_, by rw [both_len (by rw [raise_len, hxn, hacc]), hacc], rfl, h⟩
  · rintro η g' ⟨rfl, acc, z3, z4, hacc, rfl, h⟩
    simp
    rw [madeF_end] at h
    · rw [h]
    · simp [hr.len]; omega
/-! add_for -/
theorem add_for_eq {x y : D} {xs ys : Row} {g : G} (hx : Rw x xs) (hy : Rw y ys) : d_add_for [x, y] g = .ok (eD (afO xs ys)) g := by
  apply PW.eq
  simp [d_add_for, f_add_for, hx.seq, hy.seq]
  refine for_pw (fun i η g' => g' = g ∧ ∃ acc z3 z4, η = [some x, some y, some (eD acc), z3, z4] ∧ afF acc (xs.drop i) (ys.drop i) = afO xs ys) ⟨rfl, none, none, none, rfl, rfl⟩ ?_ ?_
  · rintro i z η g' ez ⟨rfl, acc, z3, z4, rfl, h⟩
    obtain ⟨a, b, e1, e2, rfl⟩ := zip_getE ez
    rw [afF_drop e1 e2] at h
    cases a with
    | none =>
      simp
      exact ⟨acc, rfl, by rw [← h, afF_n]⟩
    | some a =>
      cases b with
      | none =>
        simp
        rw [← h]
        rw [afF_sn]
        rfl
      | some b =>
        cases acc with
        | none =>
          simp
          exact ⟨some (b - a), rfl, by rw [← h, afF_ns]⟩
        | some c =>
          simp
          split
          · exact ⟨some (b - a), rfl, by rw [← h, afF_ss, show max (b - a) c = b - a by omega]⟩
          · exact ⟨some c, rfl, by rw [← h, afF_ss, show max (b - a) c = c by omega]⟩
  · rintro η g' ⟨rfl, acc, z3, z4, rfl, h⟩
    simp
    rw [afF_end] at h
    · rw [h]
    · simp; omega
/-! reach -/
theorem reach_eq {t y : D} {xss : Tab} {ys : Row} {n : Nat} {g : G} (ht : Tb t xss) (hy : Rw y ys) (h0 : xss ≠ []) (hw : wideO n xss) (hn : n ≤ 1000000) (hl : xss.length ≤ 1000000) : d_reach [t, y] g = .ok (.tup [rowD (xss.map fun r => afO r ys), rowD (madeO n xss (xss.map fun r => afO r ys))]) g := by
  have ht' := ht
  obtain ⟨ds, hs, hr⟩ := ht
  apply PW.eq
  simp [d_reach, f_reach, hs]
  refine OQ_rws (fun r => eD (afO r ys)) hr (fun d xs r m => ?_) ?_
  · apply PW.eq
    simp [add_for_eq r hy]
  · rw [show (xss.map fun r => eD (afO r ys)) = (xss.map fun r => afO r ys).map eD by rw [List.map_map]; rfl]
    simp only [qEnd]
    refine if_pos_of (by simp; omega) ?_
    simp [-List.map_map, made_eq ht' (Rw_lst (xss.map fun r => afO r ys)) h0 hw hn]
/-! h_same -/
theorem h_same_eq : ∀ (n : Nat) {d : D} {g : G}, DN n d → d_h_same n [d, d] g = .ok (.bl true) g := by
  intro n
  induction n with
  | zero => intro d g f; cases f
  | succ n ih =>
    intro d g f
    have lc : ∀ (ds : List D) (a b : Option D) (Q : List D × G → Prop), (∀ d ∈ ds, DN n d) → Q (ds.map fun _ => .bl true, g) → OQ (lcD (tTp 2 (tC (tNm 2) (tC (tNm 3) t0))) dYes (Lt.d1 (d_h_same n) (dCons (dVar 2) (dCons (dVar 3) dNil))) [a, b, none, none] (ds.map fun a => D.tup [a, a]) g) Q := by
      intro ds a b Q hd q
      refine OQ_all (fun _ => .bl true) (fun x hx => ?_) q
      apply PW.eq
      simp [ih (hd x hx)]
    have all : ∀ ds : List D, blsD (ds.map fun _ => D.bl true) = some (ds.map fun _ => true) := fun ds => by
      induction ds with
      | nil => rfl
      | cons d ds ih => simp [blsD, ih]
    cases f with
    | non => apply PW.eq; simp [d_h_same, f_h_same]
    | int b => apply PW.eq; simp [d_h_same, f_h_same]
    | str n x h => apply PW.eq; simp [d_h_same, f_h_same, eqT_strS h]
    | tup hl hf =>
      apply PW.eq
      simp [d_h_same, f_h_same]
      refine lc _ _ _ _ hf ?_
      simp [all, hl]
    | lst hl hf =>
      apply PW.eq
      simp [d_h_same, f_h_same]
      refine lc _ _ _ _ hf ?_
      simp [all, hl]
/-! h_entry -/
theorem h_entry_pwB {b : Int} {g : G} {most odds : Int} (w : Dw b g) (hb : 5 ≤ b) (h0 : 0 ≤ most) (h1 : most ≤ 10 ^ 30) (h2 : 1 ≤ odds) (h3 : odds ≤ 1000) : PW (d_h_entry [.stt, .int most, .int odds] g) (fun d g' => EnB (10 ^ 30) d ∧ Dw (b - 5) g') eF := by
  rw [lit10] at h1 ⊢
  simp [d_h_entry, f_h_entry]
  refine take_pw w (by omega) (by omega) (by omega) fun g1 d1 w1 p1 p2 => ?_
  simp
  split
  · exact ⟨.non, w1.less (by omega)⟩
  · split
    · rename_i hm
      refine ⟨small_lit (by omega) (by omega), ?_⟩
      refine take_pw w1 (by omega) (by omega) (by omega) fun g2 d2 w2 p3 p4 => ?_
      simp
      exact ⟨.int (by omega) (by omega), w2.less (by omega)⟩
    · have pw : ∀ i : Nat, i ≤ 3 → (10000000000 : Int) ^ i ≤ 10 ^ 30 := by decide
      refine for_pw (fun i η g' => ∃ f x, 0 ≤ f ∧ f < 10000000000 ^ i ∧ i ≤ 3 ∧ Dw (b - 1 - i) g' ∧ η = [some .stt, some (.int most), some (.int odds), some (.int f), x]) ⟨0, none, by omega, by simp, by omega, by simpa using w1, rfl⟩ ?_ ?_
      · rintro i x η g' ex ⟨f, x', p1, p2, p3, w', rfl⟩
        obtain ⟨hi, rfl⟩ := rngL_get ex
        have := pw i (by omega)
        simp
        refine ⟨small_lit (by omega) (by omega), ?_⟩
        refine take_pw w' (by omega) (by omega) (by omega) fun g2 d2 w2 p3 p4 => ?_
        simp
        exact ⟨_, by omega, by rw [Int.pow_succ]; omega, by omega, w2.less (by omega), rfl⟩
      · rintro η g' ⟨f, x', p1, p2, p3, w', rfl⟩
        simp at p2 w'
        simp
        refine take_pw w' (by omega) (by omega) (by omega) fun g2 d2 w2 p3 p4 => ?_
        simp
        refine ⟨small_lit (by omega) (by omega), ⟨small_lit (by omega) (by omega), small_lit (by omega) (by omega)⟩, ?_⟩
        obtain rfl | rfl : d2 = 0 ∨ d2 = 1 := by omega
        · exact ⟨.int (by omega) (by omega), w2.less (by omega)⟩
        · exact ⟨.int (by omega) (by omega), w2.less (by omega)⟩
theorem h_entry_pw {b : Int} {g : G} {most odds : Int} (w : Dw b g) (hb : 5 ≤ b) (h0 : 0 ≤ most) (h1 : most ≤ 10 ^ 30) (h2 : 1 ≤ odds) (h3 : odds ≤ 1000) : PW (d_h_entry [.stt, .int most, .int odds] g) (fun d g' => En' d ∧ Dw (b - 5) g') eF :=
  (h_entry_pwB w hb h0 h1 h2 h3).use fun d g ⟨⟨o, e, _⟩, w⟩ => ⟨⟨o, e⟩, w⟩
/-! h_sum -/
@[simp] theorem h_sum_eq {a b : Ent} {g : G} : d_h_sum [eD a, eD b] g = .ok (eD (addO a b)) g := by
  apply PW.eq
  cases a <;> cases b <;> simp [d_h_sum, f_h_sum, addO]
/-! h_less -/
@[simp] theorem h_less_eq {a b : Ent} {g : G} : d_h_less [eD a, eD b] g = .ok (eD (lesO a b)) g := by
  apply PW.eq
  cases a <;> cases b <;> simp [d_h_less, f_h_less, lesO]
/-! h_lifted -/
theorem h_lifted_eq {x : D} {xs : Row} {e : Ent} {g : G} (hx : Rw x xs) (hl : xs.length ≤ 1000000) : d_h_lifted [x, eD e] g = .ok (rowD (raiseO xs e)) g := by
  apply PW.eq
  simp [d_h_lifted, f_h_lifted, hx.seq]
  rw [lc_all (fun a => eD (addO a e)) fun a _ => ⟨_, rfl, by apply PW.eq; simp⟩]
  simp [raiseO, rowD, show xs.length ≤ 16777216 by omega]
/-! h_both -/
theorem h_both_eq {x y : D} {xs ys : Row} {g : G} (hx : Rw x xs) (hy : Rw y ys) (hl : xs.length ≤ 1000000) : d_h_both [x, y] g = .ok (rowD (bothO xs ys)) g := by
  apply PW.eq
  simp [d_h_both, f_h_both, hx.seq, hy.seq]
  have e : List.zipWith (fun (a b : Ent) => D.tup [eD a, eD b]) xs ys = (List.zip xs ys).map fun p => .tup [eD p.1, eD p.2] := by rw [List.zip, List.map_zipWith]
  rw [e, lc_all (fun p => eD (lesO p.1 p.2)) fun p _ => ⟨_, rfl, by apply PW.eq; simp⟩]
  have e2 : List.map (fun p : Ent × Ent => eD (lesO p.1 p.2)) (xs.zip ys) = (bothO xs ys).map eD := by
    rw [List.zip, List.map_zipWith, bothO, List.map_zipWith]
  rw [e2]
  simp [rowD, bothO]
  omega
/-! h_made -/
theorem h_made_eq {t a : D} {xss : Tab} {es : Row} {n : Nat} {g : G} (ht : Tb t xss) (ha : Rw a es) (h0 : xss ≠ []) (hw : wideO n xss) (hn : n ≤ 1000000) : d_h_made [t, a] g = .ok (rowD (madeO n xss es)) g := by
  obtain ⟨ds, hs, hr⟩ := ht
  obtain ⟨r0, rest, rfl⟩ : ∃ r rest, xss = r :: rest := by
    cases xss with
    | nil => exact absurd rfl h0
    | cons r rest => exact ⟨r, rest, rfl⟩
  obtain ⟨d0, hd0, hr0⟩ := hr.getT (i := 0) rfl
  have hr0n : r0.length = n := hw r0 (.head _)
  apply PW.eq
  simp [d_h_made, f_h_made, getT_seq hs, hd0, lenT_seq hr0.seq, hr0n, hs, ha.seq]
  refine ⟨by omega, ?_⟩
  have e0 : List.replicate n D.non = (List.replicate n (none : Ent)).map eD := by simp
  rw [e0]
  refine for_pw (fun i η g' => g' = g ∧ ∃ (acc : Row) (z3 z4 : Option D), acc.length = n ∧ η = [some t, some a, some (rowD acc), z3, z4] ∧ madeF acc ((r0 :: rest).drop i) (es.drop i) = madeO n (r0 :: rest) es) ⟨rfl, _, none, none, by simp, rfl, rfl⟩ ?_ ?_
  · rintro i z η g' ez ⟨rfl, acc, z3, z4, hacc, rfl, h⟩
    obtain ⟨d, xs, o, e1, e2, hxs, rfl⟩ := zip_rws hr ez
    have hxn : xs.length = n := hw xs (List.mem_of_getElem? e1)
    rw [madeF_drop e1 e2] at h
    simp [h_lifted_eq hxs (show xs.length ≤ 1000000 by omega), h_both_eq (Rw_row acc) (Rw_row (raiseO xs o)) (show acc.length ≤ 1000000 by omega)]
    exact ⟨_, by rw [both_len (by rw [raise_len, hxn, hacc]), hacc], rfl, h⟩
  · rintro η g' ⟨rfl, acc, z3, z4, hacc, rfl, h⟩
    simp
    rw [madeF_end] at h
    · rw [h]
    · simp [hr.len]; omega
/-! h_rows -/
theorem h_rows_pw {b : Int} {g : G} {many wide : Int} (w : Dw b g) (hb : 3000 ≤ b) (h0 : 0 ≤ many) (h1 : many ≤ 40) (h2 : 0 ≤ wide) (h3 : wide ≤ 6) :
    PW (d_h_rows [.stt, .int many, .int wide] g) (fun d g' => ∃ xss : Tab, d = tabD xss ∧ xss.length = many.toNat ∧ wideO wide.toNat xss ∧ (∀ r ∈ xss, RwB (10 ^ 30 + 200) r) ∧ Dw (b - 3000) g') eF := by
  rw [lit10]
  simp [d_h_rows, f_h_rows]
  refine take_pw w (by omega) (by omega) (by omega) fun g1 d1 w1 p1 p2 => ?_
  obtain ⟨m, hm, e⟩ := pick [2, 9, 1000, 1000000000000000000000000000000] p1 (by simpa using p2)
  have m0 : 0 ≤ m ∧ m ≤ 10 ^ 30 := by
    rw [lit10]
    simp at hm
    omega
  simp at e
  simp [e]
  refine take_pw w1 (by omega) (by omega) (by omega) fun g2 d2 w2 p3 p4 => ?_
  obtain ⟨o, ho, e2⟩ := pick [2, 3, 6, 30] p3 (by simpa using p4)
  have o0 : 1 ≤ o ∧ o ≤ 1000 := by
    simp at ho
    omega
  simp at e2
  simp [e2]
  rw [rng1T_is h0 (by omega)]
  simp
  refine for_pw (fun i η g' => ∃ (xss : Tab) (z6 z7 z8 : Option D), i ≤ many.toNat ∧ xss.length = i ∧ wideO wide.toNat xss ∧ (∀ r ∈ xss, RwB (1000000000000000000000000000000 + 4 * i) r) ∧ Dw (b - 2 - 60 * i) g' ∧ η = [some .stt, some (.int many), some (.int wide), some (.int m), some (.int o), some (tabD xss), z6, z7, z8, none]) ⟨[], none, none, none, by omega, rfl, fun r h => absurd h List.not_mem_nil, fun r h => absurd h List.not_mem_nil, w2.less (by omega), rfl⟩ ?_ ?_
  · rintro i x η g' ex ⟨xss, z6, z7, z8, hi, hl, hw, hB, w', rfl⟩
    obtain ⟨hi', rfl⟩ := rngL_get ex
    simp [-PS_dIfS]
    refine take_pw w' (by omega) (by omega) (by omega) fun g3 d3 w3 p5 p6 => ?_
    simp [-PS_dIfS]
    rw [rng1T_is h2 (by omega)]
    simp [-PS_dIfS]
    refine lc_draws (β := Ent) (f := eD) (R := OB (10 ^ 30)) (c := 5) (by omega) w3 (by simp; omega) (fun x hx b' g' w' hb' => ?_) (fun os g4 hos hR w4 => ?_)
    · obtain ⟨i, hi, rfl⟩ := List.mem_iff_getElem.mp hx
      simp
      exact (h_entry_pwB w' (by omega) m0.1 m0.2 o0.1 o0.2).use fun d g2 ⟨⟨o, e, h⟩, w3⟩ => ⟨o, e, h, w3⟩
    simp at hos w4
    rw [lit10] at hR
    have w4 : Dw (b - 2 - 60 * i - 31) g4 := w4.less (by omega)
    simp [-PS_dIfS, hos]
    refine ⟨by omega, ?_⟩
    refine PS.cut (fun η g' => ∃ ys : Row, ys.length = wide.toNat ∧ RwB (1000000000000000000000000000000 + 4 * (i + 1)) ys ∧ Dw (b - 2 - 60 * (i + 1)) g' ∧ η = [some .stt, some (.int many), some (.int wide), some (.int m), some (.int o), some (tabD xss), some (.int i), some (.int d3), some (rowD ys), none]) ?_ ?_
    · have hos' : RwB (1000000000000000000000000000000 + 4 * (i + 1)) os := RwB.more hR (by omega)
      have done : ∀ (zs : Row) (g5 : G), zs.length = wide.toNat → RwB (1000000000000000000000000000000 + 4 * (i + 1)) zs → Dw (b - 2 - 60 * (i + 1)) g5 → ∃ ys : Row, ys.length = wide.toNat ∧ RwB (1000000000000000000000000000000 + 4 * (i + 1)) ys ∧ Dw (b - 2 - 60 * (i + 1)) g5 ∧ (List.map eD zs = List.map eD ys) := fun zs g5 a b c => ⟨zs, a, b, c, rfl⟩
      simp
      have three : ∀ (Q : Prop) , Q → Q := fun _ q => q
      split
      · split
        · refine take_pw w4 (by omega) (by omega) (by omega) fun g5 d5 w5 p7 p8 => ?_
          simp
          split
          · refine ⟨by omega, List.replicate wide.toNat none, by simp, .nones _, w5.less (by omega), by simp⟩
          · exact done os g5 hos hos' (w5.less (by omega))
        · exact done os g4 hos hos' (w4.less (by omega))
      · rename_i hne
        have hpos : 1 ≤ xss.length := List.length_pos_iff.mpr hne
        split
        · refine take_pw w4 (by omega) (by omega) (by omega) fun g5 d5 w5 p7 p8 => ?_
          obtain ⟨r, hr, er⟩ := pickD xss p7 (by omega)
          have hrl := hw r hr
          have hrB := hB r hr
          simp [er]
          obtain rfl | rfl | rfl : d3 = 0 ∨ d3 = 1 ∨ d3 = 2 := by omega
          · simp
            exact done r g5 hrl (hrB.more (by omega)) (w5.less (by omega))
          · simp
            refine take_pw w5 (by omega) (by omega) (by omega) fun g6 d6 w6 p9 p10 => ?_
            have hh := h_lifted_eq (x := .lst (List.map eD r)) (xs := r) (e := some (d6 - 4)) (g := g6) rfl (by omega)
            rw [eD_some] at hh
            simp [hh]
            exact done _ g6 (by rw [raise_len, hrl]) ((RwB.raise (c := 4) hrB (by omega) (by omega)).more (by omega)) (w6.less (by omega))
          · simp
            refine take_pw w5 (by omega) (by omega) (by omega) fun g6 d6 w6 p9 p10 => ?_
            have hh := h_lifted_eq (x := .lst (List.map eD r)) (xs := r) (e := some (d6 - 4)) (g := g6) rfl (by omega)
            rw [eD_some] at hh
            simp [hh]
            refine take_pw w6 (by omega) (by omega) (by omega) fun g7 d7 w7 p11 p12 => ?_
            obtain ⟨r2, hr2, er2⟩ := pickD xss p11 (by omega)
            have hr2l := hw r2 hr2
            have hr2B := hB r2 hr2
            simp [er2]
            refine take_pw w7 (by omega) (by omega) (by omega) fun g8 d8 w8 p13 p14 => ?_
            have hh2 := h_lifted_eq (x := rowD r2) (xs := r2) (e := some (d8 - 4)) (g := g8) rfl (by omega)
            rw [eD_some] at hh2
            simp [hh2, h_both_eq (Rw_row (raiseO r (some (d6 - 4)))) (Rw_row (raiseO r2 (some (d8 - 4)))) (g := g8) (by rw [raise_len]; omega)]
            exact done _ g8 (by rw [both_len (by rw [raise_len, raise_len, hrl, hr2l]), raise_len, hrl]) (RwB.both ((RwB.raise (c := 4) hrB (by omega) (by omega)).more (by omega)) ((RwB.raise (c := 4) hr2B (by omega) (by omega)).more (by omega))) (w8.less (by omega))
        · split
          · refine take_pw w4 (by omega) (by omega) (by omega) fun g5 d5 w5 p7 p8 => ?_
            simp
            split
            · refine ⟨by omega, List.replicate wide.toNat none, by simp, .nones _, w5.less (by omega), by simp⟩
            · exact done os g5 hos hos' (w5.less (by omega))
          · exact done os g4 hos hos' (w4.less (by omega))
    · rintro η g' ⟨ys, hy, hyB, w5, rfl⟩
      simp
      exact ⟨by omega, by omega, xss ++ [ys], by simp [hl], fun r m => (List.mem_append.mp m).elim (hw r) fun m => by rw [List.mem_singleton.mp m]; exact hy, fun r m => (List.mem_append.mp m).elim (fun m => (hB r m).more (by omega)) fun m => by rw [List.mem_singleton.mp m]; exact hyB, w5, by simp⟩
  · rintro η g' ⟨xss, z6, z7, z8, hi, hl, hw, hB, w', rfl⟩
    simp at hl w' hB
    simp
    exact ⟨xss, rfl, by omega, hw, fun r m => (hB r m).more (by omega), w'.less (by omega)⟩
end Lw
namespace Lw
open Lt
open L2 (atI ixN)
--@ is_empty
theorem is_empty_eq {x : D} {xs : Row} {g : G} (hx : Rw x xs) (hn : xs.length ≤ 1000000) : d_is_empty [x] g = .ok (.bl (decide (empO xs))) g := by
  apply PW.eq
  simp [d_is_empty, f_is_empty, hx.seq]
  refine OQ_all (fun e => .bl e.isNone) (fun e _ => by apply PW.eq; simp) ?_
  simp
  refine ⟨by omega, ?_⟩
  rw [Bool.eq_iff_iff, decide_eq_true_iff]
  simp [empO]
--@ is_alike
theorem is_alike_eq {x y : D} {xs ys : Row} {g : G} (hx : Rw x xs) (hy : Rw y ys) (hl : xs.length = ys.length) (hn : xs.length ≤ 1000000) : d_is_alike [x, y] g = .ok (.bl (alkB xs ys)) g := by
  apply PW.eq
  simp [d_is_alike, f_is_alike, hx.seq, hy.seq]
  refine for_pw (fun i η g' => g' = g ∧ (∀ (j : Nat) (e : Ent), j < i → xs[j]? = some e → e = none) ∧ ∃ z2 z3 : Option D, η = [some x, some y, z2, z3]) ⟨rfl, fun j e hj => by omega, none, none, rfl⟩ ?_ ?_
  · rintro i z η g' ez ⟨rfl, hno, z2, z3, rfl⟩
    rw [List.getElem?_zipWith] at ez
    cases e1 : xs[i]? with
    | none => simp [e1] at ez
    | some a =>
      cases e2 : ys[i]? with
      | none => simp [e1, e2] at ez
      | some b =>
        simp [e1, e2] at ez
        subst ez
        cases a with
        | none =>
          simp
          intro j e hj he
          by_cases h : j = i
          · subst h
            rw [e1] at he
            exact (Option.some.inj he).symm
          · exact hno j e (by omega) he
        | some a =>
          cases b with
          | none =>
            simp
            refine alkB_no.mpr ?_
            rintro ⟨c, h⟩
            have := (raise_get (x := xs) (c := c) (v := a + c) (i := i)).mpr (by rw [e1]; congr 2; omega)
            rw [h, e2] at this
            cases this
          | some b =>
            have hr := raised_eq (g := g') (e := some (b - a)) hx hn
            simp only [eD_some] at hr
            simp [hr, listC_seq hy.seq (eD_flats _)]
            rw [Bool.eq_iff_iff, alkB_iff, decide_eq_true_iff]
            constructor
            · exact fun h => ⟨_, h⟩
            · rintro ⟨c, h⟩
              have := (raise_get (x := xs) (c := c) (v := a + c) (i := i)).mpr (by rw [e1]; congr 2; omega)
              rw [h, e2] at this
              have e3 : c = b - a := by simp at this; omega
              rw [← e3]
              exact h
  · rintro η g' ⟨rfl, hno, z2, z3, rfl⟩
    simp [is_empty_eq hy (by omega)]
    have hE : empO xs := fun e he => by
      obtain ⟨j, hj⟩ := List.getElem?_of_mem he
      refine hno j e ?_ hj
      have := (List.getElem?_eq_some_iff.mp hj).1
      simp
      omega
    rw [Bool.eq_iff_iff, alkB_iff, decide_eq_true_iff]
    constructor
    · intro h
      refine ⟨0, ?_⟩
      rw [raise_zero, (emp_iff rfl).mp hE, (emp_iff rfl).mp h, hl]
    · exact fun h => h.emp.mp hE
--@ is_kept
theorem is_kept_eq {t : D} {T : Tab} {n k : Nat} {g : G} (ht : Tb t T) (hw : wideO n T) (hn : n ≤ 1000000) (hl : T.length ≤ 1000000) (hk : k < T.length) : d_is_kept [t, .int (k : Int)] g = .ok (.bl (kptB T k)) g := by
  obtain ⟨ds, hs, hr⟩ := ht
  have eT : T[k]? = some T[k] := List.getElem?_eq_getElem hk
  obtain ⟨d, ed, hd⟩ := hr.getT eT
  obtain ⟨r, er⟩ : ∃ r, r = T[k] := ⟨_, rfl⟩
  rw [← er] at eT hd
  have hrl : r.length = n := hw r (List.mem_of_getElem? eT)
  obtain ⟨t', e1, e2⟩ := sliceT_seq hs none (some (k : Int))
  rw [cutD_take] at e2
  have hal : ∀ (d' : D) (s : Row) (g : G), Rw d' s → s ∈ T → d_is_alike [d', d] g = .ok (.bl (alkB s r)) g := fun d' s g h m => is_alike_eq h hd (by rw [hw s m, hrl]) (by rw [hw s m]; exact hn)
  apply PW.eq
  simp [d_is_kept, f_is_kept, getT_seq hs, ed, -PS_dIfS]
  refine PS.cut (fun η g' => g' = g ∧ η = [some t, some (.int k), some d, none, none] ∧ ¬ empO r ∧ ∀ (j : Nat) (s : Row), j < k → T[j]? = some s → ¬ Alk s r) ?_ ?_
  · simp [is_empty_eq hd (by omega)]
    by_cases he : empO r
    · simp [he]
      refine Bool.eq_false_iff.mpr fun z => ?_
      obtain ⟨r', q1, q2, _⟩ := kptB_iff.mp z
      rw [eT] at q1
      cases q1
      exact q2.1 he
    · simp [he, e1, e2]
      refine OQ_rws (fun s => .bl (alkB s r)) (hr.take k) (fun d' s h m => by
        apply PW.eq
        simp [hal d' s g h (List.mem_of_mem_take m)]) ?_
      simp
      have hb : ∀ bs : List Row, blsD (bs.map fun s => D.bl (alkB s r)) = some (bs.map fun s => alkB s r) := fun bs => by
        induction bs with
        | nil => rfl
        | cons b bs ih => simp [blsD, ih]
      rw [← List.map_take, hb]
      simp
      refine ⟨by omega, ?_⟩
      split
      · rename_i h
        rw [← List.map_take, List.mem_map] at h
        obtain ⟨s, hs1, hs2⟩ := h
        refine Bool.eq_false_iff.mpr fun z => ?_
        obtain ⟨r', q1, q2, q3⟩ := kptB_iff.mp z
        rw [eT] at q1
        cases q1
        obtain ⟨j, hj⟩ := List.getElem?_of_mem hs1
        rw [List.getElem?_take] at hj
        split at hj
        · exact q3 j s (by assumption) hj (alkB_iff.mp hs2)
        · cases hj
      · rename_i h
        intro j s hj ej a
        refine h ?_
        rw [← List.map_take, List.mem_map]
        refine ⟨s, List.mem_of_getElem? (i := j) ?_, alkB_iff.mpr a⟩
        rw [List.getElem?_take, if_pos hj]
        exact ej
  rintro η g' ⟨rfl, rfl, he, ha⟩
  simp [hs]
  refine OQ_rwsF (fun s => !alkB s r) hr (fun d' s h m => by
    simp
    refine ⟨?_, ?_⟩
    · apply PW.eq
      simp [hal d' s _ h m]
    · apply PW.eq
      simp) fun es hes hel => ?_
  simp
  refine ⟨by rw [hr.len] at hel; omega, ?_⟩
  have hU : (T.filter fun s => !alkB s r) = unlO T r := rfl
  rw [hU] at hes
  simp [eqT_rws_nil hes]
  have hB : kptB T k = !(@decide (Sp (unlO T r) r) (Classical.propDecidable _)) := by
    rw [Bool.eq_iff_iff, kptB_iff]
    simp
    constructor
    · rintro ⟨r', q1, q2, _⟩
      rw [eT] at q1
      cases q1
      exact q2.2
    · exact fun h => ⟨r, eT, ⟨he, h⟩, ha⟩
  by_cases hE : unlO T r = []
  · have h0 : ¬ Sp (unlO T r) r := by rw [hE, sp_nil]; exact he
    simp [h0] at hB
    simp [hE, hB]
  · simp [hE]
    have hW : wideO n (unlO T r) := unl_wide hw
    have hUl : (unlO T r).length ≤ 1000000 := by
      have := List.length_filter_le (fun s => !alkB s r) T
      rw [hU] at this
      omega
    simp [reach_eq (t := .lst es) ⟨es, rfl, hes⟩ hd hE hW hn hUl, listC_seq hd.seq (eD_flats _)]
    rw [hB]
    have := sp_near hW hrl
    simp [← this]
    rfl
--@ few
theorem few_eq {t : D} {T : Tab} {n : Nat} {g : G} (ht : Tb t T) (hw : wideO n T) (hn : n ≤ 1000000) (hl : T.length ≤ 1000000) : d_few [t] g = .ok (.lst ((fewO T).map fun (k : Nat) => D.int (k : Int))) g := by
  obtain ⟨ds, hs, hr⟩ := ht
  apply PW.eq
  simp [d_few, f_few, lenT_seq hs, hr.len]
  rw [rng1T_is (by omega) (by omega)]
  simp [rngL]
  refine OQ_of (fun k => kptB T k) (fun (k : Nat) => D.int (k : Int)) (fun k hk => ?_) ?_
  · have hk : k < T.length := by simpa using hk
    simp
    refine ⟨?_, fun _ => ?_⟩
    · apply PW.eq
      simp [is_kept_eq ⟨ds, hs, hr⟩ hw hn hl hk]
    · apply PW.eq
      simp
  · simp
    exact ⟨Nat.le_trans (List.length_filter_le _ _) (by simp; omega), rfl⟩
--@ h_alike
theorem h_alike_eq {x : D} {xs ys : Row} {g : G} (hx : Rw x xs) (hl : xs.length = ys.length) (hn : xs.length ≤ 1000000) : d_h_alike [x, rowD ys] g = .ok (.bl (alkB xs ys)) g := by
  apply PW.eq
  simp [d_h_alike, f_h_alike, hx.seq]
  refine for_pw (fun i η g' => g' = g ∧ (∀ (j : Nat) (e : Ent), j < i → xs[j]? = some e → e = none) ∧ ∃ z2 z3 : Option D, η = [some x, some (rowD ys), z2, z3]) ⟨rfl, fun j e hj => by omega, none, none, rfl⟩ ?_ ?_
  · rintro i z η g' ez ⟨rfl, hno, z2, z3, rfl⟩
    rw [List.getElem?_zipWith] at ez
    cases e1 : xs[i]? with
    | none => simp [e1] at ez
    | some a =>
      cases e2 : ys[i]? with
      | none => simp [e1, e2] at ez
      | some b =>
        simp [e1, e2] at ez
        subst ez
        cases a with
        | none =>
          simp
          intro j e hj he
          by_cases h : j = i
          · subst h
            rw [e1] at he
            exact (Option.some.inj he).symm
          · exact hno j e (by omega) he
        | some a =>
          cases b with
          | none =>
            simp
            refine alkB_no.mpr ?_
            rintro ⟨c, h⟩
            have := (raise_get (x := xs) (c := c) (v := a + c) (i := i)).mpr (by rw [e1]; congr 2; omega)
            rw [h, e2] at this
            cases this
          | some b =>
            have hr := h_lifted_eq (g := g') (e := some (b - a)) hx hn
            simp only [eD_some] at hr
            simp [hr]
            rw [Bool.eq_iff_iff, alkB_iff, decide_eq_true_iff]
            constructor
            · exact fun h => ⟨_, h⟩
            · rintro ⟨c, h⟩
              have := (raise_get (x := xs) (c := c) (v := a + c) (i := i)).mpr (by rw [e1]; congr 2; omega)
              rw [h, e2] at this
              have e3 : c = b - a := by simp at this; omega
              rw [← e3]
              exact h
  · rintro η g' ⟨rfl, hno, z2, z3, rfl⟩
    simp
    refine OQ_all (fun e => .bl e.isNone) (fun e _ => by apply PW.eq; simp) ?_
    simp
    have hE : empO xs := fun e he => by
      obtain ⟨j, hj⟩ := List.getElem?_of_mem he
      refine hno j e ?_ hj
      have := (List.getElem?_eq_some_iff.mp hj).1
      simp
      omega
    refine ⟨by omega, ?_⟩
    have : (∀ e ∈ ys, e = none) ↔ empO ys := Iff.rfl
    rw [Bool.eq_iff_iff, alkB_iff]
    simp
    rw [this]
    constructor
    · intro h
      refine ⟨0, ?_⟩
      rw [raise_zero, (emp_iff rfl).mp hE, (emp_iff rfl).mp h, hl]
    · exact fun h => h.emp.mp hE
--@ h_mixed
theorem h_mixed_pw {b : Int} {g : G} {T : Tab} {n : Nat} (w : Dw b g) (hb : 100 ≤ b) (hl : T.length ≤ 40) (hw : wideO n T) (hn : n ≤ 6) :
    PW (d_h_mixed [.stt, tabD T] g) (fun d g' => ∃ U : Tab, d = tabD U ∧ U.length = T.length ∧ wideO n U ∧ (∀ u ∈ U, ∃ t ∈ T, Alk t u) ∧ (∀ t ∈ T, ∃ u ∈ U, Alk t u) ∧ Dw (b - 100) g') eF := by
  simp [d_h_mixed, f_h_mixed]
  refine while_pw (m := T.length) (fun m η g' => ∃ (L F : Tab) (z4 : Option D), η = [some .stt, some (tabD T), some (tabD L), some (tabD F), z4] ∧ L.length = m ∧ F.length + m = T.length ∧ (∀ l ∈ L, l ∈ T) ∧ (∀ u ∈ F, ∃ t ∈ T, Alk t u) ∧ (∀ t ∈ T, t ∈ L ∨ ∃ u ∈ F, Alk t u) ∧ Dw (b - 2 * F.length) g') ?_ ⟨T, [], none, by simp, rfl, by simp, fun l h => h, fun u h => absurd h List.not_mem_nil, fun t h => .inl h, by simpa using w⟩
  rintro m η g' ⟨L, F, z4, rfl, hL, hF, hsub, hfr, hto, w1⟩
  simp
  by_cases he : L = []
  · subst he
    simp at hL
    subst hL
    simp
    refine ⟨F, rfl, by omega, fun u hu => ?_, hfr, fun t ht => ?_, w1.less (by omega)⟩
    · obtain ⟨t, ht, a⟩ := hfr u hu
      rw [← a.len]
      exact hw t ht
    · simpa using hto t ht
  · have hL0 : 0 < L.length := List.length_pos_iff.mpr he
    simp [he]
    refine take_pw w1 (by omega) (by omega) (by omega) fun g2 d2 w2 p1 p2 => ?_
    obtain ⟨k, rfl⟩ : ∃ k : Nat, d2 = k := ⟨d2.toNat, by omega⟩
    have hk : k < L.length := by omega
    simp
    rw [ixN_ok (by omega) (by omega)]
    simp [List.getElem?_eq_getElem hk]
    refine ⟨by omega, ?_⟩
    refine take_pw w2 (by omega) (by omega) (by omega) fun g3 d3 w3 p3 p4 => ?_
    have hLk : L[k] ∈ T := hsub _ (List.getElem_mem hk)
    have hli := h_lifted_eq (x := rowD L[k]) (xs := L[k]) (e := some (d3 - 9)) (g := g3) rfl (by rw [hw _ hLk]; omega)
    simp only [eD_some] at hli
    simp [hli]
    refine ⟨by omega, m - 1, by omega, L.eraseIdx k, F ++ [raiseO L[k] (some (d3 - 9))], ⟨by rw [List.eraseIdx_eq_take_drop_succ, List.eraseIdx_eq_take_drop_succ]; simp, by simp⟩, by rw [List.length_eraseIdx_of_lt hk]; omega, by simp; omega, fun l h => hsub l (List.mem_of_mem_eraseIdx h), fun u hu => ?_, fun t ht => ?_, w3.less (by simp; omega)⟩
    · rcases List.mem_append.mp hu with hu | hu
      · exact hfr u hu
      · rw [List.mem_singleton.mp hu]
        exact ⟨_, hLk, .raise _ _⟩
    · rcases hto t ht with h | ⟨u, hu, a⟩
      · obtain ⟨j, hj⟩ := List.getElem?_of_mem h
        by_cases e : j = k
        · subst e
          rw [List.getElem?_eq_getElem hk] at hj
          cases hj
          exact .inr ⟨raiseO L[j] (some (d3 - 9)), by simp, .raise _ _⟩
        · refine .inl ?_
          rw [List.mem_eraseIdx_iff_getElem?]
          exact ⟨j, e, hj⟩
      · exact .inr ⟨u, List.mem_append_left _ hu, a⟩
--@@
theorem OQ_copies {η : Dn} {g : G} {Q : List D × G → Prop} {T : Tab} {i : Nat} (hi : i < η.length) (hw : ∀ r ∈ T, r.length ≤ 1000000) (q : Q (T.map rowD, g)) : OQ (lcD (tNm i) dYes (d1 (dc1 (dO fun b => Option.map D.lst (listC b))) (dCons (dVar i) dNil)) η (T.map rowD) g) Q := by
  refine OQ_all rowD (fun r hr => ?_) q
  simp [tNm, hi]
  apply PW.eq
  simp [hi, listC_seq (Rw_row r).seq (eD_flats _)]
theorem h_right_pw {b : Int} {g : G} (w : Dw b g) (hb : 5000 ≤ b) : PW (d_h_right [.stt] g) (fun d g' => d = .bl true ∧ Dw (b - 5000) g') eF := by
  simp [d_h_right, f_h_right, -PS_dIfS]
  refine take_pw w (by omega) (by omega) (by omega) fun g1 c1 w1 p1 p2 => ?_
  simp [-PS_dIfS]
  refine take_pw w1 (by omega) (by omega) (by omega) fun g2 c2 w2 p3 p4 => ?_
  simp [-PS_dIfS]
  refine take_pw w2 (by omega) (by omega) (by omega) fun g3 c3 w3 p5 p6 => ?_
  simp [-PS_dIfS]
  refine take_pw w3 (by omega) (by omega) (by omega) fun g4 c4 w4 p7 p8 => ?_
  obtain ⟨many, hm, em⟩ := pick [1 + c2, 1 + c3] p7 (by simpa using p8)
  have m0 : 1 ≤ many ∧ many ≤ 20 := by
    simp at hm
    omega
  simp at em
  simp [em, -PS_dIfS]
  obtain ⟨wide, hwide⟩ : ∃ z, z = 1 + c1 := ⟨_, rfl⟩
  rw [← hwide]
  refine (h_rows_pw w4 (by omega) (by omega) (by omega) (by omega) (by omega)).use fun _ g5 ⟨T, e, hl, hw, _, w5⟩ => ?_
  subst e
  have hrl : ∀ r ∈ T, r.length ≤ 1000000 := fun r m => by rw [hw r m]; omega
  simp [-PS_dIfS]
  refine OQ_copies (by simp) hrl ?_
  have hfew : ∀ g, d_few [tabD T] g = .ok (kD (fewO T)) g := fun g => few_eq (Tb_tab T) hw (by omega) (by omega)
  simp [hfew, -PS_dIfS]
  obtain ⟨K, hK⟩ : ∃ K, K = keptO T (fewO T) := ⟨_, rfl⟩
  have hKl : K.length ≤ T.length := by rw [hK, keptO_len]; exact few_len T
  have hKw : wideO wide.toNat K := fun r hr => by rw [hK] at hr; exact hw r (kept_sub hr)
  have hKr : ∀ r ∈ K, r.length ≤ 1000000 := fun r m => by rw [hKw r m]; omega
  refine ⟨by omega, ?_⟩
  refine OQ_all (u := fun k : Nat => D.int (k : Int)) (fun k => rowD (T.getD k [])) (fun k hk => ?_) ?_
  · obtain ⟨r, e, _⟩ := few_mem.mp hk
    apply PW.eq
    simp [e, List.getD_eq_getElem?_getD]
  have eK : (fewO T).map (fun k => rowD (T.getD k [])) = K.map rowD := by rw [hK, keptO, List.map_map]; rfl
  rw [eK]
  simp [-PS_dIfS]
  refine ⟨by omega, ?_⟩
  have hfK : ∀ g, d_few [tabD K] g = .ok (kD (List.range K.length)) g := fun g => by
    have := few_eq (g := g) (Tb_tab K) hKw (by omega) (by omega)
    rw [this, hK, few_kept]
    rfl
  refine PS.cut (fun η g' => g' = g5 ∧ η = [some .stt, some (.int wide), some (tabD T), some (kD (fewO T)), some (tabD K), none, none, none, none, none, none, none, none, none, none]) ?_ ?_
  · simp
    intro _
    · refine OQ_copies (by simp) hKr ?_
      have er : rngL 0 K.length = (List.range K.length).map fun (k : Nat) => D.int (k : Int) := by simp [rngL]
      simp [hfK]
      rw [lrg1T_is (by omega) (by omega)]
      simp [er]
      refine ⟨by omega, ?_⟩
      have := h_same_eq (g := g5) 8 (kD_dn (ks := List.range K.length) (by simp; omega))
      rw [kD_fold, this]
      simp
  rintro η g' ⟨rfl, rfl⟩
  simp [-PS_dIfS]
  refine (h_mixed_pw (T := T) w5 (by omega) (by omega) hw (by omega)).use fun _ g6 ⟨U, e, hUl, hUw, hU1, hU2, w6⟩ => ?_
  subst e
  have hfU : ∀ g, d_few [tabD U] g = .ok (kD (fewO U)) g := fun g => few_eq (Tb_tab U) hUw (by omega) (by omega)
  simp [hfU, -PS_dIfS]
  have hcount := few_same hw hUw hU1 hU2
  have hfl := few_len T
  refine PS.cut (fun η g' => g' = g6 ∧ η = [some .stt, some (.int wide), some (tabD T), some (kD (fewO T)), some (tabD K), some (tabD U), some (kD (fewO U)), none, none, none, none, none, none, none, none]) ?_ ?_
  · have hs := kD_sort (few_rise U) (by omega)
    have hsm := h_same_eq (g := g6) 8 (kD_dn (ks := fewO U) (by omega))
    simp [hcount, hs]
    rw [kD_fold, hsm]
    simp
  rintro η g' ⟨rfl, rfl⟩
  simp [-PS_dIfS]
  refine for_pw (fun i η g'' => g'' = g' ∧ ∃ z7 : Option D, η = [some .stt, some (.int wide), some (tabD T), some (kD (fewO T)), some (tabD K), some (tabD U), some (kD (fewO U)), z7, none, none, none, none, none, none, none]) ⟨rfl, none, rfl⟩ ?_ ?_
  · rintro i x η g'' ex ⟨rfl, z7, rfl⟩
    rw [List.getElem?_map, Option.map_eq_some_iff] at ex
    obtain ⟨k, ek, rfl⟩ := ex
    obtain ⟨u, eu, _⟩ := few_mem.mp (List.mem_of_getElem? ek)
    have hu : u ∈ keptO U (fewO U) := kept_in (few_mem.mp (List.mem_of_getElem? ek)) eu
    have hul : u.length = wide.toNat := hUw u (kept_sub hu)
    simp
    refine OQ_of (u := rowD) (fun r => alkB r u) rowD (fun r hr => ?_) ?_
    · simp
      refine ⟨?_, fun _ => ?_⟩
      · apply PW.eq
        simp [eu, h_alike_eq (Rw_row r) (show r.length = u.length by rw [hKw r hr, hul]) (hKr r hr)]
      · apply PW.eq
        simp
    · obtain ⟨s, hs, a⟩ := kept_other hUw hw (fun t ht => (hU2 t ht).imp fun u h => ⟨h.1, h.2.symm⟩) (fun u hu => (hU1 u hu).imp fun t h => ⟨h.1, h.2.symm⟩) hu
      have h1 : (K.filter fun r => alkB r u).length = 1 := by rw [hK]; exact one_alk (kept_pair T) ⟨s, hs, a.symm⟩
      simp [h1]
  rintro η g'' ⟨rfl, z7, rfl⟩
  simp [-PS_dIfS]
  refine lc_draws (β := Row) (f := rowD) (R := fun m => m.length = wide.toNat ∧ Sp T m) (c := 110) (by omega) w6 (by simp; omega) (fun x hx b' g' w' hb' => ?_) (fun M g7 hMl hM w7 => ?_)
  · simp
    refine lc_draws (β := Ent) (f := eD) (R := fun _ => True) (c := 5) (by omega) w' (by simp; omega) (fun x hx b' g' w' hb' => ?_) (fun es g8 hel _ w8 => ?_)
    · obtain ⟨r, hr, rfl⟩ := List.mem_map.mp hx
      simp
      exact (h_entry_pw w' (by omega) (by omega) (by rw [lit10]; omega) (by omega) (by omega)).use fun d g2 ⟨⟨o, e⟩, w3⟩ => ⟨⟨o, e⟩, w3⟩
    · simp at hel w8
      have hne : T ≠ [] := by intro z; rw [z] at hl; simp at hl; omega
      simp [hel]
      rw [h_made_eq (n := wide.toNat) (Tb_tab T) (Rw_lst es) hne hw (by omega)]
      simp
      exact ⟨by omega, _, rfl, ⟨madeO_len hw, made_sp hw⟩, w8.less (by omega)⟩
  simp at hMl w7
  have hMw : wideO wide.toNat M := fun m hm => (hM m hm).1
  have w7 : Dw (b - 4000) g7 := w7.less (by omega)
  simp [hMl, -PS_dIfS]
  rw [rng1T_is (by omega) (by omega)]
  simp [-PS_dIfS]
  refine lc_draws (β := Ent) (f := eD) (R := fun _ => True) (c := 5) (by omega) w7 (by simp; omega) (fun x hx b' g' w' hb' => ?_) (fun ah g8 hal _ w8 => ?_)
  · obtain ⟨i, hi, rfl⟩ := List.mem_iff_getElem.mp hx
    simp
    exact (h_entry_pw w' (by omega) (by omega) (by rw [lit10]; omega) (by omega) (by omega)).use fun d g2 ⟨⟨o, e⟩, w3⟩ => ⟨⟨o, e⟩, w3⟩
  simp at hal w8
  have w8 : Dw (b - 4100) g8 := w8.less (by omega)
  have hTM : wideO wide.toNat (T ++ M) := fun r hr => (List.mem_append.mp hr).elim (hw r) (hMw r)
  have hAT : wideO wide.toNat (ah :: T) := fun r hr => (List.mem_cons.mp hr).elim (fun e => by rw [e]; omega) (hw r)
  have hfTM : ∀ g, d_few [tabD (T ++ M)] g = .ok (kD (fewO T)) g := fun g => by
    have := few_eq (g := g) (Tb_tab (T ++ M)) hTM (by omega) (by simp; omega)
    rw [this, few_more hw hMw fun m hm => (hM m hm).2]
    rfl
  have hfAT : ∀ g, d_few [tabD (ah :: T)] g = .ok (kD (fewO (ah :: T))) g := fun g => few_eq (g := g) (Tb_tab (ah :: T)) hAT (by omega) (by simp; omega)
  simp [hal, -PS_dIfS]
  refine ⟨by omega, ?_⟩
  have hsT := fun g => h_same_eq (g := g) 8 (kD_dn (ks := fewO T) (by omega))
  refine PS.cut (fun η g' => g' = g8 ∧ η = [some D.stt, some (D.int wide), some (tabD T), some (kD (fewO T)), some (tabD K), some (tabD U), some (kD (fewO U)), z7, some (tabD M), some (rowD ah), none, none, none, none, none]) ?_ ?_
  · simp
    refine ⟨by omega, ?_⟩
    rw [← List.map_append]
    refine OQ_copies (by simp) (fun r hr => by rw [hTM r hr]; omega) ?_
    have hf := hfTM g8
    simp [-List.map_append, hf, hsT]
    omega
  rintro η g' ⟨rfl, rfl⟩
  simp [-PS_dIfS]
  refine OQ_copies (by simp) hrl ?_
  have hf := fun g => hfAT g
  simp only [tabD, List.map_cons] at hf
  simp [hf, -PS_dIfS]
  refine ⟨by omega, by omega, ?_⟩
  refine take_pw w8 (by omega) (by omega) (by omega) fun g9 c9 w9 p9 p10 => ?_
  obtain ⟨k, rfl⟩ : ∃ k : Nat, c9 = k := ⟨c9.toNat, by omega⟩
  have hkU : k < U.length := by omega
  have hUk : U[k]? = some U[k] := List.getElem?_eq_getElem hkU
  have hUkl : (U[k]).length = wide.toNat := hUw _ (List.getElem_mem hkU)
  simp [hUk, -PS_dIfS]
  refine lc_draws (β := Ent) (f := eD) (R := fun _ => True) (c := 5) (by omega) w9 (by simp; omega) (fun x hx b' g' w' hb' => ?_) (fun us g10 hul _ w10 => ?_)
  · obtain ⟨i, hi, rfl⟩ := List.mem_iff_getElem.mp hx
    simp
    exact (h_entry_pw w' (by omega) (by omega) (by rw [lit10]; omega) (by omega) (by omega)).use fun d g2 ⟨⟨o, e⟩, w3⟩ => ⟨⟨o, e⟩, w3⟩
  simp at hul w10
  have w10 : Dw (b - 4200) g10 := w10.less (by omega)
  simp [hul, ixN_ok (n := U.length) (i := (k : Int)) (by omega) (by omega), -PS_dIfS]
  refine ⟨by omega, ?_⟩
  obtain ⟨V, hV⟩ : ∃ V, V = U.set k us := ⟨_, rfl⟩
  have hVl : V.length = U.length := by rw [hV]; simp
  have hVw : wideO wide.toNat V := fun r hr => by
    rw [hV] at hr
    rcases List.mem_or_eq_of_mem_set hr with h | h
    · exact hUw r h
    · rw [h]; omega
  have eV : (U.map rowD).set k (rowD us) = V.map rowD := by rw [hV, List.map_set]
  have hfV : ∀ g, d_few [tabD V] g = .ok (kD (fewO V)) g := fun g => few_eq (Tb_tab V) hVw (by omega) (by omega)
  have hflV := few_len V
  have hsV := fun g => h_same_eq (g := g) 8 (kD_dn (ks := fewO V) (by omega))
  rw [eV]
  refine PS.cut (fun η g' => g' = g10 ∧ η = [some D.stt, some (D.int wide), some (tabD T), some (kD (fewO T)), some (tabD K), some (tabD V), some (kD (fewO U)), z7, some (tabD M), some (rowD ah), some (kD (fewO (ah :: T))), some (D.int k), none, none, none]) ?_ ?_
  · simp [hfV]
    refine OQ_copies (by simp) (fun r hr => by rw [hVw r hr]; omega) ?_
    simp [hfV, hsV]
    omega
  rintro η g' ⟨rfl, rfl⟩
  rw [PS_dSeq]
  refine PS.cut (fun η g'' => g'' = g' ∧ η = [some D.stt, some (D.int wide), some (tabD T), some (kD (fewO T)), some (tabD K), some (tabD V), some (kD (fewO U)), z7, some (tabD M), some (rowD ah), some (kD (fewO (ah :: T))), some (D.int k), none, none, none]) ?_ ?_
  · simp
    refine OQ_copies (by simp) hrl ?_
    simp [hfew, hsT]
    omega
  rintro η g'' ⟨rfl, rfl⟩
  simp
  refine OQ_copies (by simp) hrl ?_
  have hfl2 := few_len (ah :: T)
  have hsA := fun g => h_same_eq (g := g) 8 (kD_dn (ks := fewO (ah :: T)) (by simp at hfl2; omega))
  simp [hf, hsA]
  exact ⟨by omega, by omega, w10.less (by omega)⟩
theorem begin_ok : Lt.BeginOk b_begin := kBegin7_ok
theorem law_ok : Lt.LawOk 1 b_law := law_pure fu_law fun cs h1 => by
  simp [f_law]
  refine lc_draws (β := Unit) (f := fun _ => .bl true) (R := fun _ => True) (c := 5000) (b := 40000) (by omega) ⟨h1, Int.le_refl _, by show (0 : Int) + 40000 < 2 ^ 60; decide⟩ (by simp) (fun x hx b' g' w' hb' => ?_) (fun os g' hl _ w' => ?_)
  · simp
    exact (h_right_pw w' (by omega)).use fun d g2 ⟨e, w3⟩ => ⟨e, w3⟩
  · simp at hl
    match os, hl with
    | [a, b, c], _ => simp
end Lw
open PySem PySem.W PyProof.Rows
set_option maxRecDepth 100000 in
set_option maxHeartbeats 0 in
theorem PySem.Challenge.cw_leasttables_k33_few_again_holds : PySem.Challenge.rw_leasttables_k33_few_again.Holds := by
  w_on; o_law; k_head; (case hw => w_witness2)
  k_fill
  refine L2.walk_of (l := PySem.Challenge.rw_leasttables_k33_few_again) (n := 63) (k := 11) (x := "_law_script") (CX := fun w => L2.CX PySem.Challenge.rw_leasttables_k33_few_again.prog w) (sp := fun w => Lt.spLaw _) rfl (by decide) rfl ⟨rfl, by decide, by decide⟩ (fun w h Y => PySem.W.kIn_of Y) ?F (fun _ _ a ns hl _ hS => ⟨a, ns, rfl, hS, hl, fun _ => rfl⟩) (fun _ _ _ _ _ z => Lt.cx_false z)
  case F =>
    intro w mg fa h KX G hmg
    refine' Lw.all_mk KX G hmg Lw.begin_ok Lw.law_ok ?t_lesser ?t_summed ?t_both ?t_raised ?t_is_empty ?t_made ?t_add_for ?t_reach ?t_is_alike ?t_is_kept ?t_few ?t_take ?t_h_same ?t_h_entry ?t_h_sum ?t_h_less ?t_h_lifted ?t_h_both ?t_h_made ?t_h_rows ?t_h_alike ?t_h_mixed ?t_h_right ?t_begin ?t_law ?z_all ?z_any ?z_bool ?z_divmod ?z_int ?z_isinstance ?z_len ?z_list ?z_min ?z_range ?z_set ?z_sorted ?z_str ?z_tuple ?z_zip
    (case t_lesser => refine' Lt.Stands.mk' ?a ?l ?c ?k; (case a => k_is); (case l => k_is); (case c => k_is); (case k => k_is))
    (case t_summed => refine' Lt.Stands.mk' ?a ?l ?c ?k; (case a => k_is); (case l => k_is); (case c => k_is); (case k => k_is))
    (case t_both => refine' Lt.Stands.mk' ?a ?l ?c ?k; (case a => k_is); (case l => k_is); (case c => k_is); (case k => k_is))
    (case t_raised => refine' Lt.Stands.mk' ?a ?l ?c ?k; (case a => k_is); (case l => k_is); (case c => k_is); (case k => k_is))
    (case t_is_empty => refine' Lt.Stands.mk' ?a ?l ?c ?k; (case a => k_is); (case l => k_is); (case c => k_is); (case k => k_is))
    (case t_made => refine' Lt.Stands.mk' ?a ?l ?c ?k; (case a => k_is); (case l => k_is); (case c => k_is); (case k => k_is))
    (case t_add_for => refine' Lt.Stands.mk' ?a ?l ?c ?k; (case a => k_is); (case l => k_is); (case c => k_is); (case k => k_is))
    (case t_reach => refine' Lt.Stands.mk' ?a ?l ?c ?k; (case a => k_is); (case l => k_is); (case c => k_is); (case k => k_is))
    (case t_is_alike => refine' Lt.Stands.mk' ?a ?l ?c ?k; (case a => k_is); (case l => k_is); (case c => k_is); (case k => k_is))
    (case t_is_kept => refine' Lt.Stands.mk' ?a ?l ?c ?k; (case a => k_is); (case l => k_is); (case c => k_is); (case k => k_is))
    (case t_few => refine' Lt.Stands.mk' ?a ?l ?c ?k; (case a => k_is); (case l => k_is); (case c => k_is); (case k => k_is))
    (case t_take => refine' Lt.Stands.mk' ?a ?l ?c ?k; (case a => k_is); (case l => k_is); (case c => k_is); (case k => k_is))
    (case t_h_same => refine' Lt.Stands.mk' ?a ?l ?c ?k; (case a => k_is); (case l => k_is); (case c => k_is); (case k => k_is))
    (case t_h_entry => refine' Lt.Stands.mk' ?a ?l ?c ?k; (case a => k_is); (case l => k_is); (case c => k_is); (case k => k_is))
    (case t_h_sum => refine' Lt.Stands.mk' ?a ?l ?c ?k; (case a => k_is); (case l => k_is); (case c => k_is); (case k => k_is))
    (case t_h_less => refine' Lt.Stands.mk' ?a ?l ?c ?k; (case a => k_is); (case l => k_is); (case c => k_is); (case k => k_is))
    (case t_h_lifted => refine' Lt.Stands.mk' ?a ?l ?c ?k; (case a => k_is); (case l => k_is); (case c => k_is); (case k => k_is))
    (case t_h_both => refine' Lt.Stands.mk' ?a ?l ?c ?k; (case a => k_is); (case l => k_is); (case c => k_is); (case k => k_is))
    (case t_h_made => refine' Lt.Stands.mk' ?a ?l ?c ?k; (case a => k_is); (case l => k_is); (case c => k_is); (case k => k_is))
    (case t_h_rows => refine' Lt.Stands.mk' ?a ?l ?c ?k; (case a => k_is); (case l => k_is); (case c => k_is); (case k => k_is))
    (case t_h_alike => refine' Lt.Stands.mk' ?a ?l ?c ?k; (case a => k_is); (case l => k_is); (case c => k_is); (case k => k_is))
    (case t_h_mixed => refine' Lt.Stands.mk' ?a ?l ?c ?k; (case a => k_is); (case l => k_is); (case c => k_is); (case k => k_is))
    (case t_h_right => refine' Lt.Stands.mk' ?a ?l ?c ?k; (case a => k_is); (case l => k_is); (case c => k_is); (case k => k_is))
    (case t_begin => refine' Lt.Stands.mk' ?a ?l ?c ?k; (case a => k_is); (case l => k_is); (case c => k_is); (case k => k_is))
    (case t_law => refine' Lt.Stands.mk' ?a ?l ?c ?k; (case a => k_is); (case l => k_is); (case c => k_is); (case k => k_is))
    (case z_all => k_is)
    (case z_any => k_is)
    (case z_bool => k_is)
    (case z_divmod => k_is)
    (case z_int => k_is)
    (case z_isinstance => k_is)
    (case z_len => k_is)
    (case z_list => k_is)
    (case z_min => k_is)
    (case z_range => k_is)
    (case z_set => k_is)
    (case z_sorted => k_is)
    (case z_str => k_is)
    (case z_tuple => k_is)
    (case z_zip => k_is)
