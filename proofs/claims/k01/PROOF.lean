import PyProof.Rows.All
import HandS.Small
import Wide.All
import OpenK.AllK
import Wide.FinOn
import HandS.ForMost
import HandS.ForExc
import HandS.IsInst
import HandS.Zip
import HandS.WideBits
import HandS.Wide
import HandS.Flow
import HandS.CallSlots
import HandS.TupAny
import HandS.Strs
import HandS.Conv
import HandS.More
import HandS.Deep
import HandS.Style
import HandS.Rev
import HandS.Ends
import PySem.Challenge.RW_leasttables_k01_entries
set_option Elab.async false
set_option linter.all false
set_option maxRecDepth 100000
namespace Lt
open PySem PySem.Spec PyProof.Rows L2
/-! ### plain values, plain heaps -/
inductive PV where
  | non | bl (b : Bool) | int (i : Int) | str (x : Str) | ty (n : String)
  | tup (xs : List PV) | ref (n : Nat)
inductive HB where
  | lst (xs : List PV)
  | dic (kvs : List (Key × PV))
  | ins (C : Str) (fs : List (Str × PV))
abbrev HS := List HB
structure PX where
  cls : Str
  fs : Option (List (Str × PV))
inductive R (α : Type) where
  | ok (a : α) (h : HS) | ex (e : PX) (h : HS) | no
def R.bind {α β : Type} (r : R α) (f : α → HS → R β) : R β := match r with
  | .ok a h => f a h
  | .ex e h => .ex e h
  | .no => .no
section
variable {α β : Type}
@[simp] theorem R.bind_ok (a : α) (h : HS) (f : α → HS → R β) : (R.ok a h).bind f = f a h := rfl
@[simp] theorem R.bind_ex (a : PX) (h : HS) (f : α → HS → R β) : (R.ex a h).bind f = .ex a h := rfl
@[simp] theorem R.bind_no (f : α → HS → R β) : (R.no).bind f = .no := rfl
@[simp] theorem R.bind_ite {c : Prop} [Decidable c] (a b : R α) (f : α → HS → R β) : (if c then a else b).bind f = if c then a.bind f else b.bind f := by split <;> rfl
/-- only what comes through -/
def R.thenO (r : R α) (f : α → HS → Option β) : Option β := match r with
  | .ok a h => f a h
  | _ => none
@[simp] theorem R.thenO_ok (a : α) (h : HS) (f : α → HS → Option β) : (R.ok a h).thenO f = f a h := rfl
@[simp] theorem R.thenO_ex (a : PX) (h : HS) (f : α → HS → Option β) : (R.ex a h).thenO f = none := rfl
@[simp] theorem R.thenO_no (f : α → HS → Option β) : (R.no).thenO f = none := rfl
@[simp] theorem R.thenO_ite {c : Prop} [Decidable c] (a b : R α) (f : α → HS → Option β) : (if c then a else b).thenO f = if c then a.thenO f else b.thenO f := by split <;> rfl
theorem R.thenO_some {r : R α} {f : α → HS → Option β} {z : β} (e : r.thenO f = some z) : ∃ a h, r = .ok a h ∧ f a h = some z := by
  cases r with
  | ok a h => exact ⟨a, h, rfl, e⟩
  | ex a h => cases e
  | no => cases e
end
abbrev Pn := List (Option PV)
/-! ### how they lie in the layer's heaps -/
mutual
inductive RV (m : List Addr) (H : Hp) : PV → V → Prop
  | non : RV m H .non .non
  | bl (b : Bool) : RV m H (.bl b) (.bl b)
  | int (i : Int) : RV m H (.int i) (.int i)
  | str (x : Str) : RV m H (.str x) (.str x)
  | ty (n : String) : RV m H (.ty n) (.ty n)
  | ref {n : Nat} {a : Addr} (h : m[n]? = some a) : RV m H (.ref n) (.ref a)
  | tup {xs : List PV} {ys : List V} {a : Addr} (h : H a = some (.tup ys)) (r : RVs m H xs ys) : RV m H (.tup xs) (.ref a)
inductive RVs (m : List Addr) (H : Hp) : List PV → List V → Prop
  | nil : RVs m H [] []
  | cons {x : PV} {v : V} {xs : List PV} {vs : List V} (r : RV m H x v) (t : RVs m H xs vs) : RVs m H (x :: xs) (v :: vs)
end
structure Le (m : List Addr) (H : Hp) (m' : List Addr) (H' : Hp) : Prop where
  pre : m <+: m'
  tup : ∀ a xs, H a = some (.tup xs) → H' a = some (.tup xs)
  junk : ∀ a u, a ∉ m → H a = some u → H' a = some u
  new : ∀ a, a ∈ m' → a ∈ m ∨ H a = none
theorem Le.refl {m : List Addr} {H : Hp} : Le m H m H := ⟨List.prefix_refl m, fun _ _ h => h, fun _ _ _ h => h, fun _ h => .inl h⟩
theorem Le.trans {m m1 m2 : List Addr} {H H1 H2 : Hp} (a : Le m H m1 H1) (b : Le m1 H1 m2 H2) : Le m H m2 H2 :=
  ⟨a.pre.trans b.pre, fun c xs h => b.tup c xs (a.tup c xs h), fun c u n h => b.junk c u (fun z => (a.new c z).elim n fun z => by rw [h] at z; cases z) (a.junk c u n h), fun c h => (b.new c h).elim (a.new c) fun z => by
    by_cases hc : c ∈ m
    · exact .inl hc
    · refine .inr ?_
      cases q : H c with
      | none => rfl
      | some u => rw [a.junk c u hc q] at z; cases z⟩
theorem Le.get {m m' : List Addr} {H H' : Hp} (l : Le m H m' H') {n : Nat} {a : Addr} (h : m[n]? = some a) : m'[n]? = some a := by
  obtain ⟨t, e⟩ := l.pre
  subst e
  rw [List.getElem?_append_left (List.getElem?_eq_some_iff.mp h).1]
  exact h
structure Lo (m : List Addr) (H : Hp) (m' : List Addr) (H' : Hp) : Prop where
  get : ∀ {n : Nat} {a : Addr}, m[n]? = some a → m'[n]? = some a
  tup : ∀ a xs, H a = some (.tup xs) → H' a = some (.tup xs)
theorem Le.lo {m m' : List Addr} {H H' : Hp} (l : Le m H m' H') : Lo m H m' H' := ⟨fun e => l.get e, l.tup⟩
mutual
theorem RV.lo {m m' : List Addr} {H H' : Hp} (l : Lo m H m' H') : ∀ {x : PV} {v : V}, RV m H x v → RV m' H' x v
  | _, _, .non => .non
  | _, _, .bl b => .bl b
  | _, _, .int b => .int b
  | _, _, .str b => .str b
  | _, _, .ty b => .ty b
  | _, _, .ref h => .ref (l.get h)
  | _, _, .tup h r => .tup (l.tup _ _ h) (RVs.lo l r)
theorem RVs.lo {m m' : List Addr} {H H' : Hp} (l : Lo m H m' H') : ∀ {xs : List PV} {vs : List V}, RVs m H xs vs → RVs m' H' xs vs
  | _, _, .nil => .nil
  | _, _, .cons r t => .cons (RV.lo l r) (RVs.lo l t)
end
theorem RV.le {m m' : List Addr} {H H' : Hp} (l : Le m H m' H') {x : PV} {v : V} (r : RV m H x v) : RV m' H' x v := r.lo l.lo
theorem RVs.le {m m' : List Addr} {H H' : Hp} (l : Le m H m' H') {x : List PV} {v : List V} (r : RVs m H x v) : RVs m' H' x v := r.lo l.lo
theorem RVs.length {m : List Addr} {H : Hp} : ∀ {xs : List PV} {vs : List V}, RVs m H xs vs → xs.length = vs.length
  | _, _, .nil => rfl
  | _, _, .cons r t => by rw [List.length_cons, List.length_cons, RVs.length t]
theorem RVs.get {m : List Addr} {H : Hp} : ∀ {xs : List PV} {vs : List V} {i : Nat} {x : PV}, RVs m H xs vs → xs[i]? = some x → ∃ v, vs[i]? = some v ∧ RV m H x v
  | _, _, _, _, .nil, e => by simp at e
  | _, _, 0, _, .cons r t, e => by simp at e; subst e; exact ⟨_, rfl, r⟩
  | _, _, i + 1, x, .cons r t, e => by
    obtain ⟨v, h1, h2⟩ := RVs.get (i := i) (x := x) t (by simpa using e)
    exact ⟨v, by simpa using h1, h2⟩
theorem RVs.app {m : List Addr} {H : Hp} : ∀ {xs ys : List PV} {vs ws : List V}, RVs m H xs vs → RVs m H ys ws → RVs m H (xs ++ ys) (vs ++ ws)
  | _, _, _, _, .nil, s => s
  | _, _, _, _, .cons r t, s => .cons r (RVs.app t s)
theorem RVs.set {m : List Addr} {H : Hp} {x : PV} {v : V} (q : RV m H x v) : ∀ {xs : List PV} {vs : List V} (i : Nat), RVs m H xs vs → RVs m H (xs.set i x) (vs.set i v)
  | _, _, _, .nil => .nil
  | _, _, 0, .cons r t => .cons q t
  | _, _, i + 1, .cons r t => .cons r (RVs.set q i t)
theorem RVs.take {m : List Addr} {H : Hp} : ∀ {xs : List PV} {vs : List V} (n : Nat), RVs m H xs vs → RVs m H (xs.take n) (vs.take n)
  | _, _, 0, _ => .nil
  | _, _, _ + 1, .nil => .nil
  | _, _, n + 1, .cons r t => .cons r (RVs.take n t)
theorem RVs.drop {m : List Addr} {H : Hp} : ∀ {xs : List PV} {vs : List V} (n : Nat), RVs m H xs vs → RVs m H (xs.drop n) (vs.drop n)
  | _, _, 0, r => r
  | _, _, n + 1, .nil => .nil
  | _, _, n + 1, .cons r t => RVs.drop n t
theorem RVs.rev {m : List Addr} {H : Hp} : ∀ {xs : List PV} {vs : List V}, RVs m H xs vs → RVs m H xs.reverse vs.reverse
  | _, _, .nil => .nil
  | _, _, .cons r t => by
    rw [List.reverse_cons, List.reverse_cons]
    exact RVs.app (RVs.rev t) (.cons r .nil)
theorem RVs.ints {m : List Addr} {H : Hp} : ∀ ns : List Int, RVs m H (ns.map PV.int) (ns.map V.int)
  | [] => .nil
  | n :: r => .cons (.int n) (RVs.ints r)
/-- the pairs of a dict, the fields of an instance -/
inductive RKs {κ : Type} (m : List Addr) (H : Hp) : List (κ × PV) → List (κ × V) → Prop
  | nil : RKs m H [] []
  | cons {k : κ} {x : PV} {v : V} {xs : List (κ × PV)} {vs : List (κ × V)} (r : RV m H x v) (t : RKs m H xs vs) : RKs m H ((k, x) :: xs) ((k, v) :: vs)
theorem RKs.lo {κ : Type} {m m' : List Addr} {H H' : Hp} (l : Lo m H m' H') {xs : List (κ × PV)} {vs : List (κ × V)} (h : RKs m H xs vs) : RKs m' H' xs vs := by
  induction h with
  | nil => exact .nil
  | cons r t ih => exact .cons (r.lo l) ih
theorem RKs.le {κ : Type} {m m' : List Addr} {H H' : Hp} (l : Le m H m' H') {xs : List (κ × PV)} {vs : List (κ × V)} (h : RKs m H xs vs) : RKs m' H' xs vs := h.lo l.lo
theorem RKs.length {κ : Type} {m : List Addr} {H : Hp} {xs : List (κ × PV)} {vs : List (κ × V)} (h : RKs m H xs vs) : xs.length = vs.length := by
  induction h with
  | nil => rfl
  | cons r t ih => rw [List.length_cons, List.length_cons, ih]
def RO (K : PySem.W.Frag) (mg : Str → Option Value) (m : List Addr) (H : Hp) (a : Addr) : HB → Prop
  | .lst xs => ∃ ys, H a = some (.lst ys) ∧ RVs m H xs ys
  | .dic kvs => ∃ vs, H a = some (.dK vs) ∧ RKs m H kvs vs
  | .ins C fs => ∃ Ca dx vs, mg C = some (.ref Ca) ∧ H a = some (.ins Ca dx vs) ∧ RKs m H fs vs
structure Sim (K : PySem.W.Frag) (mg : Str → Option Value) (m : List Addr) (h : HS) (H : Hp) : Prop where
  len : m.length = h.length
  obj : ∀ (n : Nat) (o : HB) (a : Addr), h[n]? = some o → m[n]? = some a → RO K mg m H a o
  inj : ∀ (i j : Nat) (a : Addr) (oi oj : HB), h[i]? = some oi → h[j]? = some oj → m[i]? = some a → m[j]? = some a → i = j
section
variable {K : PySem.W.Frag} {mg : Str → Option Value} {m m' : List Addr} {h : HS} {H H' : Hp} {a p : Addr} {o : HB}
theorem RO.lo (r : RO K mg m H a o) (l : Lo m H m' H') (k : ∀ u, H a = some u → H' a = some u) : RO K mg m' H' a o := by
  cases o with
  | lst xs => obtain ⟨ys, e, r⟩ := r; exact ⟨ys, k _ e, r.lo l⟩
  | dic kvs => obtain ⟨ys, e, r⟩ := r; exact ⟨ys, k _ e, r.lo l⟩
  | ins C fs => obtain ⟨Ca, dx, vs, g, e, r⟩ := r; exact ⟨Ca, dx, vs, g, k _ e, r.lo l⟩
theorem RO.le (r : RO K mg m H a o) (l : Le m H m' H') (k : ∀ u, H a = some u → H' a = some u) : RO K mg m' H' a o := r.lo l.lo k
theorem RO.some (r : RO K mg m H a o) : ∃ u, H a = Option.some u ∧ Mut (Option.some u) := by
  cases o with
  | lst xs => obtain ⟨ys, e, r⟩ := r; exact ⟨_, e, trivial⟩
  | dic kvs => obtain ⟨ys, e, r⟩ := r; exact ⟨_, e, trivial⟩
  | ins C fs => obtain ⟨Ca, dx, vs, g, e, r⟩ := r; exact ⟨_, e, trivial⟩
theorem Sim.get (s : Sim K mg m h H) {n : Nat} (e : h[n]? = Option.some o) : ∃ a, m[n]? = Option.some a ∧ RO K mg m H a o := by
  have hl : n < m.length := by rw [s.len]; exact (List.getElem?_eq_some_iff.mp e).1
  exact ⟨m[n], List.getElem?_eq_getElem hl, s.obj n o _ e (List.getElem?_eq_getElem hl)⟩
theorem le_new (hp : H p = none) (x : HO) : Le m H m (upd H p x) := ⟨List.prefix_refl m, fun c xs e => by rw [upd_ne (ne_of_none e hp)]; exact e, fun c xs _ e => by rw [upd_ne (ne_of_none e hp)]; exact e, fun _ h => .inl h⟩
theorem le_add (hp : H p = none) (x : HO) : Le m H (m ++ [p]) (upd H p x) := ⟨List.prefix_append m [p], fun c xs e => by rw [upd_ne (ne_of_none e hp)]; exact e, fun c xs _ e => by rw [upd_ne (ne_of_none e hp)]; exact e, fun c h => (List.mem_append.mp h).elim .inl fun z => .inr (by rw [List.mem_singleton.mp z]; exact hp)⟩
theorem RO.new (r : RO K mg m H a o) (hp : H p = none) (x : HO) (l : Le m H m' (upd H p x)) : RO K mg m' (upd H p x) a o :=
  r.le l fun u e => by rw [upd_ne (ne_of_none e hp)]; exact e
/-- what is laid and forgotten -/
theorem Sim.junk (s : Sim K mg m h H) (hp : H p = none) (x : HO) : Sim K mg m h (upd H p x) :=
  ⟨s.len, fun n o a e1 e2 => (s.obj n o a e1 e2).new hp x (le_new hp x), s.inj⟩
/-- a new object -/
theorem Sim.add (s : Sim K mg m h H) (hp : H p = none) (x : HO) (r : RO K mg (m ++ [p]) (upd H p x) p o) : Sim K mg (m ++ [p]) (h ++ [o]) (upd H p x) := by
  have hl := s.len
  have old : ∀ {i : Nat} {q : HB} {c : Addr}, (h ++ [o])[i]? = Option.some q → (m ++ [p])[i]? = Option.some c → (h[i]? = Option.some q ∧ m[i]? = Option.some c) ∨ (i = h.length ∧ q = o ∧ c = p) := fun {i q c} e1 e2 => by
    by_cases hi : i < h.length
    · rw [List.getElem?_append_left hi] at e1
      rw [List.getElem?_append_left (by omega)] at e2
      exact .inl ⟨e1, e2⟩
    · have h1 : i = h.length := by
        have := (List.getElem?_eq_some_iff.mp e1).1
        simp only [List.length_append, List.length_cons, List.length_nil] at this
        omega
      subst h1
      rw [List.getElem?_append_right (Nat.le_refl _), Nat.sub_self] at e1
      rw [List.getElem?_append_right (by omega), hl, Nat.sub_self] at e2
      exact .inr ⟨rfl, (Option.some.inj e1).symm, (Option.some.inj e2).symm⟩
  refine ⟨by simp [hl], fun i q c e1 e2 => ?_, fun i j c oi oj e1 e2 e3 e4 => ?_⟩
  · rcases old e1 e2 with ⟨h1, h2⟩ | ⟨rfl, rfl, rfl⟩
    · exact (s.obj i q c h1 h2).new hp x (le_add hp x)
    · exact r
  · rcases old e1 e3 with ⟨h1, h2⟩ | ⟨z1, _, z2⟩
    · rcases old e2 e4 with ⟨h3, h4⟩ | ⟨_, _, z4⟩
      · exact s.inj i j c oi oj h1 h3 h2 h4
      · obtain ⟨u, e, _⟩ := (s.obj i oi _ h1 h2).some
        rw [z4, hp] at e; cases e
    · rcases old e2 e4 with ⟨h3, h4⟩ | ⟨z3, _, z4⟩
      · obtain ⟨u, e, _⟩ := (s.obj j oj _ h3 h4).some
        rw [z2, hp] at e; cases e
      · rw [z1, z3]
theorem le_put {u x : HO} {n : Nat} (ea : m[n]? = Option.some a) (e : H a = Option.some u) (mu : Mut (Option.some u)) : Le m H m (upd H a x) := ⟨List.prefix_refl m, fun c xs e' => by
  rw [upd_ne fun z => ?_]
  · exact e'
  · subst z; rw [e] at e'; cases e'; exact mu, fun c v nc e' => by
  rw [upd_ne fun z => ?_]
  · exact e'
  · subst z; exact nc (List.mem_of_getElem? ea), fun _ h => .inl h⟩
/-- an object written -/
theorem Sim.put {q : HB} {n : Nat} {x : HO} (s : Sim K mg m h H) (e : h[n]? = Option.some o) (ea : m[n]? = Option.some a) (r : RO K mg m (upd H a x) a q) : Sim K mg m (h.set n q) (upd H a x) := by
  obtain ⟨u, eu, mu⟩ := (s.obj n o a e ea).some
  have hn : n < h.length := (List.getElem?_eq_some_iff.mp e).1
  have old : ∀ {i : Nat} {w : HB}, (h.set n q)[i]? = Option.some w → (i = n ∧ w = q) ∨ (i ≠ n ∧ h[i]? = Option.some w) := fun {i w} e1 => by
    by_cases hi : n = i
    · subst hi
      rw [List.getElem?_set_self hn] at e1
      exact .inl ⟨rfl, (Option.some.inj e1).symm⟩
    · rw [List.getElem?_set_ne hi] at e1
      exact .inr ⟨fun z => hi z.symm, e1⟩
  refine ⟨by simp [s.len], fun i w c e1 e2 => ?_, fun i j c oi oj e1 e2 e3 e4 => ?_⟩
  · rcases old e1 with ⟨rfl, rfl⟩ | ⟨ne, e1⟩
    · rw [ea] at e2; cases e2; exact r
    · refine (s.obj i w c e1 e2).le (le_put ea eu mu) fun v ev => ?_
      rw [upd_ne fun z => ?_]
      · exact ev
      · subst z
        exact ne (s.inj i n _ w o e1 e e2 ea)
  · rcases old e1 with ⟨z1, _⟩ | ⟨_, f1⟩
    · rcases old e2 with ⟨z2, _⟩ | ⟨_, f2⟩
      · rw [z1, z2]
      · rw [z1] at e3 ⊢
        exact s.inj n j c o oj e f2 e3 e4
    · rcases old e2 with ⟨z2, _⟩ | ⟨_, f2⟩
      · rw [z2] at e4 ⊢
        exact s.inj i n c oi o f1 e e3 e4
      · exact s.inj i j c oi oj f1 f2 e3 e4
end
end Lt
namespace Lt
open PySem PySem.Spec PyProof.Rows L2
abbrev St := L2.St
/-! ### slots -/
inductive RSl (m : List Addr) (H : Hp) : Option PV → Option V → Prop
  | any (v : Option V) : RSl m H none v
  | val {x : PV} {v : V} (r : RV m H x v) : RSl m H (some x) (some v)
inductive RS (m : List Addr) (H : Hp) : Pn → St → Prop
  | nil : RS m H [] []
  | cons {x : Option PV} {v : Option V} {xs : Pn} {vs : St} (r : RSl m H x v) (t : RS m H xs vs) : RS m H (x :: xs) (v :: vs)
theorem RSl.le {m m' : List Addr} {H H' : Hp} (l : Le m H m' H') {x : Option PV} {v : Option V} (r : RSl m H x v) : RSl m' H' x v := by
  cases r with
  | any v => exact .any v
  | val r => exact .val (r.le l)
theorem RS.le {m m' : List Addr} {H H' : Hp} (l : Le m H m' H') {xs : Pn} {vs : St} (h : RS m H xs vs) : RS m' H' xs vs := by
  induction h with
  | nil => exact .nil
  | cons r t ih => exact .cons (r.le l) ih
theorem RS.length {m : List Addr} {H : Hp} {xs : Pn} {vs : St} (h : RS m H xs vs) : xs.length = vs.length := by
  induction h with
  | nil => rfl
  | cons r t ih => rw [List.length_cons, List.length_cons, ih]
theorem RS.get {m : List Addr} {H : Hp} {xs : Pn} {vs : St} (h : RS m H xs vs) : ∀ {i : Nat} {x : PV}, xs[i]? = some (some x) → ∃ v, vs[i]? = some (some v) ∧ RV m H x v := by
  induction h with
  | nil => intro i x e; simp at e
  | cons r t ih =>
    intro i x e
    cases i with
    | zero =>
      simp at e
      subst e
      cases r with
      | val r => exact ⟨_, rfl, r⟩
    | succ i => exact ih (by simpa using e)
theorem RS.set {m : List Addr} {H : Hp} {xs : Pn} {vs : St} (h : RS m H xs vs) {x : Option PV} {v : Option V} (q : RSl m H x v) : ∀ (i : Nat), RS m H (xs.set i x) (vs.set i v) := by
  induction h with
  | nil => intro i; exact .nil
  | cons r t ih =>
    intro i
    cases i with
    | zero => exact .cons q t
    | succ i => exact .cons r (ih i)
@[simp] def wipeP (ρ : Pn) : List Nat → Pn
  | [] => ρ
  | v :: vs => (wipeP ρ vs).set v none
theorem RS.wipe {m : List Addr} {H : Hp} {xs : Pn} {vs : St} (h : RS m H xs vs) : ∀ is : List Nat, RS m H (wipeP xs is) (L2.wipe vs is)
  | [] => h
  | i :: is => (RS.wipe h is).set (.any none) i
theorem RS.start {m : List Addr} {H : Hp} (n : Nat) : ∀ {xs : List PV} {vs : List V}, RVs m H xs vs → RS m H (xs.map some ++ List.replicate n none) (vs.map some ++ List.replicate n none)
  | _, _, .nil => by
    show RS m H (List.replicate n none) (List.replicate n none)
    induction n with
    | zero => exact .nil
    | succ n ih => exact .cons (.any none) ih
  | _, _, .cons r t => .cons (.val r) (RS.start n t)
/-! ### outcomes -/
def RX (mg : Str → Option Value) (m : List Addr) (H : Hp) (e : PX) (cls : Value) (d : Option Addr) : Prop :=
  ∃ C, mg e.cls = some (.ref C) ∧ cls = .ref C ∧ match e.fs with
    | none => d = none
    | some fs => ∃ dd vs, d = some dd ∧ H dd = some (.xd vs) ∧ RKs m H fs vs
abbrev Rl (α β : Type) := List Addr → Hp → α → β → Prop
def Out (K : PySem.W.Frag) (mg : Str → Option Value) (W : WX) {α β : Type} (rel : Rl α β) (m : List Addr) (H : Hp) (σ : St) (Q : β → Hp → Prop) : R α → Prop
  | .ok a h' => ∀ m' H' b, Le m H m' H' → Sim K mg m' h' H' → rel m' H' a b → Q b H'
  | .ex e h' => ∀ m' H' cls d, Le m H m' H' → Sim K mg m' h' H' → RX mg m' H' e cls d → W cls d σ H'
  | .no => False
section
variable {K : PySem.W.Frag} {mg : Str → Option Value} {W : WX} {α β γ δ : Type} {rel : Rl α β} {rel2 : Rl γ δ} {m m1 : List Addr} {H H1 : Hp} {σ : St} {Q : β → Hp → Prop} {Q2 : δ → Hp → Prop} {r : R α}
theorem Out.mono {Q' : β → Hp → Prop} (o : Out K mg W rel m H σ Q r) (k : ∀ b H', Q b H' → Q' b H') : Out K mg W rel m H σ Q' r := by
  cases r with
  | ok a h' => exact fun m' H' b l s q => k b H' (o m' H' b l s q)
  | ex e h' => exact o
  | no => exact o
theorem Out.later (o : Out K mg W rel m H σ Q r) (l : Le m H m1 H1) : Out K mg W rel m1 H1 σ Q r := by
  cases r with
  | ok a h' => exact fun m' H' b l' s q => o m' H' b (l.trans l') s q
  | ex e h' => exact fun m' H' c d l' s q => o m' H' c d (l.trans l') s q
  | no => exact o
theorem Out.bind {f : α → HS → R γ} (o : Out K mg W rel2 m H σ Q2 (r.bind f)) :
    Out K mg W rel m H σ (fun b H1 => ∃ m1 h1 a, Le m H m1 H1 ∧ Sim K mg m1 h1 H1 ∧ rel m1 H1 a b ∧ Out K mg W rel2 m1 H1 σ Q2 (f a h1)) r := by
  cases r with
  | ok a h' =>
    have o' : Out K mg W rel2 m H σ Q2 (f a h') := o
    exact fun m' H' b l s q => ⟨m', h', a, l, s, q, o'.later l⟩
  | ex e h' => exact o
  | no => exact o
end
abbrev Mi (α : Type) := Pn → HS → R α
def tG (K : PySem.W.Frag) (mg : Str → Option Value) (W : WX) {α β : Type} (rel : Rl α β) (f : Mi α) : St → Hp → (β → Hp → Prop) → Prop :=
  fun σ H Q => ∃ m ρ h, Sim K mg m h H ∧ RS m H ρ σ ∧ Out K mg W rel m H σ Q (f ρ h)
def RB : Rl Bool Bool := fun _ _ a b => a = b
def RO1 : Rl (Option Int) (Option Int) := fun _ _ a b => a = b
abbrev PEm (X : Cx) (W : WX) (e : Expr) (f : Mi PV) : Prop := PE X e (tG X.K X.mg W RV f)
abbrev PTm (X : Cx) (W : WX) (e : Expr) (f : Mi Bool) : Prop := PT X e (tG X.K X.mg W RB f)
abbrev PWm (X : Cx) (W : WX) (e : Expr) (f : Mi Bool) : Prop := PW X e (tG X.K X.mg W RB f)
abbrev PAm (X : Cx) (W : WX) (es : List Expr) (f : Mi (List PV)) : Prop := PA X es (tG X.K X.mg W RVs f)
abbrev POm (X : Cx) (W : WX) (e : Option Expr) (f : Mi (Option Int)) : Prop := PO X e (tG X.K X.mg W RO1 f)
section
variable {X : Cx}
theorem wkE {e : Expr} {t t' : TE} (h : PE X e t) (k : ∀ σ H Q, t' σ H Q → t σ H Q) : PE X e t' := ⟨fun pins s σ H Q I q => h.run pins s σ H Q I (k σ H Q q)⟩
theorem wkT {e : Expr} {t t' : TT} (h : PT X e t) (k : ∀ σ H Q, t' σ H Q → t σ H Q) : PT X e t' := ⟨fun pins s σ H Q I q => h.run pins s σ H Q I (k σ H Q q)⟩
theorem wkW {e : Expr} {t t' : TT} (h : PW X e t) (k : ∀ σ H Q, t' σ H Q → t σ H Q) : PW X e t' := ⟨fun wh pins s σ H Q I q => h.run wh pins s σ H Q I (k σ H Q q)⟩
theorem wkA {e : List Expr} {t t' : TA} (h : PA X e t) (k : ∀ σ H Q, t' σ H Q → t σ H Q) : PA X e t' := ⟨fun pos pins s σ H Q I q => h.run pos pins s σ H Q I (k σ H Q q)⟩
theorem wkO {e : Option Expr} {t t' : TO} (h : PO X e t) (k : ∀ σ H Q, t' σ H Q → t σ H Q) : PO X e t' := ⟨fun pins s σ H Q I q => h.run pins s σ H Q I (k σ H Q q)⟩
theorem wkS {e : Stmt} {t t' : TS} (h : PS X e t) (k : ∀ D σ H, t' D σ H → t D σ H) : PS X e t' := ⟨fun pins s σ H D I q => h.run pins s σ H D I (k D σ H q)⟩
theorem wkSs {e : List Stmt} {t t' : TS} (h : PSs X e t) (k : ∀ D σ H, t' D σ H → t D σ H) : PSs X e t' := ⟨fun pins s σ H D I q => h.run pins s σ H D I (k D σ H q)⟩
theorem wkI {tg e : Expr} {t t' : TI} (h : PI X tg e t) (k : ∀ σ H Q, t' σ H Q → t σ H Q) : PI X tg e t' := ⟨fun pins s σ H Q I q => h.run pins s σ H Q I (k σ H Q q)⟩
theorem PE.or {e : Expr} {t t' : TE} (h : PE X e t) (h' : PE X e t') : PE X e (fun σ H Q => t σ H Q ∨ t' σ H Q) := ⟨fun pins s σ H Q I q => q.elim (h.run pins s σ H Q I) (h'.run pins s σ H Q I)⟩
theorem PI.or {tg e : Expr} {t t' : TI} (h : PI X tg e t) (h' : PI X tg e t') : PI X tg e (fun σ H Q => t σ H Q ∨ t' σ H Q) := ⟨fun pins s σ H Q I q => q.elim (h.run pins s σ H Q I) (h'.run pins s σ H Q I)⟩
theorem PS.or {e : Stmt} {t t' : TS} (h : PS X e t) (h' : PS X e t') : PS X e (fun D σ H => t D σ H ∨ t' D σ H) := ⟨fun pins s σ H Q I q => q.elim (h.run pins s σ H Q I) (h'.run pins s σ H Q I)⟩
end
/-! ### mirrors of expressions -/
@[simp] def mC (v : PV) (ρ : Pn) (h : HS) : R PV := .ok v h
@[simp] def mVar (i : Nat) (ρ : Pn) (h : HS) : R PV := match ρ[i]? with
  | some (some v) => .ok v h
  | _ => .no
def m1 {α β : Type} (f : α → HS → R β) (a : Mi α) (ρ : Pn) (h : HS) : R β := (a ρ h).bind f
def m2 {α β γ : Type} (f : α → β → HS → R γ) (a : Mi α) (b : Mi β) (ρ : Pn) (h : HS) : R γ := (a ρ h).bind fun x h1 => (b ρ h1).bind fun y h2 => f x y h2
def m3 {α β γ δ : Type} (f : α → β → γ → HS → R δ) (a : Mi α) (b : Mi β) (c : Mi γ) (ρ : Pn) (h : HS) : R δ := (a ρ h).bind fun x h1 => (b ρ h1).bind fun y h2 => (c ρ h2).bind fun z h3 => f x y z h3
def mIf {α : Type} (t : Mi Bool) (a b : Mi α) (ρ : Pn) (h : HS) : R α := (t ρ h).bind fun c h1 => if c = true then a ρ h1 else b ρ h1
@[simp] def truth (x : PV) (h : HS) : R Bool := match x with
  | .non => .ok false h
  | .bl b => .ok b h
  | .int i => .ok (i != 0) h
  | .str y => if y.length ≤ 16777216 then .ok ((y.length : Int) != 0) h else .no
  | .tup xs => .ok (!xs.isEmpty) h
  | .ref n => match h[n]? with
    | some (.lst xs) => .ok (!xs.isEmpty) h
    | some (.dic xs) => .ok (!xs.isEmpty) h
    | _ => .no
  | .ty _ => .no
def mAnd (a b : Mi Bool) (ρ : Pn) (h : HS) : R Bool := (a ρ h).bind fun c h1 => if c = true then b ρ h1 else .ok false h1
def mOr (a b : Mi Bool) (ρ : Pn) (h : HS) : R Bool := (a ρ h).bind fun c h1 => if c = true then .ok true h1 else b ρ h1
def mNot (a : Mi Bool) (ρ : Pn) (h : HS) : R Bool := (a ρ h).bind fun c h1 => .ok (!c) h1
def mAndV (a b : Mi PV) (ρ : Pn) (h : HS) : R PV := (a ρ h).bind fun x h1 => (truth x h1).bind fun c h2 => if c = true then b ρ h2 else .ok x h2
def mOrV (a b : Mi PV) (ρ : Pn) (h : HS) : R PV := (a ρ h).bind fun x h1 => (truth x h1).bind fun c h2 => if c = true then .ok x h2 else b ρ h2
def mNotV (a : Mi PV) (ρ : Pn) (h : HS) : R PV := (a ρ h).bind fun x h1 => (truth x h1).bind fun c h2 => .ok (.bl (!c)) h2
def mTru (a : Mi PV) (ρ : Pn) (h : HS) : R Bool := m1 truth a ρ h
def mVB (a : Mi Bool) (ρ : Pn) (h : HS) : R PV := m1 (fun b h => .ok (.bl b) h) a ρ h
@[simp] def mNil (_ρ : Pn) (h : HS) : R (List PV) := .ok [] h
def mCons (a : Mi PV) (b : Mi (List PV)) (ρ : Pn) (h : HS) : R (List PV) := m2 (fun x xs h => .ok (x :: xs) h) a b ρ h
section
variable {X : Cx} {W : WX}
theorem em_var {i : Nat} {x : Str} {pos : Pos} (hN : X.N[i]? = some x := by rfl) (hv : Vis X.env.scope x := by first | exact Or.inl rfl | exact Or.inr (Or.inl rfl) | exact Or.inr (Or.inr rfl)) (hd : (x == ("__debug__" : Str)) = false := by decide) (hcd : (x == ("__classdict__" : Str)) = false := by decide) : PEm X W (.Name x pos) (mVar i) :=
  wkE (pe_var hN hv hd hcd) fun σ H Q ⟨m, ρ, h, s, rs, o⟩ => by
    unfold mVar at o
    split at o
    · rename_i v e
      obtain ⟨w, e1, r1⟩ := rs.get e
      exact ⟨w, e1, o m H w .refl s r1⟩
    · exact o.elim
theorem em_c {e : Expr} {v : PV} {w : V} (he : PE X e (tC w)) (r : ∀ m H, RV m H v w) : PEm X W e (mC v) :=
  wkE he fun σ H Q ⟨m, ρ, h, s, rs, o⟩ => o m H w .refl s (r m H)
theorem em_int {i j pos} : PEm X W (.Constant (.int i) j pos) (mC (.int i)) := em_c pe_int fun _ _ => .int i
theorem em_bl {i j pos} : PEm X W (.Constant (.bool i) j pos) (mC (.bl i)) := em_c pe_bl fun _ _ => .bl i
theorem em_non {j pos} : PEm X W (.Constant .none j pos) (mC .non) := em_c pe_non fun _ _ => .non
theorem em_str {i j pos} : PEm X W (.Constant (.str i) j pos) (mC (.str i)) := em_c pe_str fun _ _ => .str i
theorem em_ty {n : String} {x : Str} {pos : Pos} (hm : X.mg x = none) (hv : bootBuiltins x = some (.type n)) (hg : Gl X x := by rfl) (hn : x ≠ "__name__" := by decide) (hd : (x == ("__debug__" : Str)) = false := by decide) : PEm X W (.Name x pos) (mC (.ty n)) :=
  em_c (w := .ty n) (pe_bltn hg hm hv rfl hn hd) fun _ _ => .ty n
def OpM (X : Cx) (W : WX) (g : Value → Value → Sem Value) (f : PV → PV → HS → R PV) : Prop :=
  ∃ r : R2, OpR X g r ∧ ∀ m h H σ Q x y v w, Sim X.K X.mg m h H → RV m H x v → RV m H y w → Out X.K X.mg W RV m H σ Q (f x y h) → r v w H Q
theorem em_op {op : Operator} {f : PV → PV → HS → R PV} {a b : Expr} {ma mb : Mi PV} {pos : Pos} (ho : OpM X W (binaryOp op) f) (ha : PEm X W a ma) (hb : PEm X W b mb) : PEm X W (.BinOp a op b pos) (m2 f ma mb) := by
  obtain ⟨r, h1, h2⟩ := ho
  exact wkE (pe_op h1 ha hb) fun σ H Q ⟨m, ρ, h, s, rs, o⟩ => ⟨m, ρ, h, s, rs, o.bind.mono fun x H1 ⟨m1, h1, a, l1, s1, r1, o1⟩ => ⟨m1, ρ, h1, s1, rs.le l1, o1.bind.mono fun y H2 ⟨m2, h2', b, l2, s2, r2, o2⟩ => h2 _ _ _ _ _ _ _ _ _ s2 (r1.le l2) r2 o2⟩⟩
theorem em_cmp {op : CmpOp} {f : PV → PV → HS → R PV} {a b : Expr} {ma mb : Mi PV} {pos : Pos} (ho : OpM X W (compareOp op) f) (ha : PEm X W a ma) (hb : PEm X W b mb) (hm : behindInMarks op b = false := by first | exact nomark _ | rfl) : PEm X W (.Compare a [op] [b] pos) (m2 f ma mb) := by
  obtain ⟨r, h1, h2⟩ := ho
  exact wkE (pe_cmpR h1 ha hb hm) fun σ H Q ⟨m, ρ, h, s, rs, o⟩ => ⟨m, ρ, h, s, rs, o.bind.mono fun x H1 ⟨m1, h1, a, l1, s1, r1, o1⟩ => ⟨m1, ρ, h1, s1, rs.le l1, o1.bind.mono fun y H2 ⟨m2, h2', b, l2, s2, r2, o2⟩ => h2 _ _ _ _ _ _ _ _ _ s2 (r1.le l2) r2 o2⟩⟩
@[simp] def asB (x : PV) (h : HS) : R Bool := match x with
  | .bl b => .ok b h
  | _ => .no
theorem asB_out {m : List Addr} {h : HS} {H : Hp} {σ : St} {x : PV} {Q : Bool → Hp → Prop} {v : V} (s : Sim X.K X.mg m h H) (r : RV m H x v) (o : Out X.K X.mg W RB m H σ Q (asB x h)) : ∃ k, v = .bl k ∧ Q k H := by
  cases r with
  | bl b => exact ⟨b, rfl, o m H b .refl s rfl⟩
  | _ => exact o.elim
theorem tm_cmp {op : CmpOp} {f : PV → PV → HS → R PV} {a b : Expr} {ma mb : Mi PV} {pos : Pos} (ho : OpM X W (compareOp op) f) (ha : PEm X W a ma) (hb : PEm X W b mb) (hm : behindInMarks op b = false := by first | exact nomark _ | rfl) : PTm X W (.Compare a [op] [b] pos) (m1 asB (m2 f ma mb)) := by
  obtain ⟨r, h1, h2⟩ := ho
  exact wkT (pt_cmpR h1 ha hb hm) fun σ H Q ⟨m, ρ, h, s, rs, o⟩ => ⟨m, ρ, h, s, rs, o.bind.bind.mono fun x H1 ⟨m1, h1, a, l1, s1, r1, o1⟩ => ⟨m1, ρ, h1, s1, rs.le l1, o1.bind.mono fun y H2 ⟨m2, h2', b, l2, s2, r2, o2⟩ => h2 _ _ _ _ _ _ _ _ _ s2 (r1.le l2) r2 (o2.mono fun z H3 ⟨m3, h3, c, l3, s3, r3, o3⟩ => asB_out s3 r3 o3)⟩⟩
end
end Lt
namespace Lt
open PySem PySem.Spec PyProof.Rows L2
section
variable {X : Cx} {W : WX}
theorem line16 : sizeLine = 16777216 := sizeLine_eq
/-! ### truth, and, or, not -/
theorem RVs.empty {m : List Addr} {H : Hp} {xs : List PV} {vs : List V} (h : RVs m H xs vs) : (!vs.isEmpty) = !xs.isEmpty := by
  cases h <;> rfl
theorem RKs.empty {κ : Type} {m : List Addr} {H : Hp} {xs : List (κ × PV)} {vs : List (κ × V)} (h : RKs m H xs vs) : (!vs.isEmpty) = !xs.isEmpty := by
  cases h <;> rfl
theorem truth_out {m : List Addr} {h : HS} {H : Hp} {σ : St} {x : PV} {Q : Bool → Hp → Prop} {v : V} (s : Sim X.K X.mg m h H) (r : RV m H x v) (o : Out X.K X.mg W RB m H σ Q (truth x h)) : ∃ k, TruV X.K v H k ∧ Q k H := by
  cases r with
  | non => exact ⟨false, rfl, o m H _ .refl s rfl⟩
  | bl b => exact ⟨b, rfl, o m H _ .refl s rfl⟩
  | int i => exact ⟨_, rfl, o m H _ .refl s rfl⟩
  | str y =>
    simp only [truth] at o
    split at o
    · rename_i hl
      exact ⟨_, ⟨by rw [line16]; exact hl, rfl⟩, o m H _ .refl s rfl⟩
    · exact o.elim
  | tup h1 r1 => exact ⟨_, .inr (.inl ⟨_, SqT.of h1, rfl⟩), o m H _ .refl s r1.empty.symm⟩
  | ty n => exact o.elim
  | ref e =>
    rename_i n a
    simp only [truth] at o
    split at o
    · rename_i xs e1
      obtain ⟨ys, h1, r1⟩ := s.obj _ _ _ e1 e
      exact ⟨_, .inl ⟨ys, SqL.of h1, rfl⟩, o m H _ .refl s r1.empty.symm⟩
    · rename_i xs e1
      obtain ⟨ys, h1, r1⟩ := s.obj _ _ _ e1 e
      exact ⟨_, .inr (.inr ⟨ys, h1, rfl⟩), o m H _ .refl s r1.empty.symm⟩
    · exact o.elim
variable {a b c : Expr} {ma mb mc : Mi PV} {ta tb : Mi Bool} {rest : List Expr} {pos : Pos}
theorem tm_tru (ha : PEm X W a ma) (he : ∀ whole, isTrue a X.env whole = (do let v ← whole; standAt a.pos; holding [v] (truthy v)) := by intro _; rfl) : PTm X W a (mTru ma) :=
  wkT (pt_truth ha he) fun σ H Q ⟨m, ρ, h, s, rs, o⟩ => ⟨m, ρ, h, s, rs, o.bind.mono fun x H1 ⟨m1, h1, av, l1, s1, r1, o1⟩ => truth_out s1 r1 o1⟩
theorem wm_and1 (ha : PTm X W a ta) : PWm X W (.BoolOp .And [a] pos) ta := pw_and1 ha
theorem wm_or1 (ha : PTm X W a ta) : PWm X W (.BoolOp .Or [a] pos) ta := pw_or1 ha
theorem wm_and (ha : PTm X W a ta) (hb : PWm X W (.BoolOp .And (b :: rest) pos) tb) : PWm X W (.BoolOp .And (a :: b :: rest) pos) (mAnd ta tb) :=
  wkW (pw_and ha hb) fun σ H Q ⟨m, ρ, h, s, rs, o⟩ => ⟨m, ρ, h, s, rs, o.bind.mono fun c H1 ⟨m1, h1, av, l1, s1, r1, o1⟩ => by
    cases r1
    cases c with
    | true => exact ⟨m1, ρ, h1, s1, rs.le l1, o1⟩
    | false => exact o1 m1 H1 _ .refl s1 rfl⟩
theorem wm_or (ha : PTm X W a ta) (hb : PWm X W (.BoolOp .Or (b :: rest) pos) tb) : PWm X W (.BoolOp .Or (a :: b :: rest) pos) (mOr ta tb) :=
  wkW (pw_or ha hb) fun σ H Q ⟨m, ρ, h, s, rs, o⟩ => ⟨m, ρ, h, s, rs, o.bind.mono fun c H1 ⟨m1, h1, av, l1, s1, r1, o1⟩ => by
    cases r1
    cases c with
    | true => exact o1 m1 H1 _ .refl s1 rfl
    | false => exact ⟨m1, ρ, h1, s1, rs.le l1, o1⟩⟩
theorem tm_w (ha : PWm X W a ta) : PTm X W a ta := PW.pt ha
theorem tm_not (ha : PTm X W a ta) : PTm X W (.UnaryOp .Not a pos) (mNot ta) :=
  wkT (pt_not ha) fun σ H Q ⟨m, ρ, h, s, rs, o⟩ => ⟨m, ρ, h, s, rs, o.bind.mono fun c H1 ⟨m1, h1, av, l1, s1, r1, o1⟩ => by
    cases r1
    exact o1 m1 H1 _ .refl s1 rfl⟩
theorem em_one {op} (ha : PEm X W a ma) : PEm X W (.BoolOp op [a] pos) ma := pe_one ha
theorem em_and (ha : PEm X W a ma) (hb : PEm X W (.BoolOp .And (b :: rest) pos) mb) : PEm X W (.BoolOp .And (a :: b :: rest) pos) (mAndV ma mb) :=
  wkE (pe_andT ha hb) fun σ H Q ⟨m, ρ, h, s, rs, o⟩ => ⟨m, ρ, h, s, rs, o.bind.mono fun x H1 ⟨m1, h1, av, l1, s1, r1, o1⟩ => by
    obtain ⟨k, tk, q⟩ := truth_out s1 r1 o1.bind
    obtain ⟨m2, h2, c, l2, s2, r2, o2⟩ := q
    cases r2
    refine ⟨k, tk, ?_⟩
    cases k with
    | true => exact ⟨m2, ρ, h2, s2, (rs.le l1).le l2, o2⟩
    | false => exact o2 m2 H1 _ .refl s2 (r1.le l2)⟩
theorem em_or (ha : PEm X W a ma) (hb : PEm X W (.BoolOp .Or (b :: rest) pos) mb) : PEm X W (.BoolOp .Or (a :: b :: rest) pos) (mOrV ma mb) :=
  wkE (pe_orT ha hb) fun σ H Q ⟨m, ρ, h, s, rs, o⟩ => ⟨m, ρ, h, s, rs, o.bind.mono fun x H1 ⟨m1, h1, av, l1, s1, r1, o1⟩ => by
    obtain ⟨k, tk, q⟩ := truth_out s1 r1 o1.bind
    obtain ⟨m2, h2, c, l2, s2, r2, o2⟩ := q
    cases r2
    refine ⟨k, tk, ?_⟩
    cases k with
    | true => exact o2 m2 H1 _ .refl s2 (r1.le l2)
    | false => exact ⟨m2, ρ, h2, s2, (rs.le l1).le l2, o2⟩⟩
theorem em_not (ha : PEm X W a ma) : PEm X W (.UnaryOp .Not a pos) (mNotV ma) :=
  wkE (pe_notT ha) fun σ H Q ⟨m, ρ, h, s, rs, o⟩ => ⟨m, ρ, h, s, rs, o.bind.mono fun x H1 ⟨m1, h1, av, l1, s1, r1, o1⟩ => by
    obtain ⟨k, tk, q⟩ := truth_out s1 r1 o1.bind
    obtain ⟨m2, h2, c, l2, s2, r2, o2⟩ := q
    cases r2
    exact ⟨k, tk, o2 m2 H1 _ .refl s2 (.bl _)⟩⟩
theorem em_if (hc : PTm X W c tb) (ha : PEm X W a ma) (hb : PEm X W b mb) : PEm X W (.IfExp c a b pos) (mIf tb ma mb) :=
  wkE (pe_ifExp hc ha hb) fun σ H Q ⟨m, ρ, h, s, rs, o⟩ => ⟨m, ρ, h, s, rs, o.bind.mono fun c H1 ⟨m1, h1, av, l1, s1, r1, o1⟩ => by
    cases r1
    cases c with
    | true => exact ⟨m1, ρ, h1, s1, rs.le l1, o1⟩
    | false => exact ⟨m1, ρ, h1, s1, rs.le l1, o1⟩⟩
/-- a < b < c -/
theorem out_ok_bl {m : List Addr} {h : HS} {H : Hp} {σ : St} {k : Bool} {Q : VK} (s : Sim X.K X.mg m h H) (o : Out X.K X.mg W RV m H σ Q (.ok (.bl k) h)) : Q (.bl k) H := o m H _ .refl s (.bl k)
def mChain (f g : PV → PV → HS → R PV) (ma mb mc : Mi PV) (ρ : Pn) (h : HS) : R PV := (ma ρ h).bind fun x h1 => (mb ρ h1).bind fun y h2 => (f x y h2).bind fun z h3 => (asB z h3).bind fun k h4 =>
  if k = true then (mc ρ h4).bind fun w h5 => g y w h5 else .ok (.bl false) h4
theorem chain_out {f g : PV → PV → HS → R PV} {op op' : CmpOp} (ho : OpM X W (compareOp op) f) (ho' : OpM X W (compareOp op') g) : ∃ r r' : R2, OpR X (compareOp op) r ∧ OpR X (compareOp op') r' ∧
    ∀ σ H Q, tG X.K X.mg W RV (mChain f g ma mb mc) σ H Q → tChain r r' (tG X.K X.mg W RV ma) (tG X.K X.mg W RV mb) (tG X.K X.mg W RV mc) σ H Q := by
  obtain ⟨r, h1, h2⟩ := ho
  obtain ⟨r', h1', h2'⟩ := ho'
  refine ⟨r, r', h1, h1', fun σ H Q ⟨m, ρ, h, s, rs, o⟩ => ⟨m, ρ, h, s, rs, o.bind.mono fun x H1 ⟨m1, h1, av, l1, s1, r1, o1⟩ => ⟨m1, ρ, h1, s1, rs.le l1, o1.bind.mono fun y H2 ⟨m2, hh2, bv, l2, s2, r2, o2⟩ => ?_⟩⟩⟩
  refine h2 _ _ _ σ _ _ _ _ _ s2 (r1.le l2) r2 (o2.bind.mono fun z H3 ⟨m3, h3, zv, l3, s3, r3, o3⟩ => ?_)
  obtain ⟨k, e, m4, h4, kv, l4, s4, r4, o4⟩ := asB_out s3 r3 o3.bind
  cases r4
  refine ⟨k, e, ?_⟩
  cases k with
  | false => exact out_ok_bl s4 o4
  | true => exact ⟨m4, ρ, h4, s4, (((rs.le l1).le l2).le l3).le l4, o4.bind.mono fun w H5 ⟨m5, h5, wv, l5, s5, r5, o5⟩ => h2' _ _ _ σ _ _ _ _ _ s5 (((r2.le l3).le l4).le l5) r5 o5⟩
theorem em_chain {f g : PV → PV → HS → R PV} {op op' : CmpOp} (ho : OpM X W (compareOp op) f) (ho' : OpM X W (compareOp op') g) (ha : PEm X W a ma) (hb : PEm X W b mb) (hc : PEm X W c mc)
    (hm : lastMarks [op, op'] [b, c] = false := by with_unfolding_all rfl) : PEm X W (.Compare a [op, op'] [b, c] pos) (mChain f g ma mb mc) := by
  obtain ⟨r, r', h1, h2, k⟩ := chain_out (ma := ma) (mb := mb) (mc := mc) ho ho'
  exact wkE (pe_chain h1 h2 ha hb hc hm) k
theorem tm_chain {f g : PV → PV → HS → R PV} {op op' : CmpOp} (ho : OpM X W (compareOp op) f) (ho' : OpM X W (compareOp op') g) (ha : PEm X W a ma) (hb : PEm X W b mb) (hc : PEm X W c mc)
    (hm : lastMarks [op, op'] [b, c] = false := by with_unfolding_all rfl) : PTm X W (.Compare a [op, op'] [b, c] pos) (m1 asB (mChain f g ma mb mc)) := by
  obtain ⟨r, r', h1, h2, k⟩ := chain_out (ma := ma) (mb := mb) (mc := mc) ho ho'
  refine wkT (pt_chain h1 h2 ha hb hc hm) fun σ H Q ⟨m, ρ, h, s, rs, o⟩ => k σ H _ ⟨m, ρ, h, s, rs, o.bind.mono fun z H3 ⟨m3, h3, c, l3, s3, r3, o3⟩ => asB_out s3 r3 o3⟩
/-! ### argument lists, displays -/
variable {e : Expr} {es : List Expr} {me : Mi PV} {mes : Mi (List PV)}
theorem am_nil : PAm X W [] mNil := wkA pa_nil fun σ H Q ⟨m, ρ, h, s, rs, o⟩ => o m H _ .refl s .nil
theorem am_cons (he : PEm X W e me) (hes : PAm X W es mes) (hs : starEach (e :: es) X.env = (false, eval e X.env) :: starEach es X.env := by rfl) : PAm X W (e :: es) (mCons me mes) :=
  wkA (pa_cons he hes hs) fun σ H Q ⟨m, ρ, h, s, rs, o⟩ => ⟨m, ρ, h, s, rs, o.bind.mono fun x H1 ⟨m1, h1, av, l1, s1, r1, o1⟩ => ⟨m1, ρ, h1, s1, rs.le l1, o1.bind.mono fun xs H2 ⟨m2, h2, bv, l2, s2, r2, o2⟩ => o2 m2 H2 _ .refl s2 (.cons (r1.le l2) r2)⟩⟩
@[simp] def dTup (xs : List PV) (h : HS) : R PV := if xs.length ≤ 16777216 then .ok (.tup xs) h else .no
@[simp] def dLst (xs : List PV) (h : HS) : R PV := if xs.length ≤ 16777216 then .ok (.ref h.length) (h ++ [.lst xs]) else .no
theorem new_tup {m : List Addr} {h : HS} {H : Hp} {σ : St} {Q : VK} {xs : List PV} {vs : List V} {p : Addr} (s : Sim X.K X.mg m h H) (r : RVs m H xs vs) (hp : H p = none) (o : Out X.K X.mg W RV m H σ Q (.ok (.tup xs) h)) : Q (.ref p) (upd H p (.tup vs)) :=
  o m _ _ (le_new hp _) (s.junk hp _) (.tup upd_same (r.le (le_new hp _)))
theorem get_new {m : List Addr} {h : HS} {H : Hp} {K : PySem.W.Frag} {mg : Str → Option Value} (s : Sim K mg m h H) (p : Addr) : (m ++ [p])[h.length]? = some p := by
  rw [← s.len, List.getElem?_append_right (Nat.le_refl _), Nat.sub_self]
  rfl
theorem new_lst {m : List Addr} {h : HS} {H : Hp} {σ : St} {Q : VK} {xs : List PV} {vs : List V} {p : Addr} (s : Sim X.K X.mg m h H) (r : RVs m H xs vs) (hp : H p = none) (o : Out X.K X.mg W RV m H σ Q (.ok (.ref h.length) (h ++ [.lst xs]))) : Q (.ref p) (upd H p (.lst vs)) :=
  o (m ++ [p]) _ _ (le_add hp _) (s.add hp _ ⟨vs, upd_same, r.le (le_add hp _)⟩) (.ref (get_new s p))
theorem em_tup {x1} (ha : PAm X W es mes) : PEm X W (.Tuple es x1 pos) (m1 dTup mes) :=
  wkE (pe_tup ha) fun σ H Q ⟨m, ρ, h, s, rs, o⟩ => ⟨m, ρ, h, s, rs, o.bind.mono fun xs H1 ⟨m1, h1, av, l1, s1, r1, o1⟩ => by
    unfold dTup at o1
    split at o1
    · rename_i hl
      exact ⟨by rw [← r1.length, line16]; exact hl, fun p hp => new_tup s1 r1 hp o1⟩
    · exact o1.elim⟩
theorem em_lst (ha : PAm X W es mes) : PEm X W (.List es pos) (m1 dLst mes) :=
  wkE (pe_lst ha) fun σ H Q ⟨m, ρ, h, s, rs, o⟩ => ⟨m, ρ, h, s, rs, o.bind.mono fun xs H1 ⟨m1, h1, av, l1, s1, r1, o1⟩ => by
    unfold dLst at o1
    split at o1
    · rename_i hl
      exact ⟨by rw [← r1.length, line16]; exact hl, fun p hp => new_lst s1 r1 hp o1⟩
    · exact o1.elim⟩
/-! ### calls of the text's own defs -/
def spM (K : PySem.W.Frag) (mg : Str → Option Value) (f : List PV → HS → R PV) : Sp := fun vs H Q E => ∃ m xs h, Sim K mg m h H ∧ RVs m H xs vs ∧ Out K mg (fun cls d _ H' => E cls d H') RV m H [] Q (f xs h)
structure FnAt (P : Program) (w : World) (K : PySem.W.Frag) (mg : Str → Option Value) (base : Heap) (k : Nat) (name : Str) (f : List PV → HS → R PV) : Prop where
  ex : ∃ a fd ps, mg name = some (.ref a) ∧ PySem.W.keepIn K (.ref a) = true ∧ Binds K fd ps [] ∧ FnOk P w K mg base (L2.CX P w) k a fd ps (spM K mg f)
theorem FnAt.mono {P : Program} {w : World} {K : PySem.W.Frag} {mg : Str → Option Value} {base : Heap} {j k : Nat} {name : Str} {f : List PV → HS → R PV} (F : FnAt P w K mg base j name f) (h : j ≤ k) : FnAt P w K mg base k name f := by
  obtain ⟨a, fd, ps, h1, h2, h3, h4⟩ := F.ex
  exact ⟨a, fd, ps, h1, h2, h3, h4.mono h⟩
theorem Out.toE {K : PySem.W.Frag} {mg : Str → Option Value} {W : WX} {α β : Type} {rel : Rl α β} {m : List Addr} {H : Hp} {σ : St} {Q : β → Hp → Prop} {r : R α} (o : Out K mg W rel m H σ Q r) : Out K mg (fun cls d _ H' => WE W σ cls d H') rel m H [] Q r := by
  cases r with
  | ok a h => exact o
  | ex e h => exact o
  | no => exact o
theorem em_call {k : Nat} {x : Str} {p : Pos} {f : List PV → HS → R PV} (tk : Takes X W) (hr : Room k X.A) (F : FnAt X.prog X.w X.K X.mg X.base k x f) (ha : PAm X W (e :: es) mes) (hg : Gl X x := by rfl)
    (hdb : (x == ("__debug__" : Str)) = false := by decide) (he : starEach (e :: es) X.env = (false, eval e X.env) :: starEach es X.env := by rfl) (hpl : (backTo pos (starEach es X.env)).any (·.1) = false := by rfl) : PEm X W (.Call (.Name x p) (e :: es) [] pos) (m1 f mes) := by
  obtain ⟨a, fd, ps, h1, h2, h3, h4⟩ := F.ex
  exact wkE (pe_callS h4 hr hg h1 h2 h3 (passAt tk) ha hdb he hpl) fun σ H Q ⟨m, ρ, h, s, rs, o⟩ => ⟨m, ρ, h, s, rs, o.bind.mono fun xs H1 ⟨m1, h1, av, l1, s1, r1, o1⟩ => ⟨m1, av, h1, s1, r1, o1.toE⟩⟩
theorem em_call0 {k : Nat} {x : Str} {p : Pos} {f : List PV → HS → R PV} (tk : Takes X W) (hr : Room k X.A) (F : FnAt X.prog X.w X.K X.mg X.base k x f) (hg : Gl X x := by rfl)
    (hdb : (x == ("__debug__" : Str)) = false := by decide) : PEm X W (.Call (.Name x p) [] [] pos) (m1 f mNil) := by
  obtain ⟨a, fd, ps, h1, h2, h3, h4⟩ := F.ex
  refine ⟨fun pins s σ H Q I ⟨m, ρ, h, sm, rs, o⟩ => ?_⟩
  refine wpAny_Call_Name_kw (ld_glob I hg h1 ?_ hdb)
  exact PySem.W.callWith_K0 I.kIn h2 (run_fnS (us := []) h4 hr h3 (passAt tk σ) I .nil ⟨m, [], h, sm, .nil, o.toE⟩)
/-! ### built-in functions, operators on values -/
def CallM (X : Cx) (W : WX) (g : Value) (f : List PV → HS → R PV) : Prop :=
  ∃ r, CallR X g r ∧ ∀ m h H σ Q xs vs, Sim X.K X.mg m h H → RVs m H xs vs → Out X.K X.mg W RV m H σ Q (f xs h) → r vs H Q
theorem em_callB {x : Str} {p : Pos} {id : String} {f : List PV → HS → R PV} (hc : CallM X W (.builtin id) f) (hm : X.mg x = none) (hv : bootBuiltins x = some (.builtin id)) (ha : PAm X W (e :: es) mes) (hg : Gl X x := by rfl) (hn : x ≠ "__name__" := by decide) (hdb : (x == ("__debug__" : Str)) = false := by decide)
    (he : starEach (e :: es) X.env = (false, eval e X.env) :: starEach es X.env := by rfl) (hpl : (backTo pos (starEach es X.env)).any (·.1) = false := by rfl) : PEm X W (.Call (.Name x p) (e :: es) [] pos) (m1 f mes) := by
  obtain ⟨r, h1, h2⟩ := hc
  exact wkE (pe_callB h1 hg hm hv ha hn hdb he hpl) fun σ H Q ⟨m, ρ, h, s, rs, o⟩ => ⟨m, ρ, h, s, rs, o.bind.mono fun xs H1 ⟨m1, h1, av, l1, s1, r1, o1⟩ => h2 _ _ _ _ _ _ _ s1 r1 o1⟩
theorem em_callTy {x : Str} {p : Pos} {id : String} {f : List PV → HS → R PV} (hc : CallM X W (.type id) f) (hm : X.mg x = none) (hv : bootBuiltins x = some (.type id)) (ha : PAm X W (e :: es) mes) (hg : Gl X x := by rfl) (hn : x ≠ "__name__" := by decide) (hdb : (x == ("__debug__" : Str)) = false := by decide)
    (he : starEach (e :: es) X.env = (false, eval e X.env) :: starEach es X.env := by rfl) (hpl : (backTo pos (starEach es X.env)).any (·.1) = false := by rfl) : PEm X W (.Call (.Name x p) (e :: es) [] pos) (m1 f mes) := by
  obtain ⟨r, h1, h2⟩ := hc
  exact wkE (pe_callTy h1 hg hm hv ha hn hdb he hpl) fun σ H Q ⟨m, ρ, h, s, rs, o⟩ => ⟨m, ρ, h, s, rs, o.bind.mono fun xs H1 ⟨m1, h1, av, l1, s1, r1, o1⟩ => h2 _ _ _ _ _ _ _ s1 r1 o1⟩
end
end Lt
namespace Lt
open PySem PySem.Spec PyProof.Rows L2
/-! ### values as data -/
def datL (f : PV → Option PyData) : List PV → Option (List PyData)
  | [] => some []
  | x :: xs => match f x, datL f xs with
    | some d, some ds => some (d :: ds)
    | _, _ => none
def dat : Nat → HS → PV → Option PyData
  | _, _, .non => some .none
  | _, _, .bl b => some (.bool b)
  | _, _, .int i => some (.int i)
  | _, _, .str x => some (.str x)
  | _, _, .ty _ => none
  | 0, _, .tup _ => none
  | 0, _, .ref _ => none
  | n + 1, h, .tup xs => (datL (dat n h) xs).map .tuple
  | n + 1, h, .ref p => match h[p]? with
    | some (.lst xs) => (datL (dat n h) xs).map .list
    | _ => none
section
variable {K : PySem.W.Frag} {mg : Str → Option Value} {m : List Addr} {h : HS} {H : Hp}
theorem datL_dp {f : PV → Option PyData} (hf : ∀ x v d, RV m H x v → f x = some d → Dp K H v d) : ∀ {xs : List PV} {vs : List V} {ds : List PyData}, RVs m H xs vs → datL f xs = some ds → DpAll K H vs ds
  | _, _, _, .nil, e => by
    cases e
    exact .nil
  | _, _, ds, .cons (x := x) (xs := xs) r t, e => by
    unfold datL at e
    split at e
    · rename_i d ds' e1 e2
      cases e
      exact .cons (hf _ _ _ r e1) (datL_dp hf t e2)
    · cases e
theorem dat_dp (s : Sim K mg m h H) : ∀ (n : Nat) (x : PV) (v : V) (d : PyData), RV m H x v → dat n h x = some d → Dp K H v d := by
  intro n
  induction n with
  | zero =>
    intro x v d r e
    cases r <;> (first | (simp only [dat] at e; cases e; constructor) | (simp only [dat] at e; cases e))
  | succ n ih =>
    intro x v d r e
    cases r with
    | tup h1 r1 =>
      simp only [dat, Option.map_eq_some_iff] at e
      obtain ⟨ds, e1, rfl⟩ := e
      exact .tup (SqT.of h1) (datL_dp ih r1 e1)
    | ref h1 =>
      simp only [dat] at e
      split at e
      · rename_i xs e0
        simp only [Option.map_eq_some_iff] at e
        obtain ⟨ds, e1, rfl⟩ := e
        obtain ⟨ys, h2, r2⟩ := s.obj _ _ _ e0 h1
        exact .lst (SqL.of h2) (datL_dp ih r2 e1)
      · cases e
    | non => simp only [dat] at e; cases e; exact .non
    | bl b => simp only [dat] at e; cases e; exact .bl b
    | int b => simp only [dat] at e; cases e; exact .int b
    | str b => simp only [dat] at e; cases e; exact .str b
    | ty b => simp only [dat] at e; cases e
end
/-! ### operators -/
@[simp] def addV : PV → PV → HS → R PV
  | .int i, .int j, h => .ok (.int (i + j)) h
  | .str a, .str b, h => if a.length + b.length ≤ 16777216 then .ok (.str (a ++ b)) h else .no
  | .tup xs, .tup ys, h => if xs.length + ys.length ≤ 16777216 then .ok (.tup (xs ++ ys)) h else .no
  | .ref p, .ref q, h => match h[p]?, h[q]? with
    | some (.lst xs), some (.lst ys) => if xs.length + ys.length ≤ 16777216 then .ok (.ref h.length) (h ++ [.lst (xs ++ ys)]) else .no
    | _, _ => .no
  | _, _, _ => .no
@[simp] def subV : PV → PV → HS → R PV
  | .int i, .int j, h => .ok (.int (i - j)) h
  | _, _, _ => .no
/-- so small that it may be multiplied -/
def small (i : Int) : Prop := Builtin.Int.intBits i ≤ 60000
instance (i : Int) : Decidable (small i) := by
  unfold small
  infer_instance
theorem small_of {i : Int} {k : Nat} (h : i.natAbs < 2 ^ k) (hk : k ≤ 60000) : small i := Nat.le_trans (PyProof.Rows.intBits_le h) hk
theorem small_abs {i : Int} : small i ↔ i.natAbs < 2 ^ 60000 := PySem.intBits_le_iff
@[simp] def mulV : PV → PV → HS → R PV
  | .int i, .int j, h => if small i ∧ small j then .ok (.int (i * j)) h else .no
  | .ref p, .int k, h => match h[p]? with
    | some (.lst xs) => if 0 ≤ k ∧ k ≤ 16777216 ∧ xs.length * k.toNat ≤ 16777216 then .ok (.ref h.length) (h ++ [.lst (List.replicate k.toNat xs).flatten]) else .no
    | _ => .no
  | _, _, _ => .no
@[simp] def modV : PV → PV → HS → R PV
  | .int i, .int j, h => if 0 < j then .ok (.int (i % j)) h else .no
  | _, _, _ => .no
@[simp] def fdivV : PV → PV → HS → R PV
  | .int i, .int j, h => if 0 < j ∧ j < 2 ^ 200 then .ok (.int (i / j)) h else .no
  | _, _, _ => .no
@[simp] def powV : PV → PV → HS → R PV
  | .int i, .int j, h => if 0 ≤ j ∧ j ≤ 1000 ∧ i.natAbs < 2 ^ 250 then .ok (.int (i ^ j.toNat)) h else .no
  | _, _, _ => .no
@[simp] def cmpI (f : Int → Int → Bool) : PV → PV → HS → R PV
  | .int i, .int j, h => .ok (.bl (f i j)) h
  | _, _, _ => .no
abbrev ltV := cmpI fun i j => decide (i < j)
abbrev leV := cmpI fun i j => decide (i ≤ j)
abbrev gtV := cmpI fun i j => decide (j < i)
abbrev geV := cmpI fun i j => decide (j ≤ i)
def eqB (x y : PV) (h : HS) : Option Bool := match dat 8 h x, dat 8 h y with
  | some d, some e => if SeqAt.shaped d = true ∧ SeqAt.shaped e = true then some (PyData.eqv d e) else none
  | _, _ => none
def eqV (x y : PV) (h : HS) : R PV := match eqB x y h with
  | some b => .ok (.bl b) h
  | none => .no
def neV (x y : PV) (h : HS) : R PV := match eqB x y h with
  | some b => .ok (.bl (!b)) h
  | none => .no
@[simp] def isNon : PV → Bool
  | .non => true
  | _ => false
@[simp] def isV : PV → PV → HS → R PV
  | x, .non, h => .ok (.bl (isNon x)) h
  | .ref p, .ref q, h => match h[p]?, h[q]? with
    | some (.lst _), some (.lst _) => .ok (.bl (decide (p = q))) h
    | _, _ => .no
  | _, _, _ => .no
@[simp] def isnotV : PV → PV → HS → R PV
  | x, .non, h => .ok (.bl (!isNon x)) h
  | .ref p, .ref q, h => match h[p]?, h[q]? with
    | some (.lst _), some (.lst _) => .ok (.bl (!decide (p = q))) h
    | _, _ => .no
  | _, _, _ => .no
section
variable {X : Cx} {W : WX}
theorem RV.isNon {m : List Addr} {H : Hp} {x : PV} {v : V} (r : RV m H x v) : decide (v = .non) = isNon x := by
  cases r <;> rfl
theorem o_bl {m : List Addr} {h : HS} {H : Hp} {σ : St} {k : Bool} {Q : VK} (s : Sim X.K X.mg m h H) (o : Out X.K X.mg W RV m H σ Q (.ok (.bl k) h)) : Q (.bl k) H := o m H _ .refl s (.bl k)
theorem o_int {m : List Addr} {h : HS} {H : Hp} {σ : St} {k : Int} {Q : VK} (s : Sim X.K X.mg m h H) (o : Out X.K X.mg W RV m H σ Q (.ok (.int k) h)) : Q (.int k) H := o m H _ .refl s (.int k)
theorem o_str {m : List Addr} {h : HS} {H : Hp} {σ : St} {k : Str} {Q : VK} (s : Sim X.K X.mg m h H) (o : Out X.K X.mg W RV m H σ Q (.ok (.str k) h)) : Q (.str k) H := o m H _ .refl s (.str k)
theorem RVs.nil_iff {m : List Addr} {H : Hp} {xs : List PV} {vs : List V} (r : RVs m H xs vs) : vs = [] ↔ xs = [] := by
  cases r <;> simp
theorem o_add : OpM X W (binaryOp .Add) addV := by
  refine ⟨_, op_add.or (op_add_str.or (op_catA.or op_cat)), fun m h H σ Q x y v w s rx ry o => ?_⟩
  unfold addV at o
  split at o
  · cases rx; cases ry
    exact .inl ⟨_, _, rfl, rfl, o_int s o⟩
  · cases rx; cases ry
    split at o
    · rename_i hl
      exact .inr (.inl ⟨_, _, rfl, rfl, by rw [line16]; exact hl, o_str s o⟩)
    · exact o.elim
  · cases rx with
    | tup h1 r1 =>
      cases ry with
      | tup h2 r2 =>
        split at o
        · rename_i hl
          refine .inr (.inr (.inl ⟨_, _, _, _, rfl, rfl, SqT.of h1, SqT.of h2, by rw [line16, ← r1.length, ← r2.length]; exact hl, fun e => ?_, fun e1 e2 => ?_, fun _ _ p hp => ?_⟩))
          · rw [r1.nil_iff.mp e] at o
            exact o m H _ .refl s (.tup h2 r2)
          · rw [r2.nil_iff.mp e2, List.append_nil] at o
            exact o m H _ .refl s (.tup h1 r1)
          · exact new_tup s (r1.app r2) hp o
        · exact o.elim
  · cases rx with
    | ref h1 =>
      cases ry with
      | ref h2 =>
        split at o
        · rename_i xs ys e1 e2
          split at o
          · rename_i hl
            obtain ⟨vs, g1, r1⟩ := s.obj _ _ _ e1 h1
            obtain ⟨ws, g2, r2⟩ := s.obj _ _ _ e2 h2
            exact .inr (.inr (.inr ⟨_, _, _, _, rfl, rfl, g1, g2, by rw [line16, ← r1.length, ← r2.length]; exact hl, fun p hp => new_lst s (r1.app r2) hp o⟩))
          · exact o.elim
        · exact o.elim
  · exact o.elim
theorem o_sub : OpM X W (binaryOp .Sub) subV := by
  refine ⟨_, op_sub, fun m h H σ Q x y v w s rx ry o => ?_⟩
  unfold subV at o
  split at o
  · cases rx; cases ry
    exact ⟨_, _, rfl, rfl, o_int s o⟩
  · exact o.elim
theorem RVs.rep {m : List Addr} {H : Hp} {xs : List PV} {vs : List V} (r : RVs m H xs vs) : ∀ k : Nat, RVs m H (List.replicate k xs).flatten (List.replicate k vs).flatten
  | 0 => .nil
  | k + 1 => by
    rw [List.replicate_succ, List.replicate_succ, List.flatten_cons, List.flatten_cons]
    exact r.app (RVs.rep r k)
theorem o_mul : OpM X W (binaryOp .Mult) mulV := by
  refine ⟨_, op_mulX.or op_rep, fun m h H σ Q x y v w s rx ry o => ?_⟩
  unfold mulV at o
  split at o
  · cases rx; cases ry
    split at o
    · rename_i hl
      refine .inl ⟨_, _, rfl, rfl, ?_, o_int s o⟩
      obtain ⟨h1, h2⟩ := hl
      unfold small at h1 h2
      unfold CMulX
      omega
    · exact o.elim
  · cases rx with
    | ref h1 =>
      cases ry
      split at o
      · rename_i xs e1
        split at o
        · rename_i hl
          obtain ⟨vs, g1, r1⟩ := s.obj _ _ _ e1 h1
          exact .inr ⟨_, _, _, rfl, rfl, g1, by omega, by omega, by rw [line16, ← r1.length]; exact hl.2.2, fun p hp => new_lst s (r1.rep _) hp o⟩
        · exact o.elim
      · exact o.elim
  · exact o.elim
theorem o_mod : OpM X W (binaryOp .Mod) modV := by
  refine ⟨_, op_mod, fun m h H σ Q x y v w s rx ry o => ?_⟩
  unfold modV at o
  split at o
  · cases rx; cases ry
    split at o
    · rename_i hl
      exact ⟨_, _, rfl, rfl, hl, o_int s o⟩
    · exact o.elim
  · exact o.elim
theorem o_fdiv : OpM X W (binaryOp .FloorDiv) fdivV := by
  refine ⟨_, op_fdivW, fun m h H σ Q x y v w s rx ry o => ?_⟩
  unfold fdivV at o
  split at o
  · cases rx; cases ry
    split at o
    · rename_i hl
      rename_i i j
      refine ⟨i, j, rfl, rfl, ⟨hl.1, ?_⟩, o_int s o⟩
      have h1 := hl.1
      have h2 := hl.2
      have h3 : j.natAbs < 2 ^ 200 := by omega
      have : Nat.log2 j.natAbs < 200 := PySem.Flt.log2_lt_of (by decide) h3
      omega
    · exact o.elim
  · exact o.elim
theorem op_powW : OpR X (binaryOp .Pow) (rI (fun i j => 0 ≤ j ∧ (Builtin.Int.intBits i : Int) * j ≤ 2 ^ 27) fun i j => .int (i ^ j.toNat)) := opI fun _ _ _ _ _ _ _ hc q => pow_int hc.1 hc.2 q
theorem o_pow : OpM X W (binaryOp .Pow) powV := by
  refine ⟨_, op_powW, fun m h H σ Q x y v w s rx ry o => ?_⟩
  unfold powV at o
  split at o
  · cases rx; cases ry
    split at o
    · rename_i hl
      obtain ⟨h1, h2, h3⟩ := hl
      have h4 := PyProof.Rows.intBits_le h3
      refine ⟨_, _, rfl, rfl, ⟨h1, ?_⟩, o_int s o⟩
      rename_i i j
      have h5 : (Builtin.Int.intBits i : Int) ≤ 250 := by omega
      have h6 : (Builtin.Int.intBits i : Int) * j ≤ 250 * 1000 := Int.mul_le_mul h5 h2 h1 (by decide)
      omega
    · exact o.elim
  · exact o.elim
theorem o_cmpI {g : Value → Value → Sem Value} {f : Int → Int → Bool} (ho : OpR X g (rI0 fun i j => .bl (f i j))) : OpM X W g (cmpI f) := by
  refine ⟨_, ho, fun m h H σ Q x y v w s rx ry o => ?_⟩
  unfold cmpI at o
  split at o
  · cases rx; cases ry
    exact ⟨_, _, rfl, rfl, o_bl s o⟩
  · exact o.elim
theorem o_lt : OpM X W (compareOp .Lt) ltV := o_cmpI op_lt
theorem o_le : OpM X W (compareOp .LtE) leV := o_cmpI op_le
theorem o_gt : OpM X W (compareOp .Gt) gtV := o_cmpI op_gt
theorem o_ge : OpM X W (compareOp .GtE) geV := o_cmpI op_ge
theorem o_eq (hu : X.A.units + 64 < cLine) : OpM X W (compareOp .Eq) eqV := by
  refine ⟨_, op_eqD hu, fun m h H σ Q x y v w s rx ry o => ?_⟩
  unfold eqV eqB at o
  split at o
  · rename_i b e
    split at e
    · rename_i d1 d2 e1 e2
      split at e
      · rename_i hs
        cases e
        exact ⟨d1, d2, dat_dp s 8 _ _ _ rx e1, dat_dp s 8 _ _ _ ry e2, hs.1, hs.2, o_bl s o⟩
      · cases e
    · cases e
  · exact o.elim
theorem o_ne (hu : X.A.units + 64 < cLine) : OpM X W (compareOp .NotEq) neV := by
  refine ⟨_, op_neD hu, fun m h H σ Q x y v w s rx ry o => ?_⟩
  unfold neV eqB at o
  split at o
  · rename_i b e
    split at e
    · rename_i d1 d2 e1 e2
      split at e
      · rename_i hs
        cases e
        exact ⟨d1, d2, dat_dp s 8 _ _ _ rx e1, dat_dp s 8 _ _ _ ry e2, hs.1, hs.2, o_bl s o⟩
      · cases e
    · cases e
  · exact o.elim
theorem Sim.eqA {m : List Addr} {h : HS} {H : Hp} {K : PySem.W.Frag} {mg : Str → Option Value} (s : Sim K mg m h H) {p q : Nat} {a b : Addr} {o o' : HB} (e1 : h[p]? = some o) (e2 : h[q]? = some o') (h1 : m[p]? = some a) (h2 : m[q]? = some b) : decide (a = b) = decide (p = q) := by
  by_cases e : p = q
  · subst e
    rw [h1] at h2
    cases h2
    simp
  · have : a ≠ b := fun z => e (s.inj p q a o o' e1 e2 h1 (z ▸ h2))
    simp [e, this]
theorem o_is : OpM X W (compareOp .Is) isV := by
  refine ⟨_, op_isN.or op_is_ref, fun m h H σ Q x y v w s rx ry o => ?_⟩
  unfold isV at o
  split at o
  · cases ry
    exact .inl ⟨rfl, by rw [rx.isNon]; exact o_bl s o⟩
  · cases rx with
    | ref h1 =>
      cases ry with
      | ref h2 =>
        split at o
        · rename_i xs ys e1 e2
          obtain ⟨vs, g1, r1⟩ := s.obj _ _ _ e1 h1
          obtain ⟨ws, g2, r2⟩ := s.obj _ _ _ e2 h2
          exact .inr ⟨_, _, _, _, rfl, rfl, g1, rfl, g2, rfl, by rw [s.eqA e1 e2 h1 h2]; exact o_bl s o⟩
        · exact o.elim
  · exact o.elim
theorem o_isnot : OpM X W (compareOp .IsNot) isnotV := by
  refine ⟨_, op_notN.or op_isnot_ref, fun m h H σ Q x y v w s rx ry o => ?_⟩
  unfold isnotV at o
  split at o
  · cases ry
    exact .inl ⟨rfl, by rw [rx.isNon]; exact o_bl s o⟩
  · cases rx with
    | ref h1 =>
      cases ry with
      | ref h2 =>
        split at o
        · rename_i xs ys e1 e2
          obtain ⟨vs, g1, r1⟩ := s.obj _ _ _ e1 h1
          obtain ⟨ws, g2, r2⟩ := s.obj _ _ _ e2 h2
          exact .inr ⟨_, _, _, _, rfl, rfl, g1, rfl, g2, rfl, by rw [s.eqA e1 e2 h1 h2]; exact o_bl s o⟩
        · exact o.elim
  · exact o.elim
/-- -x -/
@[simp] def negV : PV → HS → R PV
  | .int i, h => .ok (.int (-i)) h
  | _, _ => .no
theorem em_neg {a : Expr} {ma : Mi PV} {pos : Pos} (ha : PEm X W a ma) : PEm X W (.UnaryOp .USub a pos) (m1 negV ma) :=
  wkE (pe_un un_neg ha) fun σ H Q ⟨m, ρ, h, s, rs, o⟩ => ⟨m, ρ, h, s, rs, o.bind.mono fun x H1 ⟨m1, h1, av, l1, s1, r1, o1⟩ => by
    unfold negV at o1
    split at o1
    · cases r1
      exact ⟨_, rfl, o_int s1 o1⟩
    · exact o1.elim⟩
end
end Lt
namespace Lt
open PySem PySem.Spec PyProof.Rows L2
/-! ### what is read as a row of items -/
@[simp] def seqOf (h : HS) : PV → Option (List PV)
  | .tup xs => some xs
  | .ref n => match h[n]? with
    | some (.lst xs) => some xs
    | _ => none
  | _ => none
/-- a list or a tuple at an address of the layer -/
def SqA (K : PySem.W.Frag) (H : Hp) (a : Addr) (ys : List V) : Prop := SqL K H a ys ∨ SqT K H a ys
section
variable {K : PySem.W.Frag} {mg : Str → Option Value} {m : List Addr} {h : HS} {H : Hp}
theorem seqOf_at (s : Sim K mg m h H) {x : PV} {v : V} {xs : List PV} (r : RV m H x v) (e : seqOf h x = some xs) : ∃ a ys, v = .ref a ∧ SqA K H a ys ∧ RVs m H xs ys := by
  unfold seqOf at e
  split at e
  · cases e
    cases r with
    | tup h1 r1 => exact ⟨_, _, rfl, .inr (SqT.of h1), r1⟩
  · cases r with
    | ref h1 =>
      split at e
      · rename_i e1
        cases e
        obtain ⟨ys, g, r⟩ := s.obj _ _ _ e1 h1
        exact ⟨_, ys, rfl, .inl (SqL.of g), r⟩
      · cases e
  · cases e
end
/-! ### calls of built-ins -/
@[simp] def c1 (f : PV → HS → R PV) : List PV → HS → R PV
  | [x], h => f x h
  | _, _ => .no
@[simp] def c2 (f : PV → PV → HS → R PV) : List PV → HS → R PV
  | [x, y], h => f x y h
  | _, _ => .no
@[simp] def lenV (x : PV) (h : HS) : R PV := match seqOf h x with
  | some xs => .ok (.int xs.length) h
  | none => match x with
    | .str z => if z.length ≤ 16777216 then .ok (.int z.length) h else .no
    | _ => .no
@[simp] def listV (x : PV) (h : HS) : R PV := match seqOf h x with
  | some xs => .ok (.ref h.length) (h ++ [.lst xs])
  | none => .no
@[simp] def tupleV (x : PV) (h : HS) : R PV := match seqOf h x with
  | some xs => .ok (.tup xs) h
  | none => .no
@[simp] def blsOf : List PV → Option (List Bool)
  | [] => some []
  | .bl b :: r => (blsOf r).map (b :: ·)
  | _ => none
@[simp] def intsOf : List PV → Option (List Int)
  | [] => some []
  | .int b :: r => (intsOf r).map (b :: ·)
  | _ => none
@[simp] def lstOf (h : HS) : PV → Option (List PV)
  | .ref n => match h[n]? with
    | some (.lst xs) => some xs
    | _ => none
  | _ => none
@[simp] def allV (x : PV) (h : HS) : R PV := match (lstOf h x).bind blsOf with
  | some bs => .ok (.bl (bs.all id)) h
  | none => .no
@[simp] def anyV (x : PV) (h : HS) : R PV := match (lstOf h x).bind blsOf with
  | some bs => .ok (.bl (bs.any id)) h
  | none => .no
@[simp] def sumV (x : PV) (h : HS) : R PV := match (lstOf h x).bind intsOf with
  | some bs => .ok (.int bs.sum) h
  | none => .no
def minL : List Int → Int
  | [] => 0
  | [x] => x
  | x :: y :: r => let m := minL (y :: r); if x ≤ m then x else m
def maxL : List Int → Int
  | [] => 0
  | [x] => x
  | x :: y :: r => let m := maxL (y :: r); if m ≤ x then x else m
theorem minL_ok : ∀ (ns : List Int), ns ≠ [] → minL ns ∈ ns ∧ ∀ y ∈ ns, minL ns ≤ y
  | [], h => absurd rfl h
  | [x], _ => by simp [minL]
  | x :: y :: r, _ => by
    have ih := minL_ok (y :: r) (by simp)
    simp only [minL]
    split
    · refine ⟨by simp, fun z hz => ?_⟩
      rcases List.mem_cons.mp hz with rfl | hz
      · omega
      · have := ih.2 z hz; omega
    · refine ⟨List.mem_cons_of_mem _ ih.1, fun z hz => ?_⟩
      rcases List.mem_cons.mp hz with rfl | hz
      · omega
      · exact ih.2 z hz
theorem maxL_ok : ∀ (ns : List Int), ns ≠ [] → maxL ns ∈ ns ∧ ∀ y ∈ ns, y ≤ maxL ns
  | [], h => absurd rfl h
  | [x], _ => by simp [maxL]
  | x :: y :: r, _ => by
    have ih := maxL_ok (y :: r) (by simp)
    simp only [maxL]
    split
    · refine ⟨by simp, fun z hz => ?_⟩
      rcases List.mem_cons.mp hz with rfl | hz
      · omega
      · have := ih.2 z hz; omega
    · refine ⟨List.mem_cons_of_mem _ ih.1, fun z hz => ?_⟩
      rcases List.mem_cons.mp hz with rfl | hz
      · omega
      · exact ih.2 z hz
@[simp] def minV (x : PV) (h : HS) : R PV := match (lstOf h x).bind intsOf with
  | some (y :: r) => .ok (.int (minL (y :: r))) h
  | _ => .no
@[simp] def maxV (x : PV) (h : HS) : R PV := match (lstOf h x).bind intsOf with
  | some (y :: r) => .ok (.int (maxL (y :: r))) h
  | _ => .no
@[simp] def min2V : PV → PV → HS → R PV
  | .int i, .int j, h => .ok (.int (if j < i then j else i)) h
  | _, _, _ => .no
@[simp] def max2V : PV → PV → HS → R PV
  | .int i, .int j, h => .ok (.int (if j > i then j else i)) h
  | _, _, _ => .no
@[simp] def absV : PV → HS → R PV
  | .int i, h => .ok (.int (if i < 0 then -i else i)) h
  | _, _ => .no
@[simp] def divmodV : PV → PV → HS → R PV
  | .int i, .int j, h => if 0 < j ∧ j < 1073741824 then .ok (.tup [.int (i / j), .int (i % j)]) h else .no
  | _, _, _ => .no
@[simp] def tagOf (h : HS) : PV → Option String
  | .non => some "NoneType"
  | .bl _ => some "bool"
  | .int _ => some "int"
  | .str _ => some "str"
  | .tup _ => some "tuple"
  | .ty _ => none
  | .ref n => match h[n]? with
    | some (.lst _) => some "list"
    | some (.dic _) => some "dict"
    | _ => none
def isTy (a b : String) : Bool := a == b || (a == "bool" && b == "int")
def okTy (b : String) : Bool := ["list", "tuple", "int", "bool", "str", "dict"].contains b
@[simp] def isV1 (a : String) : List PV → Option Bool
  | [] => some false
  | .ty b :: r => if okTy b = true then (isV1 a r).map (isTy a b || ·) else none
  | _ => none
@[simp] def isinstV : PV → PV → HS → R PV
  | x, .ty b, h => match tagOf h x with
    | some a => if okTy b = true then .ok (.bl (isTy a b)) h else .no
    | none => .no
  | x, .tup cs, h => match tagOf h x with
    | some a => match isV1 a cs with
      | some r => .ok (.bl r) h
      | none => .no
    | none => .no
  | _, _, _ => .no
section
variable {X : Cx} {W : WX}
theorem RVs.one {m : List Addr} {H : Hp} {x : PV} {vs : List V} (r : RVs m H [x] vs) : ∃ v, vs = [v] ∧ RV m H x v := by
  cases r with
  | cons r t => cases t; exact ⟨_, rfl, r⟩
theorem RVs.two {m : List Addr} {H : Hp} {x y : PV} {vs : List V} (r : RVs m H [x, y] vs) : ∃ v w, vs = [v, w] ∧ RV m H x v ∧ RV m H y w := by
  cases r with
  | cons r t =>
    obtain ⟨w, rfl, r2⟩ := t.one
    exact ⟨_, w, rfl, r, r2⟩
theorem c1_out {f : PV → HS → R PV} {m : List Addr} {h : HS} {H : Hp} {σ : St} {Q : VK} {xs : List PV} {vs : List V} (r : RVs m H xs vs) (o : Out X.K X.mg W RV m H σ Q (c1 f xs h)) : ∃ x v, vs = [v] ∧ RV m H x v ∧ Out X.K X.mg W RV m H σ Q (f x h) := by
  unfold c1 at o
  split at o
  · obtain ⟨v, e, r1⟩ := r.one
    exact ⟨_, v, e, r1, o⟩
  · exact o.elim
theorem c2_out {f : PV → PV → HS → R PV} {m : List Addr} {h : HS} {H : Hp} {σ : St} {Q : VK} {xs : List PV} {vs : List V} (r : RVs m H xs vs) (o : Out X.K X.mg W RV m H σ Q (c2 f xs h)) : ∃ x y v w, vs = [v, w] ∧ RV m H x v ∧ RV m H y w ∧ Out X.K X.mg W RV m H σ Q (f x y h) := by
  unfold c2 at o
  split at o
  · obtain ⟨v, w, e, r1, r2⟩ := r.two
    exact ⟨_, _, v, w, e, r1, r2, o⟩
  · exact o.elim
theorem b_len : CallM X W (.builtin "len") (c1 lenV) := by
  refine ⟨_, call_len, fun m h H σ Q xs vs s r o => ?_⟩
  obtain ⟨x, v, rfl, r, o⟩ := c1_out r o
  unfold lenV at o
  split at o
  · rename_i ys e
    obtain ⟨a, ws, rfl, q, rr⟩ := seqOf_at s r e
    rw [rr.length] at o
    refine ⟨_, ws.length, rfl, ?_, o_int s o⟩
    rcases q with q | q
    · exact .inl ⟨_, q, rfl⟩
    · exact .inr ⟨_, q, rfl⟩
  · split at o
    · cases r
      split at o
      · rename_i hl
        exact ⟨_, _, rfl, ⟨by rw [line16]; exact hl, rfl⟩, o_int s o⟩
      · exact o.elim
    · exact o.elim
theorem b_list : CallM X W (.type "list") (c1 listV) := by
  refine ⟨_, call_list_of, fun m h H σ Q xs vs s r o => ?_⟩
  obtain ⟨x, v, rfl, r, o⟩ := c1_out r o
  unfold listV at o
  split at o
  · rename_i ys e
    obtain ⟨a, ws, rfl, q, rr⟩ := seqOf_at s r e
    exact ⟨a, ws, rfl, q, fun p hp => new_lst s rr hp o⟩
  · exact o.elim
theorem b_tuple : CallM X W (.type "tuple") (c1 tupleV) := by
  refine ⟨_, call_tuple_of, fun m h H σ Q xs vs s r o => ?_⟩
  obtain ⟨x, v, rfl, r, o⟩ := c1_out r o
  unfold tupleV seqOf at o
  cases r with
  | tup h1 r1 =>
    simp only at o
    exact ⟨_, _, rfl, .inr ⟨SqT.of h1, o m H _ .refl s (.tup h1 r1)⟩⟩
  | ref h1 =>
    simp only at o
    split at o
    · rename_i ys e
      obtain ⟨a, ws, e2, q, rr⟩ := seqOf_at (x := .ref _) s (.ref h1) (by unfold seqOf; exact e)
      cases e2
      split at e
      · rename_i e1
        obtain ⟨ws, g, r⟩ := s.obj _ _ _ e1 h1
        cases e
        exact ⟨_, _, rfl, .inl ⟨SqL.of g, fun p hp => new_tup s r hp o⟩⟩
      · cases e
    · exact o.elim
  | _ => exact o.elim
theorem lstOf_at {m : List Addr} {h : HS} {H : Hp} (s : Sim X.K X.mg m h H) {x : PV} {v : V} {xs : List PV} (r : RV m H x v) (e : lstOf h x = some xs) : ∃ a ys, v = .ref a ∧ H a = some (.lst ys) ∧ RVs m H xs ys := by
  unfold lstOf at e
  split at e
  · cases r with
    | ref h1 =>
      split at e
      · rename_i e1
        cases e
        obtain ⟨ys, g, r⟩ := s.obj _ _ _ e1 h1
        exact ⟨_, ys, rfl, g, r⟩
      · cases e
  · cases e
theorem blsOf_at {m : List Addr} {H : Hp} : ∀ {xs : List PV} {vs : List V} {bs : List Bool}, RVs m H xs vs → blsOf xs = some bs → vs = bs.map V.bl
  | _, _, _, .nil, e => by cases e; rfl
  | _, _, bs, .cons (x := x) r t, e => by
    cases r with
    | bl b =>
      simp only [blsOf, Option.map_eq_some_iff] at e
      obtain ⟨r, e1, rfl⟩ := e
      rw [blsOf_at t e1]
      rfl
    | _ => cases e
theorem intsOf_at {m : List Addr} {H : Hp} : ∀ {xs : List PV} {vs : List V} {bs : List Int}, RVs m H xs vs → intsOf xs = some bs → vs = bs.map V.int
  | _, _, _, .nil, e => by cases e; rfl
  | _, _, bs, .cons (x := x) r t, e => by
    cases r with
    | int b =>
      simp only [intsOf, Option.map_eq_some_iff] at e
      obtain ⟨r, e1, rfl⟩ := e
      rw [intsOf_at t e1]
      rfl
    | _ => cases e
theorem bls_at {m : List Addr} {h : HS} {H : Hp} (s : Sim X.K X.mg m h H) {x : PV} {v : V} {bs : List Bool} (r : RV m H x v) (e : (lstOf h x).bind blsOf = some bs) : ∃ a, v = .ref a ∧ SqL X.K H a (bs.map V.bl) := by
  obtain ⟨ys, e1, e2⟩ := Option.bind_eq_some_iff.mp e
  obtain ⟨a, ws, rfl, q, rr⟩ := lstOf_at s r e1
  rw [blsOf_at rr e2] at q
  exact ⟨a, rfl, SqL.of q⟩
theorem ints_at {m : List Addr} {h : HS} {H : Hp} (s : Sim X.K X.mg m h H) {x : PV} {v : V} {bs : List Int} (r : RV m H x v) (e : (lstOf h x).bind intsOf = some bs) : ∃ a, v = .ref a ∧ SqL X.K H a (bs.map V.int) := by
  obtain ⟨ys, e1, e2⟩ := Option.bind_eq_some_iff.mp e
  obtain ⟨a, ws, rfl, q, rr⟩ := lstOf_at s r e1
  rw [intsOf_at rr e2] at q
  exact ⟨a, rfl, SqL.of q⟩
theorem b_all (hc : X.calm = true := by rfl) : CallM X W (.builtin "all") (c1 allV) := by
  refine ⟨_, cr_all hc, fun m h H σ Q xs vs s r o => ?_⟩
  obtain ⟨x, v, rfl, r, o⟩ := c1_out r o
  unfold allV at o
  split at o
  · rename_i bs e
    obtain ⟨a, rfl, q⟩ := bls_at s r e
    exact ⟨a, bs, rfl, q, o_bl s o⟩
  · exact o.elim
theorem b_any (hc : X.calm = true := by rfl) : CallM X W (.builtin "any") (c1 anyV) := by
  refine ⟨_, cr_any hc, fun m h H σ Q xs vs s r o => ?_⟩
  obtain ⟨x, v, rfl, r, o⟩ := c1_out r o
  unfold anyV at o
  split at o
  · rename_i bs e
    obtain ⟨a, rfl, q⟩ := bls_at s r e
    exact ⟨a, bs, rfl, q, o_bl s o⟩
  · exact o.elim
theorem b_sum (hc : X.calm = true := by rfl) : CallM X W (.builtin "sum") (c1 sumV) := by
  refine ⟨_, cr_sum hc, fun m h H σ Q xs vs s r o => ?_⟩
  obtain ⟨x, v, rfl, r, o⟩ := c1_out r o
  unfold sumV at o
  split at o
  · rename_i bs e
    obtain ⟨a, rfl, q⟩ := ints_at s r e
    exact ⟨a, bs, rfl, q, o_int s o⟩
  · exact o.elim
theorem min_eq {ns : List Int} {k : Int} (hn : ns ≠ []) (h1 : k ∈ ns) (h2 : ∀ y ∈ ns, k ≤ y) : k = minL ns := by
  have h := minL_ok ns hn
  have a := h2 _ h.1
  have b := h.2 _ h1
  omega
theorem max_eq {ns : List Int} {k : Int} (hn : ns ≠ []) (h1 : k ∈ ns) (h2 : ∀ y ∈ ns, y ≤ k) : k = maxL ns := by
  have h := maxL_ok ns hn
  have a := h2 _ h.1
  have b := h.2 _ h1
  omega
theorem b_min (hc : X.calm = true := by rfl) : CallM X W (.builtin "min") (c1 minV) := by
  refine ⟨_, cr_min hc, fun m h H σ Q xs vs s r o => ?_⟩
  obtain ⟨x, v, rfl, r, o⟩ := c1_out r o
  unfold minV at o
  split at o
  · rename_i y t e
    obtain ⟨a, rfl, q⟩ := ints_at s r e
    exact ⟨a, y :: t, rfl, q, by simp, fun k h1 h2 => by rw [min_eq (by simp) h1 h2]; exact o_int s o⟩
  · exact o.elim
theorem b_max (hc : X.calm = true := by rfl) : CallM X W (.builtin "max") (c1 maxV) := by
  refine ⟨_, cr_max hc, fun m h H σ Q xs vs s r o => ?_⟩
  obtain ⟨x, v, rfl, r, o⟩ := c1_out r o
  unfold maxV at o
  split at o
  · rename_i y t e
    obtain ⟨a, rfl, q⟩ := ints_at s r e
    exact ⟨a, y :: t, rfl, q, by simp, fun k h1 h2 => by rw [max_eq (by simp) h1 h2]; exact o_int s o⟩
  · exact o.elim
theorem b_min2 (hc : X.calm = true := by rfl) : CallM X W (.builtin "min") (c2 min2V) := by
  refine ⟨_, call_min2 hc, fun m h H σ Q xs vs s r o => ?_⟩
  obtain ⟨x, y, v, w, rfl, r1, r2, o⟩ := c2_out r o
  unfold min2V at o
  split at o
  · cases r1; cases r2
    exact ⟨_, _, rfl, o_int s o⟩
  · exact o.elim
theorem b_max2 (hc : X.calm = true := by rfl) : CallM X W (.builtin "max") (c2 max2V) := by
  refine ⟨_, call_max2 hc, fun m h H σ Q xs vs s r o => ?_⟩
  obtain ⟨x, y, v, w, rfl, r1, r2, o⟩ := c2_out r o
  unfold max2V at o
  split at o
  · cases r1; cases r2
    exact ⟨_, _, rfl, o_int s o⟩
  · exact o.elim
theorem b_abs : CallM X W (.builtin "abs") (c1 absV) := by
  refine ⟨_, call_abs, fun m h H σ Q xs vs s r o => ?_⟩
  obtain ⟨x, v, rfl, r, o⟩ := c1_out r o
  unfold absV at o
  split at o
  · cases r
    exact ⟨_, rfl, o_int s o⟩
  · exact o.elim
theorem b_divmod : CallM X W (.builtin "divmod") (c2 divmodV) := by
  refine ⟨_, call_divmod, fun m h H σ Q xs vs s r o => ?_⟩
  obtain ⟨x, y, v, w, rfl, r1, r2, o⟩ := c2_out r o
  unfold divmodV at o
  split at o
  · cases r1; cases r2
    split at o
    · rename_i hl
      exact ⟨_, _, rfl, hl, fun p hp => new_tup s (.cons (.int _) (.cons (.int _) .nil)) hp o⟩
    · exact o.elim
  · exact o.elim
theorem tag_at {m : List Addr} {h : HS} {H : Hp} (s : Sim X.K X.mg m h H) {x : PV} {v : V} {a : String} (r : RV m H x v) (e : tagOf h x = some a) : TyX X.K H v (.type a) ∧ (a = "NoneType" ∨ a = "bool" ∨ a = "int" ∨ a = "str" ∨ a = "tuple" ∨ a = "list" ∨ a = "dict") := by
  cases r with
  | non => cases e; exact ⟨.base .non, by decide⟩
  | bl b => cases e; exact ⟨.base (.bl b), by decide⟩
  | int b => cases e; exact ⟨.base (.int b), by decide⟩
  | str b => cases e; exact ⟨.base (.str b), by decide⟩
  | tup h1 _ => cases e; exact ⟨.base (.tup h1), by decide⟩
  | ty b => cases e
  | ref h1 =>
    simp only [tagOf] at e
    split at e
    · rename_i e1
      cases e
      obtain ⟨ys, g, r⟩ := s.obj _ _ _ e1 h1
      exact ⟨.base (.lst g), by decide⟩
    · rename_i e1
      cases e
      obtain ⟨ys, g, r⟩ := s.obj _ _ _ e1 h1
      exact ⟨.base (.dK g), by decide⟩
    · cases e
theorem kit_is {K : PySem.W.Frag} {a b : String} (ha : a = "NoneType" ∨ a = "bool" ∨ a = "int" ∨ a = "str" ∨ a = "tuple" ∨ a = "list" ∨ a = "dict") (hb : okTy b = true) : PySem.W.kitOne K (.type a) (.type b) = some (isTy a b) := by
  have hb' : b = "list" ∨ b = "tuple" ∨ b = "int" ∨ b = "bool" ∨ b = "str" ∨ b = "dict" := by simpa [okTy] using hb
  rcases ha with rfl | rfl | rfl | rfl | rfl | rfl | rfl <;> rcases hb' with rfl | rfl | rfl | rfl | rfl | rfl <;> exact kit_ty (by decide +kernel)
theorem kits_is {K : PySem.W.Frag} {a : String} (ha : a = "NoneType" ∨ a = "bool" ∨ a = "int" ∨ a = "str" ∨ a = "tuple" ∨ a = "list" ∨ a = "dict") {m : List Addr} {H : Hp} : ∀ {cs : List PV} {vs : List V} {b : Bool}, RVs m H cs vs → isV1 a cs = some b → ∃ us, Paired ClsV vs us ∧ PySem.W.kitAny K (.type a) us = some b
  | _, _, _, .nil, e => by cases e; exact ⟨[], .nil, kitAny_nil⟩
  | _, _, b, .cons (x := x) r t, e => by
    cases r with
    | ty n =>
      simp only [isV1] at e
      split at e
      · rename_i hk
        have k1 := kit_is (K := K) ha hk
        simp only [Option.map_eq_some_iff] at e
        obtain ⟨b', e', rfl⟩ := e
        obtain ⟨us, h1, h3⟩ := kits_is (K := K) ha t e'
        refine ⟨_ :: us, .cons (.ty n) h1, ?_⟩
        cases hq : isTy a n with
        | true => exact kitAny_cons k1 (fun z => by rw [hq] at z; cases z) fun _ => rfl
        | false => exact kitAny_cons k1 (fun _ => by rw [h3]; rfl) fun z => by rw [hq] at z; cases z
      · cases e
    | _ => cases e
theorem b_isinst : CallM X W (.builtin "isinstance") (c2 isinstV) := by
  refine ⟨_, call_isi.or call_isiT, fun m h H σ Q xs vs s r o => ?_⟩
  obtain ⟨x, y, v, w, rfl, r1, r2, o⟩ := c2_out r o
  unfold isinstV at o
  split at o
  · cases r2
    split at o
    · rename_i a e
      obtain ⟨t1, t2⟩ := tag_at s r1 e
      split at o
      · rename_i hk
        exact .inl ⟨_, _, _, _, _, rfl, .ty _, t1, kit_is t2 hk, o_bl s o⟩
      · exact o.elim
    · exact o.elim
  · cases r2 with
    | tup h1 rr =>
      split at o
      · rename_i a e
        obtain ⟨t1, t2⟩ := tag_at s r1 e
        split at o
        · rename_i b e2
          obtain ⟨us, k1, k2⟩ := kits_is (K := X.K) t2 rr e2
          exact .inr ⟨_, _, _, _, us, b, rfl, h1, k1, t1, k2, o_bl s o⟩
        · exact o.elim
      · exact o.elim
  · exact o.elim
end
end Lt
namespace Lt
open PySem PySem.Spec PyProof.Rows L2
/-! ### subscripts, slices -/
def valP {κ : Type} [DecidableEq κ] (kvs : List (κ × PV)) (k : κ) : Option PV := (kvs.find? fun kv => decide (kv.1 = k)).map (·.2)
def putP {κ : Type} [DecidableEq κ] (kvs : List (κ × PV)) (k : κ) (v : PV) : List (κ × PV) :=
  if (kvs.any fun kv => decide (kv.1 = k)) = true then kvs.map (fun kv => if kv.1 = k then (kv.1, v) else kv) else kvs ++ [(k, v)]
def dropP {κ : Type} [DecidableEq κ] (kvs : List (κ × PV)) (k : κ) : List (κ × PV) := kvs.filter fun kv => decide (kv.1 ≠ k)
@[simp] def keyOf : PV → Option Key
  | .int i => some (.inl i)
  | .str x => some (.inr x)
  | _ => none
@[simp] def dicOf (h : HS) : PV → Option (List (Key × PV))
  | .ref n => match h[n]? with
    | some (.dic kvs) => some kvs
    | _ => none
  | _ => none
section
variable {K : PySem.W.Frag} {mg : Str → Option Value} {m : List Addr} {h : HS} {H : Hp} {κ : Type} [DecidableEq κ]
theorem RKs.val {kvs : List (κ × PV)} {vs : List (κ × V)} (r : RKs m H kvs vs) (k : κ) : (valP kvs k = none ∧ valV vs k = none) ∨ ∃ x v, valP kvs k = some x ∧ valV vs k = some v ∧ RV m H x v := by
  induction r with
  | nil => exact .inl ⟨rfl, rfl⟩
  | @cons k' x v xs ws rx t ih =>
    by_cases e : k' = k
    · exact .inr ⟨x, v, by simp [valP, List.find?_cons, e], by simp [valV, List.find?_cons, e], rx⟩
    · have e1 : valP ((k', x) :: xs) k = valP xs k := by simp [valP, List.find?_cons, e]
      have e2 : valV ((k', v) :: ws) k = valV ws k := by simp [valV, List.find?_cons, e]
      rw [e1, e2]
      exact ih
theorem RKs.any {kvs : List (κ × PV)} {vs : List (κ × V)} (r : RKs m H kvs vs) (k : κ) : (kvs.any fun kv => decide (kv.1 = k)) = vs.any fun kv => decide (kv.1 = k) := by
  induction r with
  | nil => rfl
  | cons rx t ih => simp only [List.any_cons, ih]
theorem RKs.repl {kvs : List (κ × PV)} {vs : List (κ × V)} (r : RKs m H kvs vs) (k : κ) {x : PV} {v : V} (q : RV m H x v) : RKs m H (kvs.map fun kv => if kv.1 = k then (kv.1, x) else kv) (vs.map fun kv => if kv.1 = k then (kv.1, v) else kv) := by
  induction r with
  | nil => exact .nil
  | @cons k' y w xs ws rx t ih =>
    simp only [List.map_cons]
    by_cases e : k' = k
    · simp only [e, if_true]
      exact .cons q ih
    · simp only [e, if_false]
      exact .cons rx ih
theorem RKs.snoc {kvs : List (κ × PV)} {vs : List (κ × V)} (r : RKs m H kvs vs) {k : κ} {x : PV} {v : V} (q : RV m H x v) : RKs m H (kvs ++ [(k, x)]) (vs ++ [(k, v)]) := by
  induction r with
  | nil => exact .cons q .nil
  | cons rx t ih => exact .cons rx ih
theorem RKs.put {kvs : List (κ × PV)} {vs : List (κ × V)} (r : RKs m H kvs vs) (k : κ) {x : PV} {v : V} (q : RV m H x v) : RKs m H (putP kvs k x) (putK vs k v) := by
  unfold putP putK
  rw [r.any k]
  split
  · exact r.repl k q
  · exact r.snoc q
theorem RKs.drop {kvs : List (κ × PV)} {vs : List (κ × V)} (r : RKs m H kvs vs) (k : κ) : RKs m H (dropP kvs k) (dropK vs k) := by
  unfold dropP dropK
  induction r with
  | nil => exact .nil
  | @cons k' y w xs ws rx t ih =>
    simp only [List.filter_cons]
    split
    · exact .cons rx ih
    · exact ih
theorem keyOf_at {x : PV} {v : V} {k : Key} (r : RV m H x v) (e : keyOf x = some k) : v = kV k := by
  cases r <;> (first | (cases e; rfl) | cases e)
theorem dicOf_at (s : Sim K mg m h H) {x : PV} {v : V} {kvs : List (Key × PV)} (r : RV m H x v) (e : dicOf h x = some kvs) : ∃ a vs, v = .ref a ∧ H a = some (.dK vs) ∧ RKs m H kvs vs := by
  unfold dicOf at e
  split at e
  · cases r with
    | ref h1 =>
      split at e
      · rename_i e1
        cases e
        obtain ⟨ys, g, r⟩ := s.obj _ _ _ e1 h1
        exact ⟨_, ys, rfl, g, r⟩
      · cases e
  · cases e
end
theorem refOf_at {K : PySem.W.Frag} {mg : Str → Option Value} {m : List Addr} {h : HS} {H : Hp} (s : Sim K mg m h H) {n : Nat} {a : Addr} {xs : List PV} (g : m[n]? = some a) (e : seqOf h (.ref n) = some xs) : ∃ ys, SqL K H a ys ∧ RVs m H xs ys := by
  simp only [seqOf] at e
  split at e
  · rename_i e1
    cases e
    obtain ⟨ys, q, r⟩ := s.obj _ _ _ e1 g
    exact ⟨ys, SqL.of q, r⟩
  · cases e
theorem RVs.at {m : List Addr} {H : Hp} {xs : List PV} {vs : List V} (r : RVs m H xs vs) {i : Int} {x : PV} (e : atI xs i = some x) : ∃ v, atI vs i = some v ∧ RV m H x v := by
  unfold atI at e ⊢
  obtain ⟨j, e1, e2⟩ := Option.bind_eq_some_iff.mp e
  obtain ⟨v, e3, r3⟩ := r.get e2
  rw [r.length] at e1
  exact ⟨v, by rw [e1]; exact e3, r3⟩
@[simp] def getV (x y : PV) (h : HS) : R PV := match seqOf h x, y with
  | some xs, .int i => match atI xs i with
    | some v => .ok v h
    | none => .no
  | _, _ => match dicOf h x, keyOf y with
    | some kvs, some k => match valP kvs k with
      | some v => .ok v h
      | none => .no
    | _, _ => match x, y with
      | .str z, .int i => if z.length ≤ 16777216 then (match atI z.cps.toList i with
        | some c => .ok (.str ⟨#[c]⟩) h
        | none => .no) else .no
      | _, _ => .no
def cutP (xs : List PV) (lo hi : Option Int) : List PV := (xs.drop (HT.sIx xs.length 0 lo)).take (HT.sIx xs.length xs.length hi - HT.sIx xs.length 0 lo)
theorem RVs.cut {m : List Addr} {H : Hp} {xs : List PV} {vs : List V} (r : RVs m H xs vs) (lo hi : Option Int) : RVs m H (cutP xs lo hi) (cutV vs lo hi) := by
  unfold cutP cutV
  rw [r.length]
  exact (r.drop _).take _
@[simp] def sliceV (x : PV) (lo hi : Option Int) (h : HS) : R PV := match x with
  | .tup xs => .ok (.tup (cutP xs lo hi)) h
  | .str z => if z.length ≤ 16777216 then .ok (.str (cutS z lo hi)) h else .no
  | x => match seqOf h x with
    | some xs => .ok (.ref h.length) (h ++ [.lst (cutP xs lo hi)])
    | none => .no
@[simp] def asI (x : PV) (h : HS) : R (Option Int) := match x with
  | .int i => .ok (some i) h
  | _ => .no
section
variable {X : Cx} {W : WX} {a b o e : Expr} {ma mb mo me : Mi PV} {pos : Pos}
theorem em_ix (hu : X.A.units + 1 < cLine) (ha : PEm X W a ma) (hb : PEm X W b mb) (hs : PlainIx b := by exact fun _ _ => rfl) : PEm X W (.Subscript a b pos) (m2 getV ma mb) := by
  refine wkE (PE.or (pe_ix ix_seq ha hb hs) (pe_dget hu ha hb hs)) fun σ H Q ⟨m, ρ, h, s, rs, oo⟩ => ?_
  -- which of both: by what the subscripted thing comes to
  cases hx : ma ρ h with
  | no =>
    refine .inl ⟨m, ρ, h, s, rs, oo.bind.mono fun x H1 ⟨m1, h1, av, l1, s1, r1, o1⟩ => ?_⟩
    exact ⟨m1, ρ, h1, s1, rs.le l1, False.elim (by have := oo.bind (rel := RV); rw [hx] at this; exact this)⟩
  | ex e' h' =>
    refine .inl ⟨m, ρ, h, s, rs, ?_⟩
    have q := oo
    unfold m2 at q
    rw [hx] at q ⊢
    exact q
  | ok x h1 =>
    have q := oo
    unfold m2 at q
    rw [hx] at q
    cases hy : mb ρ h1 with
    | no =>
      have q' : Out X.K X.mg W RV m H σ Q ((mb ρ h1).bind fun y h2 => getV x y h2) := q
      rw [hy] at q'
      exact q'.elim
    | ex e' h' =>
      refine .inl ⟨m, ρ, h, s, rs, ?_⟩
      rw [hx]
      refine fun m1 H1 v l1 s1 r1 => ⟨m1, ρ, h1, s1, rs.le l1, ?_⟩
      have q' : Out X.K X.mg W RV m H σ Q ((mb ρ h1).bind fun y h2 => getV x y h2) := q
      rw [hy] at q' ⊢
      exact (Out.later (r := R.ex e' h') (α := PV) (rel := RV) q' l1)
    | ok y h2 =>
      have q' : Out X.K X.mg W RV m H σ Q (getV x y h2) := by
        have z : Out X.K X.mg W RV m H σ Q ((mb ρ h1).bind fun y h2 => getV x y h2) := q
        rw [hy] at z
        exact z
      -- the end, from the fact told by values
      have fin : ∀ (t : TE) (g : V → V → Hp → VK → Prop), t = (fun σ H Q => tG X.K X.mg W RV ma σ H fun x H1 => tG X.K X.mg W RV mb σ H1 fun y H2 => g x y H2 Q) →
          (∀ m2 H2 v w, Le m H m2 H2 → Sim X.K X.mg m2 h2 H2 → RV m2 H2 x v → RV m2 H2 y w → g v w H2 Q) → t σ H Q := fun t g et hg => by
        rw [et]
        refine ⟨m, ρ, h, s, rs, ?_⟩
        rw [hx]
        refine fun m1 H1 v l1 s1 r1 => ⟨m1, ρ, h1, s1, rs.le l1, ?_⟩
        rw [hy]
        exact fun m2 H2 w l2 s2 r2 => hg m2 H2 v w (l1.trans l2) s2 (r1.le l2) r2
      unfold getV at q'
      split at q'
      · rename_i xs i e1
        split at q'
        · rename_i v0 e2
          refine .inl (fin _ (rIx X.K) rfl fun m2 H2 v w l2 s2 r1 r2 => ?_)
          obtain ⟨a, ys, rfl, hq, rr⟩ := seqOf_at s2 r1 e1
          obtain ⟨v1, e3, r3⟩ := rr.at e2
          cases r2
          rcases hq with hq | hq
          · exact .inl ⟨a, ys, _, v1, rfl, rfl, hq, e3, q' m2 H2 v1 l2 s2 r3⟩
          · exact .inr (.inl ⟨a, ys, _, v1, rfl, rfl, hq, e3, q' m2 H2 v1 l2 s2 r3⟩)
        · exact q'.elim
      · split at q'
        · rename_i kvs k e1 e2
          split at q'
          · rename_i v0 e3
            refine .inr (fin _ (fun x y H2 Q => ∃ a v, x = .ref a ∧ DGet H2 a y (some v) ∧ Q v H2) rfl fun m2 H2 v w l2 s2 r1 r2 => ?_)
            obtain ⟨a, vs, rfl, hq, rr⟩ := dicOf_at s2 r1 e1
            have ew := keyOf_at r2 e2
            subst ew
            rcases rr.val k with ⟨z, _⟩ | ⟨x', v', f1, f2, r3⟩
            · rw [z] at e3; cases e3
            · rw [f1] at e3
              cases e3
              exact ⟨a, v', rfl, by rw [← f2]; exact DGet.k hq, q' m2 H2 v' l2 s2 r3⟩
          · exact q'.elim
        · split at q'
          · split at q'
            · rename_i hz
              split at q'
              · rename_i c e3
                refine .inl (fin _ (rIx X.K) rfl fun m2 H2 v w l2 s2 r1 r2 => ?_)
                cases r1; cases r2
                exact .inr (.inr ⟨_, _, c, rfl, rfl, by rw [line16]; exact hz, e3, q' m2 H2 _ l2 s2 (.str _)⟩)
              · exact q'.elim
            · exact q'.elim
          · exact q'.elim
theorem om_none : POm X W none (fun _ h => .ok none h) := wkO po_none fun σ H Q ⟨m, ρ, h, s, rs, o⟩ => o m H none .refl s rfl
theorem om_some (ha : PEm X W a ma) : POm X W (some a) (m1 asI ma) := wkO (po_some ha) fun σ H Q ⟨m, ρ, h, s, rs, o⟩ => ⟨m, ρ, h, s, rs, o.bind.mono fun x H1 ⟨m1, h1, av, l1, s1, r1, o1⟩ => by
  unfold asI at o1
  split at o1
  · cases r1
    exact ⟨_, rfl, o1 m1 H1 _ .refl s1 rfl⟩
  · exact o1.elim⟩
theorem em_slice {lo hi : Option Expr} {ml mh : Mi (Option Int)} {p2 : Pos} (ha : PEm X W a ma) (hl : POm X W lo ml) (hh : POm X W hi mh) : PEm X W (.Subscript a (.Slice lo hi none p2) pos) (m3 sliceV ma ml mh) :=
  wkE (pe_slice (sl_list.or (sl_tupA.or sl_str)) ha hl hh) fun σ H Q ⟨m, ρ, h, s, rs, o⟩ => ⟨m, ρ, h, s, rs, o.bind.mono fun x H1 ⟨m1, h1, av, l1, s1, r1, o1⟩ => ⟨m1, ρ, h1, s1, rs.le l1, o1.bind.mono fun y H2 ⟨m2, h2, bv, l2, s2, r2, o2⟩ => ⟨m2, ρ, h2, s2, (rs.le l1).le l2, o2.bind.mono fun z H3 ⟨m3, h3, cv, l3, s3, r3, o3⟩ => by
    cases r2
    cases r3
    have r1' := (r1.le l2).le l3
    unfold sliceV at o3
    split at o3
    · cases r1' with
      | tup g rr =>
        refine .inr (.inl ⟨_, _, rfl, SqT.of g, fun hw => ?_, fun hw p hp => new_tup s3 (rr.cut _ _) hp o3⟩)
        rw [← rr.length] at hw
        rw [show cutP _ y z = _ from by unfold cutP; rw [hw.1, hw.2, Nat.sub_zero, List.drop_zero, List.take_length]] at o3
        exact o3 m3 H3 _ .refl s3 (.tup g rr)
    · cases r1'
      split at o3
      · rename_i hz
        exact .inr (.inr ⟨_, rfl, by rw [line16]; exact hz, o_str s3 o3⟩)
      · exact o3.elim
    · rename_i nt _
      split at o3
      · rename_i xs e1
        cases r1' with
        | ref g =>
          obtain ⟨ys, hq, rr⟩ := refOf_at s3 g e1
          exact .inl ⟨_, _, rfl, hq, fun p hp => new_lst s3 (rr.cut _ _) hp o3⟩
        | tup g rr2 => exact absurd rfl (nt _)
        | _ => cases e1
      · exact o3.elim⟩⟩⟩
end
end Lt
namespace Lt
open PySem PySem.Spec PyProof.Rows L2
/-! ### statements -/
inductive SR where
  | nx (ρ : Pn) (h : HS) | rt (v : PV) (h : HS) | bk (ρ : Pn) (h : HS) | ct (ρ : Pn) (h : HS) | ex (e : PX) (ρ : Pn) (h : HS) | no
abbrev Ms := Pn → HS → SR
def OutS (K : PySem.W.Frag) (mg : Str → Option Value) (W : WX) (m : List Addr) (H : Hp) (D : Ends) : SR → Prop
  | .nx ρ h => ∀ m' H' σ', Le m H m' H' → Sim K mg m' h H' → RS m' H' ρ σ' → D.nx σ' H'
  | .rt v h => ∀ m' H' w, Le m H m' H' → Sim K mg m' h H' → RV m' H' v w → D.rt w H'
  | .bk ρ h => ∀ m' H' σ', Le m H m' H' → Sim K mg m' h H' → RS m' H' ρ σ' → D.bk σ' H'
  | .ct ρ h => ∀ m' H' σ', Le m H m' H' → Sim K mg m' h H' → RS m' H' ρ σ' → D.ct σ' H'
  | .ex e ρ h => ∀ m' H' σ' cls d, Le m H m' H' → Sim K mg m' h H' → RS m' H' ρ σ' → RX mg m' H' e cls d → W cls d σ' H'
  | .no => False
def tMS (K : PySem.W.Frag) (mg : Str → Option Value) (W : WX) (f : Ms) : TS := fun D σ H => ∃ m ρ h, Sim K mg m h H ∧ RS m H ρ σ ∧ OutS K mg W m H D (f ρ h)
abbrev PSm (X : Cx) (W : WX) (st : Stmt) (f : Ms) : Prop := PS X st (tMS X.K X.mg W f)
abbrev PSsm (X : Cx) (W : WX) (st : List Stmt) (f : Ms) : Prop := PSs X st (tMS X.K X.mg W f)
/-- an expression's outcome, and what a statement does with it -/
def R.bindS {α : Type} (r : R α) (ρ : Pn) (f : α → HS → SR) : SR := match r with
  | .ok a h => f a h
  | .ex e h => .ex e ρ h
  | .no => .no
def R.thenS {α : Type} (r : R α) (f : α → HS → SR) : SR := match r with
  | .ok a h => f a h
  | _ => .no
def SR.seq (r : SR) (b : Ms) : SR := match r with
  | .nx ρ' h' => b ρ' h'
  | r => r
/-- a turn's end: on, or out -/
def SR.loop (r : SR) (k : Ms) : SR := match r with
  | .nx ρ h => k ρ h
  | .ct ρ h => k ρ h
  | .bk ρ h => .nx ρ h
  | .rt v h => .rt v h
  | .ex e ρ h => .ex e ρ h
  | .no => .no
section
variable {α : Type}
@[simp] theorem R.bindS_ok (a : α) (h : HS) (ρ : Pn) (f : α → HS → SR) : (R.ok a h).bindS ρ f = f a h := rfl
@[simp] theorem R.bindS_ex (a : PX) (h : HS) (ρ : Pn) (f : α → HS → SR) : (R.ex a h).bindS ρ f = .ex a ρ h := rfl
@[simp] theorem R.bindS_no (ρ : Pn) (f : α → HS → SR) : (R.no).bindS ρ f = .no := rfl
@[simp] theorem R.bindS_ite {c : Prop} [Decidable c] (a b : R α) (ρ : Pn) (f : α → HS → SR) : (if c then a else b).bindS ρ f = if c then a.bindS ρ f else b.bindS ρ f := by split <;> rfl
@[simp] theorem R.thenS_ok (a : α) (h : HS) (f : α → HS → SR) : (R.ok a h).thenS f = f a h := rfl
@[simp] theorem R.thenS_ex (a : PX) (h : HS) (f : α → HS → SR) : (R.ex a h).thenS f = .no := rfl
@[simp] theorem R.thenS_no (f : α → HS → SR) : (R.no).thenS f = .no := rfl
@[simp] theorem R.thenS_ite {c : Prop} [Decidable c] (a b : R α) (f : α → HS → SR) : (if c then a else b).thenS f = if c then a.thenS f else b.thenS f := by split <;> rfl
end
@[simp] theorem SR.seq_nx (ρ : Pn) (h : HS) (b : Ms) : (SR.nx ρ h).seq b = b ρ h := rfl
@[simp] theorem SR.seq_rt (v : PV) (h : HS) (b : Ms) : (SR.rt v h).seq b = .rt v h := rfl
@[simp] theorem SR.seq_bk (ρ : Pn) (h : HS) (b : Ms) : (SR.bk ρ h).seq b = .bk ρ h := rfl
@[simp] theorem SR.seq_ct (ρ : Pn) (h : HS) (b : Ms) : (SR.ct ρ h).seq b = .ct ρ h := rfl
@[simp] theorem SR.seq_ex (e : PX) (ρ : Pn) (h : HS) (b : Ms) : (SR.ex e ρ h).seq b = .ex e ρ h := rfl
@[simp] theorem SR.seq_no (b : Ms) : (SR.no).seq b = .no := rfl
@[simp] theorem SR.seq_ite {c : Prop} [Decidable c] (r s : SR) (b : Ms) : (if c then r else s).seq b = if c then r.seq b else s.seq b := by split <;> rfl
@[simp] theorem SR.loop_nx (ρ : Pn) (h : HS) (b : Ms) : (SR.nx ρ h).loop b = b ρ h := rfl
@[simp] theorem SR.loop_rt (v : PV) (h : HS) (b : Ms) : (SR.rt v h).loop b = .rt v h := rfl
@[simp] theorem SR.loop_bk (ρ : Pn) (h : HS) (b : Ms) : (SR.bk ρ h).loop b = .nx ρ h := rfl
@[simp] theorem SR.loop_ct (ρ : Pn) (h : HS) (b : Ms) : (SR.ct ρ h).loop b = b ρ h := rfl
@[simp] theorem SR.loop_ex (e : PX) (ρ : Pn) (h : HS) (b : Ms) : (SR.ex e ρ h).loop b = .ex e ρ h := rfl
@[simp] theorem SR.loop_no (b : Ms) : (SR.no).loop b = .no := rfl
@[simp] theorem SR.loop_ite {c : Prop} [Decidable c] (r s : SR) (b : Ms) : (if c then r else s).loop b = if c then r.loop b else s.loop b := by split <;> rfl
def mSeq (a b : Ms) (ρ : Pn) (h : HS) : SR := (a ρ h).seq b
@[simp] def mSkip (ρ : Pn) (h : HS) : SR := .nx ρ h
def mRet (a : Mi PV) (ρ : Pn) (h : HS) : SR := (a ρ h).bindS ρ fun v h1 => .rt v h1
def mDrop (a : Mi PV) (ρ : Pn) (h : HS) : SR := (a ρ h).bindS ρ fun _ h1 => .nx ρ h1
def mIfS (t : Mi Bool) (a b : Ms) (ρ : Pn) (h : HS) : SR := (t ρ h).bindS ρ fun c h1 => if c = true then a ρ h1 else b ρ h1
@[simp] def mBrk (ρ : Pn) (h : HS) : SR := .bk ρ h
@[simp] def mCnt (ρ : Pn) (h : HS) : SR := .ct ρ h
section
variable {X : Cx} {W : WX} {K : PySem.W.Frag} {mg : Str → Option Value} {m m1 : List Addr} {H H1 : Hp} {σ : St} {D D' : Ends} {h : HS} {ρ : Pn}
theorem OutS.later {r : SR} (o : OutS K mg W m H D r) (l : Le m H m1 H1) : OutS K mg W m1 H1 D r := by
  cases r with
  | nx ρ h' => exact fun m' H' b l' s q => o m' H' b (l.trans l') s q
  | rt ρ h' => exact fun m' H' b l' s q => o m' H' b (l.trans l') s q
  | bk ρ h' => exact fun m' H' b l' s q => o m' H' b (l.trans l') s q
  | ct ρ h' => exact fun m' H' b l' s q => o m' H' b (l.trans l') s q
  | ex e ρ h' => exact fun m' H' b c d l' s q => o m' H' b c d (l.trans l') s q
  | no => exact o
theorem OutS.bind {α β : Type} {rel : Rl α β} {r : R α} {f : α → HS → SR} (rs : RS m H ρ σ) (o : OutS K mg W m H D (r.bindS ρ f)) :
    Out K mg W rel m H σ (fun b H1 => ∃ m1 h1 a, Le m H m1 H1 ∧ Sim K mg m1 h1 H1 ∧ rel m1 H1 a b ∧ OutS K mg W m1 H1 D (f a h1)) r := by
  cases r with
  | ok a h' =>
    have o' : OutS K mg W m H D (f a h') := o
    exact fun m' H' b l s q => ⟨m', h', a, l, s, q, o'.later l⟩
  | ex e h' => exact fun m' H' c d l s q => o m' H' σ c d l s (rs.le l) q
  | no => exact o
variable {st : Stmt} {rest : List Stmt} {f g : Ms} {e c : Expr} {me : Mi PV} {mc : Mi Bool} {pos : Pos}
theorem sm_nil : PSsm X W [] mSkip := wkSs pss_nil fun D σ H ⟨m, ρ, h, s, rs, o⟩ => o m H σ .refl s rs
theorem sm_cons (h1 : PSm X W st f) (h2 : PSsm X W rest g) : PSsm X W (st :: rest) (mSeq f g) :=
  wkSs (pss_cons h1 h2) fun D σ H ⟨m, ρ, h, s, rs, o⟩ => ⟨m, ρ, h, s, rs, by
    have o' : OutS X.K X.mg W m H D (match f ρ h with
      | .nx ρ' h' => g ρ' h'
      | r => r) := o
    cases hf : f ρ h with
    | nx ρ' h' =>
      rw [hf] at o'
      exact fun m' H' σ' l s' rs' => ⟨m', ρ', h', s', rs', OutS.later o' l⟩
    | rt v h' => rw [hf] at o'; exact o'
    | bk ρ' h' => rw [hf] at o'; exact o'
    | ct ρ' h' => rw [hf] at o'; exact o'
    | ex e ρ' h' => rw [hf] at o'; exact o'
    | no => rw [hf] at o'; exact o'⟩
theorem sm_one (h1 : PSm X W st f) : PSsm X W [st] f := pss_one h1
theorem sm_pass : PSm X W (.Pass pos) mSkip := wkS ps_pass fun D σ H ⟨m, ρ, h, s, rs, o⟩ => o m H σ .refl s rs
theorem sm_break : PSm X W (.Break pos) mBrk := wkS ps_break fun D σ H ⟨m, ρ, h, s, rs, o⟩ => o m H σ .refl s rs
theorem sm_cont : PSm X W (.Continue pos) mCnt := wkS ps_continue fun D σ H ⟨m, ρ, h, s, rs, o⟩ => o m H σ .refl s rs
theorem sm_ret (he : PEm X W e me) : PSm X W (.Return (some e) pos) (mRet me) :=
  wkS (ps_ret he) fun D σ H ⟨m, ρ, h, s, rs, o⟩ => ⟨m, ρ, h, s, rs, (OutS.bind rs o).mono fun v H1 ⟨m1, h1, a, l1, s1, r1, o1⟩ => o1 m1 H1 v .refl s1 r1⟩
theorem sm_retN : PSm X W (.Return none pos) (mRet (mC .non)) := wkS ps_retN fun D σ H ⟨m, ρ, h, s, rs, o⟩ => o m H .non .refl s .non
theorem sm_expr (he : PEm X W e me) (hs : swapsWith e none pos.line X.env = pure false := by rfl) : PSm X W (.Expr e pos) (mDrop me) :=
  wkS (ps_expr he hs) fun D σ H ⟨m, ρ, h, s, rs, o⟩ => ⟨m, ρ, h, s, rs, (OutS.bind rs o).mono fun v H1 ⟨m1, h1, a, l1, s1, r1, o1⟩ => o1 m1 H1 σ .refl s1 (rs.le l1)⟩
theorem sm_if {a b : List Stmt} (hc : PTm X W c mc) (ha : PSsm X W a f) (hb : PSsm X W b g) : PSm X W (.If c a b pos) (mIfS mc f g) :=
  wkS (ps_if hc ha hb) fun D σ H ⟨m, ρ, h, s, rs, o⟩ => ⟨m, ρ, h, s, rs, (OutS.bind rs o).mono fun v H1 ⟨m1, h1, a, l1, s1, r1, o1⟩ => by
    cases r1
    cases v with
    | true => exact ⟨m1, ρ, h1, s1, rs.le l1, o1⟩
    | false => exact ⟨m1, ρ, h1, s1, rs.le l1, o1⟩⟩
end
/-! ### targets -/
def OutG (K : PySem.W.Frag) (mg : Str → Option Value) (W : WX) (is : List Nat) (m : List Addr) (H : Hp) (σ : St) (Q : St → Hp → Prop) : R Pn → Prop
  | .ok ρ h => ∀ m' H' σ', Le m H m' H' → Sim K mg m' h H' → RS m' H' ρ σ' → (σ'.length = σ.length ∧ ∀ j, j ∉ is → σ'[j]? = σ[j]?) → Q σ' H'
  | .ex _ _ => False
  | .no => False
abbrev Mg := PV → Pn → HS → R Pn
def tMG (K : PySem.W.Frag) (mg : Str → Option Value) (W : WX) (is : List Nat) (g : Mg) : TG := fun v σ H Q => ∃ m ρ h x, Sim K mg m h H ∧ RS m H ρ σ ∧ RV m H x v ∧ OutG K mg W is m H σ Q (g x ρ h)
abbrev PGm (X : Cx) (W : WX) (is : List Nat) (tg : Expr) (g : Mg) : Prop := PG X tg (tMG X.K X.mg W is g)
def R.thenR {α β : Type} (r : R α) (f : α → HS → R β) : R β := match r with
  | .ok a h => f a h
  | _ => .no
@[simp] theorem R.thenR_ok {α β : Type} (a : α) (h : HS) (f : α → HS → R β) : (R.ok a h).thenR f = f a h := rfl
@[simp] theorem R.thenR_ex {α β : Type} (a : PX) (h : HS) (f : α → HS → R β) : (R.ex a h).thenR f = .no := rfl
@[simp] theorem R.thenR_no {α β : Type} (f : α → HS → R β) : (R.no).thenR f = .no := rfl
@[simp] theorem R.thenR_ite {α β : Type} {c : Prop} [Decidable c] (a b : R α) (f : α → HS → R β) : (if c then a else b).thenR f = if c then a.thenR f else b.thenR f := by split <;> rfl
abbrev Mgs := List PV → Pn → HS → R Pn
def tMGs (K : PySem.W.Frag) (mg : Str → Option Value) (W : WX) (is : List Nat) (g : Mgs) : TGs := fun v σ H Q => ∃ m ρ h x, Sim K mg m h H ∧ RS m H ρ σ ∧ RVs m H x v ∧ OutG K mg W is m H σ Q (g x ρ h)
abbrev PGsm (X : Cx) (W : WX) (is : List Nat) (tg : List Expr) (g : Mgs) : Prop := PGs X tg (tMGs X.K X.mg W is g)
@[simp] def gNm (i : Nat) (v : PV) (ρ : Pn) (h : HS) : R Pn := .ok (ρ.set i (some v)) h
@[simp] def gN0 (vs : List PV) (ρ : Pn) (h : HS) : R Pn := match vs with
  | [] => .ok ρ h
  | _ => .no
def gC (g : Mg) (gs : Mgs) (vs : List PV) (ρ : Pn) (h : HS) : R Pn := match vs with
  | [] => .no
  | v :: r => (g v ρ h).thenR fun ρ' h' => gs r ρ' h'
@[simp] def gTp (n : Nat) (gs : Mgs) (v : PV) (ρ : Pn) (h : HS) : R Pn := match seqOf h v with
  | some xs => if xs.length = n then gs xs ρ h else .no
  | none => .no
section
variable {X : Cx} {W : WX} {K : PySem.W.Frag} {mg : Str → Option Value} {m m1 : List Addr} {H H1 : Hp} {σ : St} {h : HS} {ρ : Pn} {is js : List Nat} {pos : Pos} {Q : St → Hp → Prop}
theorem OutG.later {r : R Pn} (o : OutG K mg W is m H σ Q r) (l : Le m H m1 H1) : OutG K mg W is m1 H1 σ Q r := by
  cases r with
  | ok ρ h' => exact fun m' H' b l' s q => o m' H' b (l.trans l') s q
  | ex e h' => exact o
  | no => exact o
theorem wkG {tg : Expr} {t t' : TG} (h : PG X tg t) (k : ∀ v σ H Q, t' v σ H Q → t v σ H Q) : PG X tg t' := ⟨fun pins s σ H v u Q I r q => h.run pins s σ H v u Q I r (k v σ H Q q)⟩
theorem wkGs {tg : List Expr} {t t' : TGs} (h : PGs X tg t) (k : ∀ v σ H Q, t' v σ H Q → t v σ H Q) : PGs X tg t' := ⟨fun pins s σ H v u Q I r q => h.run pins s σ H v u Q I r (k v σ H Q q)⟩
theorem PG.or {tg : Expr} {t t' : TG} (h : PG X tg t) (h' : PG X tg t') : PG X tg (fun v σ H Q => t v σ H Q ∨ t' v σ H Q) := ⟨fun pins s σ H v u Q I r q => q.elim (h.run pins s σ H v u Q I r) (h'.run pins s σ H v u Q I r)⟩
theorem gm_name {i : Nat} {x : Str} (hN : X.N.Nodup) (hi : X.N[i]? = some x := by rfl) (hx : Loc X.env.scope x := by first | exact Or.inl rfl | exact Or.inr rfl) (hf : X.fn x = true ∨ X.env.scope.names.lookup x = some .local := by first | exact .inl rfl | exact .inr rfl | assumption) : PGm X W [i] (.Name x pos) (gNm i) :=
  wkG (pg_name hN hi hx hf) fun v σ H Q ⟨m, ρ, h, x, s, rs, r, o⟩ => o m H _ .refl s (rs.set (.val r) i) ⟨by simp, fun j hj => by rw [List.getElem?_set_ne fun z => hj (by simp [z])]⟩
theorem gm_nil : PGsm X W [] [] gN0 := wkGs pgs_nil fun v σ H Q ⟨m, ρ, h, x, s, rs, r, o⟩ => by
  unfold gN0 at o
  split at o
  · cases r
    exact ⟨rfl, o m H σ .refl s rs ⟨rfl, fun _ _ => rfl⟩⟩
  · exact o.elim
theorem gm_cons {t : Expr} {ts : List Expr} {g : Mg} {gs : Mgs} (h1 : PGm X W is t g) (h2 : PGsm X W js ts gs) (hs : (assignEach (t :: ts) X.env).map (·.2) = assign t X.env :: (assignEach ts X.env).map (·.2) := by rfl) : PGsm X W (is ++ js) (t :: ts) (gC g gs) :=
  wkGs (pgs_cons h1 h2 hs) fun v σ H Q ⟨m, ρ, h, x, s, rs, r, o⟩ => by
    cases r with
    | nil => exact o.elim
    | cons r t =>
      refine ⟨_, _, rfl, m, ρ, h, _, s, rs, r, ?_⟩
      simp only [gC] at o
      cases e : g _ ρ h with
      | ok ρ' h' =>
        rw [e] at o
        simp only [R.thenR_ok] at o
        refine fun m' H' σ' l' s' rs' q' => ⟨m', ρ', h', _, s', rs', t.le l', ?_⟩
        have o' := o.later l'
        generalize gs _ ρ' h' = rr at o' ⊢
        cases rr with
        | ok ρ2 h2 => exact fun m2 H2 σ2 l2 s2 rs2 q2 => o' m2 H2 σ2 l2 s2 rs2 ⟨q2.1.trans q'.1, fun j hj => (q2.2 j fun z => hj (List.mem_append_right _ z)).trans (q'.2 j fun z => hj (List.mem_append_left _ z))⟩
        | ex e h2 => exact o'
        | no => exact o'
      | ex _ _ => rw [e] at o; exact o.elim
      | no => rw [e] at o; exact o.elim
theorem gm_tup {es : List Expr} {k : Nat} {gs : Mgs} {n : Nat} (h : PGsm X W is es gs) (hc : X.calm = true := by rfl) (hn : (assignEach es X.env).length = n := by rfl) (hst : (assignEach es X.env).findIdx? (·.1) = none := by rfl) : PGm X W is (.Tuple es k pos) (gTp n gs) :=
  wkG (PG.or (pg_tup hc h hn hst) (pg_lst hc h hn hst)) fun v σ H Q ⟨m, ρ, h, x, s, rs, r, o⟩ => by
    unfold gTp at o
    split at o
    · rename_i xs e
      split at o
      · rename_i hl
        obtain ⟨a, ys, rfl, q, rr⟩ := seqOf_at s r e
        rcases q with q | q
        · exact .inr ⟨a, ys, rfl, q, by rw [← rr.length]; exact hl, m, ρ, h, xs, s, rs, rr, o⟩
        · exact .inl ⟨a, ys, rfl, q, by rw [← rr.length]; exact hl, m, ρ, h, xs, s, rs, rr, o⟩
      · exact o.elim
    · exact o.elim
/-- o[i] = v -/
@[simp] def setV (x y v : PV) (h : HS) : Option HS := match x with
  | .ref n => match h[n]?, y with
    | some (.lst xs), .int k => (ixN xs.length k).map fun j => h.set n (.lst (xs.set j v))
    | some (.dic kvs), y => match keyOf y with
      | some k => if kvs.length < 16777216 then some (h.set n (.dic (putP kvs k v))) else none
      | none => none
    | _, _ => none
  | _ => none
theorem PSet.or {t t' : TSet} (h : PSet X t) (h' : PSet X t') : PSet X (fun o i v H Q => t o i v H Q ∨ t' o i v H Q) := fun pins s σ H o i v ov iv u Q I ro ri rv q => q.elim (h pins s σ H o i v ov iv u Q I ro ri rv) (h' pins s σ H o i v ov iv u Q I ro ri rv)
theorem put_at {K : PySem.W.Frag} {mg : Str → Option Value} {m : List Addr} {h : HS} {H : Hp} (s : Sim K mg m h H) {n : Nat} {a : Addr} {q o : HB} (e : h[n]? = some o) (ea : m[n]? = some a) (x : HO) (r : RO K mg m (upd H a x) a q) : Sim K mg m (h.set n q) (upd H a x) ∧ Le m H m (upd H a x) := by
  obtain ⟨u, e1, mu⟩ := (s.obj n o a e ea).some
  exact ⟨s.put e ea r, le_put ea e1 mu⟩
theorem setV_out {x y v : PV} {xv yv vv : V} {h' : HS} (s : Sim X.K X.mg m h H) (rx : RV m H x xv) (ry : RV m H y yv) (rv : RV m H v vv) (e : setV x y v h = some h') {Q : Hp → Prop} (o : ∀ H', Le m H m H' → Sim X.K X.mg m h' H' → Q H') : rSetL xv yv vv H Q ∨ rSetD xv yv vv H Q := by
  unfold setV at e
  split at e
  · cases rx with
    | ref h1 =>
      split at e
      · rename_i xs k e1
        cases ry
        obtain ⟨j, ej, rfl⟩ := Option.map_eq_some_iff.mp e
        obtain ⟨ys, g, r⟩ := s.obj _ _ _ e1 h1
        have l : Le m H m (upd H _ (.lst (ys.set j vv))) := le_put h1 g trivial
        exact .inl ⟨_, ys, k, j, rfl, rfl, g, by rw [← r.length]; exact ej, o _ l (s.put e1 h1 ⟨_, upd_same, (r.set rv j).le l⟩)⟩
      · rename_i kvs y' e1
        split at e
        · rename_i k ek
          split at e
          · rename_i hl
            cases e
            obtain ⟨vs, g, r⟩ := s.obj _ _ _ e1 h1
            have ey := keyOf_at ry ek
            subst ey
            have l : Le m H m (upd H _ (.dK (putK vs k vv))) := le_put h1 g trivial
            exact .inr ⟨_, _, rfl, DPut.k g (by rw [line16, ← r.length]; exact hl), o _ l (s.put e1 h1 ⟨_, upd_same, (r.put k rv).le l⟩)⟩
          · cases e
        · cases e
      · cases e
  · cases e
def gSb (a b : Mi PV) (v : PV) (ρ : Pn) (h : HS) : R Pn := (a ρ h).thenR fun x h1 => (b ρ h1).thenR fun y h2 => match setV x y v h2 with
  | some h3 => .ok ρ h3
  | none => .no
theorem gm_sub {o i : Expr} {ma mb : Mi PV} (hu : X.A.units + 1 < cLine) (ho : PEm X W o ma) (hi : PEm X W i mb)
    (ha : ∀ v, assign (.Subscript o i pos) X.env v = (do
      let ov ← holding [v] (eval o X.env)
      let iv ← holding [v, ov] (eval i X.env)
      standAt pos
      holding [v, ov, iv] (setItem ov iv v)
      release [v, ov, iv] []) := by intro _; rfl) : PGm X W [] (.Subscript o i pos) (gSb ma mb) :=
  wkG (pg_sub ho hi (PSet.or set_list (set_dict hu)) ha) fun v σ H Q ⟨m, ρ, h, x, s, rs, r, o⟩ => by
    unfold gSb at o
    refine ⟨m, ρ, h, s, rs, ?_⟩
    cases e1 : ma ρ h with
    | ok x1 h1 =>
      rw [e1] at o
      refine fun m1 H1 v1 l1 s1 r1 => ⟨m1, ρ, h1, s1, rs.le l1, ?_⟩
      simp only [R.thenR_ok] at o
      cases e2 : mb ρ h1 with
      | ok y1 h2 =>
        rw [e2] at o
        refine fun m2 H2 v2 l2 s2 r2 => ?_
        simp only [R.thenR_ok] at o
        split at o
        · rename_i h3 e3
          exact setV_out s2 (r1.le l2) r2 ((r.le l1).le l2) e3 fun H' l3 s3 => o m2 H' σ ((l1.trans l2).trans l3) s3 ((rs.le (l1.trans l2)).le l3) ⟨rfl, fun _ _ => rfl⟩
        · exact o.elim
      | ex _ _ => rw [e2] at o; exact o.elim
      | no => rw [e2] at o; exact o.elim
    | ex _ _ => rw [e1] at o; exact o.elim
    | no => rw [e1] at o; exact o.elim
/-! ### assignments -/
def mAsg (a : Mi PV) (g : Mg) (ρ : Pn) (h : HS) : SR := (a ρ h).bindS ρ fun v h1 => (g v ρ h1).thenS .nx
variable {e tg : Expr} {me : Mi PV} {g : Mg}
theorem asg_out {D : Ends} {v : PV} {w : V} (s : Sim K mg m h H) (rs : RS m H ρ σ) (r : RV m H v w) (o : OutS K mg W m H D ((g v ρ h).thenS .nx)) : tMG K mg W is g w σ H D.nx := by
  refine ⟨m, ρ, h, v, s, rs, r, ?_⟩
  cases e2 : g v ρ h with
  | ok ρ2 h2 =>
    rw [e2] at o
    exact fun m' H' σ' l s' rs' _ => o m' H' σ' l s' rs'
  | ex _ _ => rw [e2] at o; exact o.elim
  | no => rw [e2] at o; exact o.elim
theorem sm_asg (he : PEm X W e me) (hg : PGm X W is tg g) (hs : swapsWithSole [tg] e pos.line X.env = pure false := by rfl) (hw : swappedStores [tg] e X.env = pure none := by rfl)
    (h1 : (assignEach [tg] X.env).map (·.2) = [assign tg X.env] := by rfl) : PSm X W (.Assign [tg] e pos) (mAsg me g) :=
  wkS (ps_asg he hg hs hw h1) fun D σ H ⟨m, ρ, h, s, rs, o⟩ => ⟨m, ρ, h, s, rs, (OutS.bind rs o).mono fun v H1 ⟨m1, h1, a, l1, s1, r1, o1⟩ => asg_out s1 (rs.le l1) r1 o1⟩
theorem sm_set {i : Nat} {x : Str} {p : Pos} (hN : X.N.Nodup) (he : PEm X W e me) (hi : X.N[i]? = some x := by rfl) (hx : Loc X.env.scope x := by first | exact Or.inl rfl | exact Or.inr rfl) (hs : swapsWith e (some (.Name x p)) pos.line X.env = pure false := by rfl) (hf : X.fn x = true ∨ X.env.scope.names.lookup x = some .local := by first | exact .inl rfl | exact .inr rfl | assumption) : PSm X W (.Assign [.Name x p] e pos) (mAsg me (gNm i)) :=
  wkS (ps_set hN hi hx he hs hf) fun D σ H ⟨m, ρ, h, s, rs, o⟩ => ⟨m, ρ, h, s, rs, (OutS.bind rs o).mono fun v H1 ⟨m1, h1, a, l1, s1, r1, o1⟩ => by
    have o2 : OutS X.K X.mg W m1 H1 D (.nx (ρ.set i (some a)) h1) := o1
    exact o2 m1 H1 _ .refl s1 ((rs.le l1).set (.val r1) i)⟩
end
end Lt
namespace Lt
open PySem PySem.Spec PyProof.Rows L2
/-! ### what is walked -/
structure Src where
  items : List PV
  guard : HS → Prop
def RI (K : PySem.W.Frag) (mg : Str → Option Value) : Rl Src It := fun m H src J => ∀ (i : Nat) (m1 : List Addr) (h1 : HS) (H1 : Hp), Le m H m1 H1 → Sim K mg m1 h1 H1 → src.guard h1 →
  (∀ x, src.items[i]? = some x → J.go i H1 ∧ ∀ v H', J.yld i H1 v H' → Le m1 H1 m1 H' ∧ Sim K mg m1 h1 H' ∧ RV m1 H' x v) ∧ (src.items.length ≤ i → J.stop i H1)
abbrev PIm (X : Cx) (W : WX) (tg e : Expr) (f : Mi Src) : Prop := PI X tg e (tG X.K X.mg W (RI X.K X.mg) f)
open Classical in
noncomputable def forGo (guard : HS → Prop) (g : Mg) (b : Ms) : List PV → Ms
  | [], ρ, h => if guard h then .nx ρ h else .no
  | x :: xs, ρ, h => if guard h then ((g x ρ h).thenS fun ρ1 h1 => (b ρ1 h1).loop (forGo guard g b xs)) else .no
theorem forGo_nil {guard : HS → Prop} {g : Mg} {b : Ms} {ρ : Pn} {h : HS} (hg : guard h) : forGo guard g b [] ρ h = .nx ρ h := by
  unfold forGo
  rw [if_pos hg]
theorem forGo_cons {guard : HS → Prop} {g : Mg} {b : Ms} {x : PV} {xs : List PV} {ρ : Pn} {h : HS} (hg : guard h) : forGo guard g b (x :: xs) ρ h = (g x ρ h).thenS fun ρ1 h1 => (b ρ1 h1).loop (forGo guard g b xs) := by
  conv => lhs; unfold forGo
  rw [if_pos hg]
noncomputable def mFor (it : Mi Src) (g : Mg) (b : Ms) (ρ : Pn) (h : HS) : SR := (it ρ h).bindS ρ fun src h1 => forGo src.guard g b src.items ρ h1
section
variable {X : Cx} {W : WX} {m : List Addr} {H : Hp} {σ : St} {h : HS} {ρ : Pn} {is : List Nat} {pos : Pos} {tg e : Expr} {me : Mi PV} {mi : Mi Src} {g : Mg} {b : Ms} {body : List Stmt}
theorem sm_for (hp : PassesOwn (model X.prog X.w) X.A X.env X.xe) (hi : PIm X W tg e mi) (hg : PGm X W is tg g) (hb : PSsm X W body b) (hc : X.calm = true := by rfl)
    (hs : ∀ x, foldedSetIterable e X.env x = pure x := by intro _; rfl) : PSm X W (.For tg e body [] pos) (mFor mi g b) := by
  refine wkS (ps_for hp hc hi hg hb hs) fun D σ H ⟨m, ρ, h, s, rs, o⟩ => ⟨m, ρ, h, s, rs, (OutS.bind rs o).mono fun J H1 ⟨m1, h1, src, l1, s1, r1, o1⟩ => ?_⟩
  refine ⟨fun i k σ2 H2 => k = src.items.length - i ∧ i ≤ src.items.length ∧ ∃ m2 ρ2 h2, Le m1 H1 m2 H2 ∧ Sim X.K X.mg m2 h2 H2 ∧ RS m2 H2 ρ2 σ2 ∧ OutS X.K X.mg W m2 H2 D (forGo src.guard g b (src.items.drop i) ρ2 h2),
    ⟨src.items.length, rfl, Nat.zero_le _, m1, ρ, h1, .refl, s1, rs.le l1, o1⟩, ?_⟩
  rintro i k σ2 H2 ⟨rfl, hle, m2, ρ2, h2, l2, s2, rs2, o2⟩
  by_cases hlt : i < src.items.length
  · rw [List.drop_eq_getElem_cons hlt] at o2
    unfold forGo at o2
    split at o2
    · rename_i hg2
      obtain ⟨f1, _⟩ := r1 i m2 h2 H2 l2 s2 hg2
      obtain ⟨go, yl⟩ := f1 _ (List.getElem?_eq_getElem hlt)
      refine .inr ⟨go, fun σ3 H3 => ∃ m3 ρ3 h3, Le m2 H2 m3 H3 ∧ Sim X.K X.mg m3 h3 H3 ∧ RS m3 H3 ρ3 σ3 ∧ OutS X.K X.mg W m3 H3 D (forGo src.guard g b (src.items.drop (i + 1)) ρ3 h3), fun σ3 H3 ⟨m3, ρ3, h3, l3, s3, rs3, o3⟩ => ⟨src.items.length - (i + 1), by omega, rfl, hlt, m3, ρ3, h3, l2.trans l3, s3, rs3, o3⟩, fun v H' y => ?_⟩
      obtain ⟨l3, s3, r3⟩ := yl v H' y
      refine ⟨m2, ρ2, h2, _, s3, rs2.le l3, r3, ?_⟩
      cases e4 : g src.items[i] ρ2 h2 with
      | ok ρ4 h4 =>
        rw [e4] at o2
        refine fun m4 H4 σ4 l4 s4 rs4 _ => ⟨m4, ρ4, h4, s4, rs4, ?_⟩
        simp only [R.thenS_ok] at o2
        have o5 := o2.later (l3.trans l4)
        cases hb4 : b ρ4 h4 with
        | nx ρ5 h5 =>
          rw [hb4] at o5
          exact fun m5 H5 σ5 l5 s5 rs5 => ⟨m5, ρ5, h5, (l3.trans l4).trans l5, s5, rs5, OutS.later o5 l5⟩
        | ct ρ5 h5 =>
          rw [hb4] at o5
          exact fun m5 H5 σ5 l5 s5 rs5 => ⟨m5, ρ5, h5, (l3.trans l4).trans l5, s5, rs5, OutS.later o5 l5⟩
        | bk ρ5 h5 => rw [hb4] at o5; exact o5
        | rt v5 h5 => rw [hb4] at o5; exact o5
        | ex e5 ρ5 h5 => rw [hb4] at o5; exact o5
        | no => rw [hb4] at o5; exact o5
      | ex _ _ => rw [e4] at o2; exact o2.elim
      | no => rw [e4] at o2; exact o2.elim
    · exact o2.elim
  · have hi : i = src.items.length := by omega
    subst hi
    rw [List.drop_length] at o2
    unfold forGo at o2
    split at o2
    · rename_i hg2
      obtain ⟨_, f2⟩ := r1 _ m2 h2 H2 l2 s2 hg2
      exact .inl ⟨f2 (Nat.le_refl _), o2 m2 H2 σ2 .refl s2 rs2⟩
    · exact o2.elim
/-! ### a list, a tuple -/
@[simp] def srcOf (x : PV) (h : HS) : R Src := match seqOf h x with
  | some xs => .ok ⟨xs, fun h' => seqOf h' x = some xs⟩ h
  | none => .no
theorem im_seq (he : PEm X W e me) : PIm X W tg e (m1 srcOf me) :=
  wkI (PI.or (pi_list he) (pi_tup he)) fun σ H R ⟨m, ρ, h, s, rs, o⟩ => by
    have key : ∀ (I : Addr → It) (P : Addr → Hp → Prop), (∀ m1 h1 H1 v xs av, Le m H m1 H1 → Sim X.K X.mg m1 h1 H1 → RV m1 H1 av v → me ρ h = .ok av h1 → seqOf h1 av = some xs → ∃ a, v = .ref a ∧ P a H1 ∧ RI X.K X.mg m1 H1 ⟨xs, fun h' => seqOf h' av = some xs⟩ (I a)) →
        tG X.K X.mg W RV me σ H fun x H1 => ∃ a, x = .ref a ∧ P a H1 ∧ R (I a) H1 := fun I P k => by
      refine ⟨m, ρ, h, s, rs, ?_⟩
      have o' : Out X.K X.mg W (RI X.K X.mg) m H σ R ((me ρ h).bind srcOf) := o
      cases hm : me ρ h with
      | no => rw [hm] at o'; exact o'
      | ex e' h' => rw [hm] at o'; exact o'
      | ok av h1 =>
        rw [hm] at o'
        intro m1 H1 v l1 s1 r1
        have o2 : Out X.K X.mg W (RI X.K X.mg) m H σ R (srcOf av h1) := o'
        unfold srcOf at o2
        split at o2
        · rename_i xs e1
          obtain ⟨a, ea, p, ri⟩ := k m1 h1 H1 v xs av l1 s1 r1 hm e1
          exact ⟨a, ea, p, o2 m1 H1 _ l1 s1 ri⟩
        · exact o2.elim
    cases hm : me ρ h with
    | no =>
      refine .inl (key (Itl X.K) (fun a H1 => ∃ xs, SqL X.K H1 a xs) fun m1 h1 H1 v xs av l1 s1 r1 e1 e2 => ?_)
      rw [hm] at e1; cases e1
    | ex e' h' =>
      refine .inl (key (Itl X.K) (fun a H1 => ∃ xs, SqL X.K H1 a xs) fun m1 h1 H1 v xs av l1 s1 r1 e1 e2 => ?_)
      rw [hm] at e1; cases e1
    | ok av0 h0 =>
      cases av0 with
      | tup ys =>
        refine .inr (key (Itt X.K) (fun a H1 => ∃ xs, SqT X.K H1 a xs) fun m1 h1 H1 v xs av l1 s1 r1 e1 e2 => ?_)
        rw [hm] at e1; cases e1
        cases r1 with
        | tup g1 rr =>
          simp only [seqOf, Option.some.injEq] at e2
          subst e2
          refine ⟨_, rfl, ⟨_, SqT.of g1⟩, fun i m2 h2 H2 l2 s2 gd => ⟨fun x hx => ?_, fun hl => ⟨_, SqT.of (l2.tup _ _ g1), by rw [← rr.length]; exact hl⟩⟩⟩
          obtain ⟨w, ew, rw'⟩ := rr.get hx
          refine ⟨⟨_, w, SqT.of (l2.tup _ _ g1), ew⟩, fun u H' ⟨eH, yl⟩ => ?_⟩
          subst eH
          have := yl _ (SqT.of (l2.tup _ _ g1))
          rw [ew] at this
          cases this
          exact ⟨.refl, s2, rw'.le l2⟩
      | ref n =>
        refine .inl (key (Itl X.K) (fun a H1 => ∃ xs, SqL X.K H1 a xs) fun m1 h1 H1 v xs av l1 s1 r1 e1 e2 => ?_)
        rw [hm] at e1; cases e1
        cases r1 with
        | ref g1 =>
          obtain ⟨ys, q, rr⟩ := refOf_at s1 g1 e2
          refine ⟨_, rfl, ⟨ys, q⟩, fun i m2 h2 H2 l2 s2 gd => ?_⟩
          obtain ⟨zs, q2, rr2⟩ := refOf_at s2 (l2.get g1) gd
          refine ⟨fun x hx => ?_, fun hl => ⟨zs, q2, by rw [← rr2.length]; exact hl⟩⟩
          obtain ⟨w, ew, rw'⟩ := rr2.get hx
          refine ⟨⟨_, w, q2, ew⟩, fun u H' ⟨eH, yl⟩ => ?_⟩
          subst eH
          have := yl _ q2
          rw [ew] at this
          cases this
          exact ⟨.refl, s2, rw'⟩
      | _ =>
        refine .inl (key (Itl X.K) (fun a H1 => ∃ xs, SqL X.K H1 a xs) fun m1 h1 H1 v xs av l1 s1 r1 e1 e2 => ?_)
        rw [hm] at e1
        cases e1
        simp only [seqOf] at e2
        cases e2
/-! ### range -/
def rngP (lo : Int) (n : Nat) : List PV := (List.range n).map fun (k : Nat) => PV.int (lo + (k : Int))
theorem ri_rng {K : PySem.W.Frag} {mg : Str → Option Value} {lo : Int} {n : Nat} : RI K mg m H ⟨rngP lo n, fun _ => True⟩ (Itr lo n) := fun i m2 h2 H2 l2 s2 gd => by
  refine ⟨fun x hx => ?_, fun hl => ?_⟩
  · have hlen : i < n := by
      have := (List.getElem?_eq_some_iff.mp hx).1
      simpa [rngP] using this
    refine ⟨hlen, fun v H' ⟨eH, ev⟩ => ?_⟩
    subst eH ev
    have : x = PV.int (lo + (i : Int)) := by
      simp only [rngP, List.getElem?_map, List.getElem?_range hlen, Option.map_some, Option.some.injEq] at hx
      exact hx.symm
    subst this
    exact ⟨.refl, s2, .int _⟩
  · show n ≤ i
    simpa [rngP] using hl
@[simp] def rng1 : List PV → HS → R Src
  | [.int j], h => if j < 2 ^ 62 ∧ -(2 ^ 62) ≤ j then .ok ⟨rngP 0 j.toNat, fun _ => True⟩ h else .no
  | _, _ => .no
@[simp] def rng2 : List PV → HS → R Src
  | [.int i, .int j], h => if -(2 ^ 62) ≤ i ∧ i < 2 ^ 62 ∧ -(2 ^ 62) ≤ j ∧ j < 2 ^ 62 then .ok ⟨rngP i (j - i).toNat, fun _ => True⟩ h else .no
  | _, _ => .no
theorem im_range1 {a : Expr} {ma : Mi (List PV)} {p : Pos} (hm : X.mg "range" = none) (ha : PAm X W [a] ma) (hg : Gl X "range" := by rfl) (hs : starEach [a] X.env = [(false, eval a X.env)] := by rfl) : PIm X W tg (.Call (.Name "range" p) [a] [] pos) (m1 rng1 ma) :=
  wkI (pi_range1 hg hm ha hs) fun σ H R ⟨m, ρ, h, s, rs, o⟩ => ⟨m, ρ, h, s, rs, o.bind.mono fun x H1 ⟨m1, h1, av, l1, s1, r1, o1⟩ => by
    unfold rng1 at o1
    split at o1
    · split at o1
      · rename_i hl
        obtain ⟨v, rfl, r⟩ := r1.one
        cases r
        exact ⟨_, rfl, hl.2, hl.1, o1 m1 H1 _ .refl s1 ri_rng⟩
      · exact o1.elim
    · exact o1.elim⟩
theorem im_range2 {a c : Expr} {ma : Mi (List PV)} {p : Pos} (hm : X.mg "range" = none) (ha : PAm X W [a, c] ma) (hg : Gl X "range" := by rfl) (hs : starEach [a, c] X.env = [(false, eval a X.env), (false, eval c X.env)] := by rfl) (hs2 : starEach [c] X.env = [(false, eval c X.env)] := by rfl) : PIm X W tg (.Call (.Name "range" p) [a, c] [] pos) (m1 rng2 ma) :=
  wkI (pi_range2 hg hm ha hs hs2) fun σ H R ⟨m, ρ, h, s, rs, o⟩ => ⟨m, ρ, h, s, rs, o.bind.mono fun x H1 ⟨m1, h1, av, l1, s1, r1, o1⟩ => by
    unfold rng2 at o1
    split at o1
    · split at o1
      · rename_i hl
        obtain ⟨v, w, rfl, r, r'⟩ := r1.two
        cases r
        cases r'
        exact ⟨_, _, rfl, hl, o1 m1 H1 _ .refl s1 ri_rng⟩
      · exact o1.elim
    · exact o1.elim⟩
end
end Lt
namespace Lt
open PySem PySem.Spec PyProof.Rows L2
abbrev WN : WX := fun _ _ _ _ => False
open Classical in
noncomputable def lcGo (guard : HS → Prop) (g : Mg) (t : Mi Bool) (e : Mi PV) (ρ : Pn) : List PV → HS → Option (List PV × HS)
  | [], h => if guard h then some ([], h) else none
  | x :: xs, h => if guard h then ((g x ρ h).thenO fun ρ1 h1 => (t ρ1 h1).thenO fun c h2 => if c = true then ((e ρ1 h2).thenO fun v h3 => (lcGo guard g t e ρ xs h3).map fun r => (v :: r.1, r.2)) else lcGo guard g t e ρ xs h2) else none
theorem lcGo_nil {guard : HS → Prop} {g : Mg} {t : Mi Bool} {e : Mi PV} {ρ : Pn} {h : HS} (hg : guard h) : lcGo guard g t e ρ [] h = some ([], h) := by
  unfold lcGo
  rw [if_pos hg]
theorem lcGo_cons {guard : HS → Prop} {g : Mg} {t : Mi Bool} {e : Mi PV} {ρ : Pn} {x : PV} {xs : List PV} {h : HS} (hg : guard h) : lcGo guard g t e ρ (x :: xs) h = (g x ρ h).thenO fun ρ1 h1 => (t ρ1 h1).thenO fun c h2 => if c = true then ((e ρ1 h2).thenO fun v h3 => (lcGo guard g t e ρ xs h3).map fun r => (v :: r.1, r.2)) else lcGo guard g t e ρ xs h2 := by
  conv => lhs; unfold lcGo
  rw [if_pos hg]
/-- the list at the end -/
def lcEnd (r : Option (List PV × HS)) : R PV := match r with
  | some (vs, h2) => dLst vs h2
  | none => .no
@[simp] theorem lcEnd_some (vs : List PV) (h : HS) : lcEnd (some (vs, h)) = dLst vs h := rfl
noncomputable def mLc (it : Mi Src) (is : List Nat) (g : Mg) (t : Mi Bool) (e : Mi PV) (ρ : Pn) (h : HS) : R PV := (it ρ h).bind fun src h1 => lcEnd (lcGo src.guard g t e (wipeP ρ is) src.items h1)
section
variable {K : PySem.W.Frag} {mg : Str → Option Value} {m : List Addr} {h : HS} {H : Hp} {D : Addr}
theorem Sim.adopt (s : Sim K mg m h H) (nD : D ∉ m) {o : HB} (r : RO K mg (m ++ [D]) H D o) : Sim K mg (m ++ [D]) (h ++ [o]) H := by
  have hl := s.len
  have old : ∀ {i : Nat} {q : HB} {c : Addr}, (h ++ [o])[i]? = some q → (m ++ [D])[i]? = some c → (h[i]? = some q ∧ m[i]? = some c) ∨ (i = h.length ∧ q = o ∧ c = D) := fun {i q c} e1 e2 => by
    by_cases hi : i < h.length
    · rw [List.getElem?_append_left hi] at e1
      rw [List.getElem?_append_left (by omega)] at e2
      exact .inl ⟨e1, e2⟩
    · have h1 : i = h.length := by
        have := (List.getElem?_eq_some_iff.mp e1).1
        simp only [List.length_append, List.length_cons, List.length_nil] at this
        omega
      subst h1
      rw [List.getElem?_append_right (Nat.le_refl _), Nat.sub_self] at e1
      rw [List.getElem?_append_right (by omega), hl, Nat.sub_self] at e2
      exact .inr ⟨rfl, (Option.some.inj e1).symm, (Option.some.inj e2).symm⟩
  have up : ∀ {i : Nat} {c : Addr}, m[i]? = some c → (m ++ [D])[i]? = some c := fun {i c} e => by
    rw [List.getElem?_append_left (List.getElem?_eq_some_iff.mp e).1]
    exact e
  refine ⟨by simp [hl], fun i q c e1 e2 => ?_, fun i j c oi oj e1 e2 e3 e4 => ?_⟩
  · rcases old e1 e2 with ⟨h1, h2⟩ | ⟨rfl, rfl, rfl⟩
    · exact (s.obj i q c h1 h2).lo ⟨fun e => up e, fun _ _ z => z⟩ fun _ z => z
    · exact r
  · rcases old e1 e3 with ⟨h1, h2⟩ | ⟨z1, _, z2⟩
    · rcases old e2 e4 with ⟨h3, h4⟩ | ⟨_, _, z4⟩
      · exact s.inj i j c oi oj h1 h3 h2 h4
      · exact absurd (by rw [← z4]; exact List.mem_of_getElem? h2) nD
    · rcases old e2 e4 with ⟨h3, h4⟩ | ⟨z3, _, z4⟩
      · exact absurd (by rw [← z2]; exact List.mem_of_getElem? h4) nD
      · rw [z1, z3]
/-- what isn't known is written -/
theorem Sim.own (s : Sim K mg m h H) (nD : D ∉ m) {u : HO} (hD : H D = some u) (nt : ∀ xs, u ≠ .tup xs) (x : HO) : Sim K mg m h (upd H D x) :=
  ⟨s.len, fun i q c e1 e2 => (s.obj i q c e1 e2).lo ⟨fun e => e, fun a xs e => by
    rw [upd_ne fun z => ?_]
    · exact e
    · subst z; rw [hD] at e; cases e; exact nt xs rfl⟩ fun v e => by
    rw [upd_ne fun z => ?_]
    · exact e
    · subst z; exact nD (List.mem_of_getElem? e2), s.inj⟩
end
theorem wipe_get (σ : St) : ∀ (vs : List Nat) (j : Nat), (L2.wipe σ vs)[j]? = if j ∈ vs ∧ j < σ.length then some none else σ[j]?
  | [], j => by simp [L2.wipe]
  | v :: vs, j => by
    unfold L2.wipe
    have ih := wipe_get σ vs j
    have hl := wipe_length σ vs
    by_cases e : v = j
    · subst e
      by_cases hv : v < σ.length
      · rw [List.getElem?_set_self (by omega)]
        simp [hv]
      · rw [List.getElem?_eq_none (by simp; omega)]
        simp [hv]
    · rw [List.getElem?_set_ne e, ih]
      have : (j ∈ v :: vs) ↔ j ∈ vs := by simp [Ne.symm e]
      simp only [this]
theorem wipe_same {σ σ' : St} {vs : List Nat} (hl : σ'.length = (L2.wipe σ vs).length) (hj : ∀ j, j ∉ vs → σ'[j]? = (L2.wipe σ vs)[j]?) : L2.wipe σ' vs = L2.wipe σ vs := by
  apply List.ext_getElem?
  intro j
  rw [wipe_length] at hl
  rw [wipe_get, wipe_get, hl]
  by_cases h : j ∈ vs ∧ j < σ.length
  · simp [h]
  · rw [if_neg h, if_neg h]
    by_cases hm : j ∈ vs
    · have : ¬ j < σ.length := fun z => h ⟨hm, z⟩
      rw [List.getElem?_eq_none (by omega), List.getElem?_eq_none (by omega)]
    · rw [hj j hm, wipe_get, if_neg h]
abbrev PTsm (X : Cx) (W : WX) (ifs : List Expr) (f : Mi Bool) : Prop := PTs X ifs (tG X.K X.mg W RB f)
@[simp] def mYes (_ρ : Pn) (h : HS) : R Bool := .ok true h
section
variable {X : Cx} {W : WX} {pos : Pos}
theorem wkTs {e : List Expr} {t t' : TT} (h : PTs X e t) (k : ∀ σ H Q, t' σ H Q → t σ H Q) : PTs X e t' := ⟨fun pins s σ H Q I q => h.run pins s σ H Q I (k σ H Q q)⟩
theorem tsm_nil : PTsm X W [] mYes := wkTs pts_nil fun σ H Q ⟨m, ρ, h, s, rs, o⟩ => o m H true .refl s rfl
theorem tsm_one {c : Expr} {f : Mi Bool} (hc : PTm X W c f) : PTsm X W [c] f := pts_one hc
theorem Sim.notin {K : PySem.W.Frag} {mg : Str → Option Value} {m : List Addr} {h : HS} {H : Hp} {D : Addr} (s : Sim K mg m h H) (hD : H D = none) : D ∉ m := fun hm => by
  obtain ⟨n, hn, e⟩ := List.mem_iff_getElem.mp hm
  have e1 : m[n]? = some D := by rw [List.getElem?_eq_getElem hn, e]
  have hh : n < h.length := by rw [← s.len]; exact hn
  obtain ⟨u, e2, _⟩ := (s.obj n h[n] D (List.getElem?_eq_getElem hh) e1).some
  rw [hD] at e2
  cases e2
theorem Le.notin {m m' : List Addr} {H H' : Hp} {D : Addr} {u : HO} (l : Le m H m' H') (n : D ∉ m) (hD : H D = some u) : D ∉ m' := fun z => (l.new D z).elim n fun z => by rw [hD] at z; cases z
theorem lc_out {K : PySem.W.Frag} {mg : Str → Option Value} {it : Mi Src} {g : Mg} {t : Mi Bool} {e : Mi PV} {is vs : List Nat} (hsub : ∀ j ∈ is, j ∈ vs) (σ : St) (H : Hp) (Q : VK) (hq : tG K mg W RV (mLc it vs g t e) σ H Q) :
    tLc (tG K mg W (RI K mg) it) (tMG K mg WN is g) (tG K mg WN RB t) (tG K mg WN RV e) vs σ H Q := by
  obtain ⟨m, ρ, h, s, rs, o⟩ := hq
  refine ⟨m, ρ, h, s, rs, o.bind.mono fun J H1 ⟨m1, h1, src, l1, s1, ri, o1⟩ D hD => ?_⟩
  cases eF0 : lcGo src.guard g t e (wipeP ρ vs) src.items h1 with
  | some r0 =>
    obtain ⟨vF, hF⟩ := r0
    have eF := eF0
    rw [eF0] at o1
    simp only [lcEnd_some, dLst] at o1
    split at o1
    · rename_i hlen
      refine ⟨fun i k H2 => k = src.items.length - i ∧ i ≤ src.items.length ∧ ∃ m2 h2 acc av ws, Le m1 H1 m2 H2 ∧ Sim K mg m2 h2 H2 ∧ D ∉ m2 ∧ H2 D = some (.lst av) ∧ RVs m2 H2 acc av ∧ lcGo src.guard g t e (wipeP ρ vs) (src.items.drop i) h2 = some (ws, hF) ∧ acc ++ ws = vF, ⟨src.items.length, rfl, Nat.zero_le _, m1, h1, [], [], vF, le_new hD _, s1.junk hD _, s1.notin hD, upd_same, .nil, eF, rfl⟩, ?_⟩
      rintro i k H2 ⟨rfl, hle, m2, h2, acc, av, ws, l2, s2, n2, hD2, ra, e2, ea⟩
      by_cases hlt : i < src.items.length
      · rw [List.drop_eq_getElem_cons hlt] at e2
        unfold lcGo at e2
        split at e2
        · rename_i hg2
          obtain ⟨f1, _⟩ := ri i m2 h2 H2 l2 s2 hg2
          obtain ⟨go, yl⟩ := f1 _ (List.getElem?_eq_getElem hlt)
          refine .inr ⟨go, fun H3 => ∃ m3 h3 acc3 av3 ws3, Le m1 H1 m3 H3 ∧ Sim K mg m3 h3 H3 ∧ D ∉ m3 ∧ H3 D = some (.lst av3) ∧ RVs m3 H3 acc3 av3 ∧ lcGo src.guard g t e (wipeP ρ vs) (src.items.drop (i + 1)) h3 = some (ws3, hF) ∧ acc3 ++ ws3 = vF, fun H3 z => ⟨src.items.length - (i + 1), by omega, rfl, hlt, z⟩, fun v H' y => ?_⟩
          obtain ⟨l3, s3, r3⟩ := yl v H' y
          refine ⟨m2, wipeP ρ vs, h2, _, s3, ((rs.le (l1.trans l2)).le l3).wipe vs, r3, ?_⟩
          obtain ⟨ρ4, h4, e4, e2⟩ := R.thenO_some e2
          · rw [e4]
            refine fun m4 H4 σ4 l4 s4 rs4 ⟨q1, q2⟩ => ⟨wipe_same q1 fun j hj => q2 j fun z => hj (hsub j z), m4, ρ4, h4, s4, rs4, ?_⟩
            have l24 := l3.trans l4
            obtain ⟨c5, h5, e5, e2⟩ := R.thenO_some e2
            cases c5 with
            | true =>
              rw [e5]
              intro m5 H5 b l5 s5 rb
              cases rb
              simp only [if_true] at e2
              refine iteT ⟨m5, ρ4, h5, s5, rs4.le l5, ?_⟩
              obtain ⟨y6, h6, e6, e2⟩ := R.thenO_some e2
              · rw [e6]
                intro m6 H6 v6 l6 s6 r6
                have l26 := (l24.trans l5).trans l6
                obtain ⟨⟨ws', hF'⟩, e7, e8⟩ := Option.map_eq_some_iff.mp e2
                simp only [Prod.mk.injEq] at e8
                obtain ⟨e8, e9⟩ := e8
                subst e9 e8
                have hD6 := l26.junk D _ n2 hD2
                have nD6 := l26.notin n2 hD2
                have ra6 := ra.le l26
                have lo6 : Lo m6 H6 m6 (upd H6 D (.lst (av ++ [v6]))) := ⟨fun z => z, fun a xs z => by
                  rw [upd_ne fun w => ?_]
                  · exact z
                  · subst w; rw [hD6] at z; cases z⟩
                refine ⟨av, hD6, ?_, m6, h6, acc ++ [y6], av ++ [v6], ws', ?_, s6.own nD6 hD6 (fun _ z => by cases z) _, nD6, upd_same, (ra6.app (.cons r6 .nil)).lo lo6, e7, by rw [List.append_assoc]; exact ea⟩
                · rw [← ra.length, line16]
                  rw [← ea] at hlen
                  simp only [List.length_append, List.length_cons] at hlen
                  omega
                · have l16 := l2.trans l26
                  exact ⟨l16.pre, fun a xs z => by rw [upd_ne (ne_of_none z hD)]; exact l16.tup a xs z, fun a u n z => by rw [upd_ne (ne_of_none z hD)]; exact l16.junk a u n z, l16.new⟩
            | false =>
              rw [e5]
              intro m5 H5 b l5 s5 rb
              cases rb
              simp only [Bool.false_eq_true, if_false] at e2
              have l25 := l24.trans l5
              exact iteF ⟨m5, h5, acc, av, ws, l2.trans l25, s5, l25.notin n2 hD2, l25.junk D _ n2 hD2, ra.le l25, e2, ea⟩
        · cases e2
      · have hi : i = src.items.length := by omega
        subst hi
        rw [List.drop_length] at e2
        unfold lcGo at e2
        split at e2
        · rename_i hg2
          obtain ⟨_, f2⟩ := ri _ m2 h2 H2 l2 s2 hg2
          refine .inl ⟨f2 (Nat.le_refl _), ?_⟩
          simp only [Option.some.injEq, Prod.mk.injEq] at e2
          obtain ⟨e3, e4⟩ := e2
          subst e3 e4
          rw [List.append_nil] at ea
          subst ea
          have lo2 : Lo m2 H2 (m2 ++ [D]) H2 := ⟨fun {n a} z => by
            rw [List.getElem?_append_left (List.getElem?_eq_some_iff.mp z).1]
            exact z, fun _ _ z => z⟩
          refine o1 (m2 ++ [D]) H2 (.ref D) ⟨l2.pre.trans (List.prefix_append _ _), l2.tup, l2.junk, fun a z => (List.mem_append.mp z).elim (l2.new a) fun z => .inr (by rw [List.mem_singleton.mp z]; exact hD)⟩ (s2.adopt n2 ⟨av, hD2, ra.lo lo2⟩) (.ref ?_)
          rw [← s2.len, List.getElem?_append_right (Nat.le_refl _), Nat.sub_self]
          rfl
        · cases e2
    · exact o1.elim
  | none => rw [eF0] at o1; exact o1.elim
variable {tg e iter : Expr} {ifs : List Expr} {scope : Scope} {own : List (Str × Nat)} {mi : Mi Src} {g : Mg} {t : Mi Bool} {me : Mi PV} {is : List Nat}
theorem em_lc (own : List (Str × Nat)) (hN : X.N.Nodup) (hi : PIm X W tg iter mi) (ok : blkC X.N X.env.scope scope own = true)
    (hg : ∀ (s : Shared) (H : Hp) (C : Addr) (cl : List (Str × Addr)) (fp : List Addr), PGm (X.blk s H scope (compEnvC scope cl C X.env) fp) WN is tg g)
    (ht : ∀ (s : Shared) (H : Hp) (C : Addr) (cl : List (Str × Addr)) (fp : List Addr), PTsm (X.blk s H scope (compEnvC scope cl C X.env) fp) WN ifs t)
    (he : ∀ (s : Shared) (H : Hp) (C : Addr) (cl : List (Str × Addr)) (fp : List Addr), PEm (X.blk s H scope (compEnvC scope cl C X.env) fp) WN e me) (hsub : ∀ j ∈ is, j ∈ own.map (·.2)) (hc : X.calm = true := by rfl)
    (hs : ∀ x, foldedSetIterable iter X.env x = pure x := by intro _; rfl) : PEm X W (.ListComp e [⟨tg, iter, ifs, 0⟩] scope pos) (mLc mi (own.map (·.2)) g t me) :=
  wkE (pe_lc hc hN hi (blkOk_by ok) hg ht he hs) fun σ H Q q => lc_out hsub σ H Q q
theorem sm_setLc {i : Nat} {y : Str} {py spos : Pos} (own : List (Str × Nat)) (hN : X.N.Nodup) (hsw : swapsWith (.ListComp e [⟨tg, iter, ifs, 0⟩] scope pos) (some (.Name y py)) spos.line X.env = pure true) (hi : PIm X W tg iter mi) (ok : blkC X.N X.env.scope scope own = true)
    (hg : ∀ (s : Shared) (H : Hp) (C : Addr) (cl : List (Str × Addr)) (fp : List Addr), PGm (X.blk s H scope (compEnvC scope cl C X.env) fp) WN is tg g)
    (ht : ∀ (s : Shared) (H : Hp) (C : Addr) (cl : List (Str × Addr)) (fp : List Addr), PTsm (X.blk s H scope (compEnvC scope cl C X.env) fp) WN ifs t)
    (he : ∀ (s : Shared) (H : Hp) (C : Addr) (cl : List (Str × Addr)) (fp : List Addr), PEm (X.blk s H scope (compEnvC scope cl C X.env) fp) WN e me) (hsub : ∀ j ∈ is, j ∈ own.map (·.2)) (hy : X.N[i]? = some y := by rfl) (hyl : X.env.scope.names.lookup y = some .local := by rfl) (hc : X.calm = true := by rfl)
    (hs : ∀ x, foldedSetIterable iter X.env x = pure x := by intro _; rfl) : PSm X W (.Assign [.Name y py] (.ListComp e [⟨tg, iter, ifs, 0⟩] scope pos) spos) (mAsg (mLc mi (own.map (·.2)) g t me) (gNm i)) :=
  wkS (ps_setLc hc hN hy hyl hsw hi (blkOk_by ok) hg ht he hs) fun D σ H ⟨m, ρ, h, s, rs, o⟩ => by
    refine lc_out hsub σ H _ ⟨m, ρ, h, s, rs, (OutS.bind rs o).mono fun v H1 ⟨m1, h1, a, l1, s1, r1, o1⟩ => ?_⟩
    have o2 : OutS X.K X.mg W m1 H1 D (.nx (ρ.set i (some a)) h1) := o1
    exact o2 m1 H1 _ .refl s1 ((rs.le l1).set (.val r1) i)
end
end Lt
namespace Lt
open PySem PySem.Spec PyProof.Rows L2
/-! ### written dicts -/
inductive RPs (m : List Addr) (H : Hp) : List (PV × PV) → List (V × V) → Prop
  | nil : RPs m H [] []
  | cons {x y : PV} {v w : V} {xs : List (PV × PV)} {vs : List (V × V)} (r : RV m H x v) (q : RV m H y w) (t : RPs m H xs vs) : RPs m H ((x, y) :: xs) ((v, w) :: vs)
def evalPs : List (Mi PV × Mi PV) → Pn → HS → R (List (PV × PV))
  | [], _, h => .ok [] h
  | (a, b) :: r, ρ, h => (a ρ h).bind fun x h1 => (b ρ h1).bind fun y h2 => (evalPs r ρ h2).bind fun xs h3 => .ok ((x, y) :: xs) h3
@[simp] def keysOf : List (PV × PV) → Option (List (Key × PV))
  | [] => some []
  | (x, y) :: r => match keyOf x, keysOf r with
    | some k, some ks => some ((k, y) :: ks)
    | _, _ => none
@[simp] def mergeP (kvs more : List (Key × PV)) : List (Key × PV) := more.foldl (fun acc kv => putP acc kv.1 kv.2) kvs
@[simp] def dDic (xs : List (PV × PV)) (h : HS) : R PV := match keysOf xs with
  | some kvs => if kvs.length ≤ 15 then .ok (.ref h.length) (h ++ [.dic (mergeP [] kvs)]) else .no
  | none => .no
def mDict (ps : List (Mi PV × Mi PV)) (ρ : Pn) (h : HS) : R PV := (evalPs ps ρ h).bind dDic
section
variable {K : PySem.W.Frag} {mg : Str → Option Value} {W : WX} {m : List Addr} {h : HS} {H : Hp} {σ : St} {ρ : Pn}
theorem pairs_out : ∀ (ps : List (Mi PV × Mi PV)) {m : List Addr} {h : HS} {H : Hp} {Q : List (V × V) → Hp → Prop}, Sim K mg m h H → RS m H ρ σ → Out K mg W RPs m H σ Q (evalPs ps ρ h) →
    tPairs (ps.map fun p => (tG K mg W RV p.1, tG K mg W RV p.2)) σ H Q
  | [], m, h, H, Q, s, rs, o => o m H [] .refl s .nil
  | (a, b) :: r, m, h, H, Q, s, rs, o => ⟨m, ρ, h, s, rs, o.bind.mono fun x H1 ⟨m1, h1, av, l1, s1, r1, o1⟩ => ⟨m1, ρ, h1, s1, rs.le l1, o1.bind.mono fun y H2 ⟨m2, h2, bv, l2, s2, r2, o2⟩ =>
      pairs_out r s2 ((rs.le l1).le l2) (o2.bind.mono fun ps H3 ⟨m3, h3, cv, l3, s3, r3, o3⟩ => o3 m3 H3 _ .refl s3 (.cons ((r1.le l2).le l3) (r2.le l3) r3))⟩⟩
theorem keysOf_at : ∀ {xs : List (PV × PV)} {vs : List (V × V)} {kvs : List (Key × PV)}, RPs m H xs vs → keysOf xs = some kvs → ∃ ws : List (Key × V), vs = ws.map (fun kv => (kV kv.1, kv.2)) ∧ RKs m H kvs ws
  | _, _, _, .nil, e => by
    cases e
    exact ⟨[], rfl, .nil⟩
  | _, _, kvs, .cons (x := x) r q t, e => by
    unfold keysOf at e
    split at e
    · rename_i k ks e1 e2
      cases e
      obtain ⟨ws, e3, rk⟩ := keysOf_at t e2
      have ex := keyOf_at r e1
      subst ex e3
      exact ⟨(k, _) :: ws, rfl, .cons q rk⟩
    · cases e
theorem RKs.merge {more : List (Key × PV)} {ms : List (Key × V)} (q : RKs m H more ms) : ∀ {kvs : List (Key × PV)} {vs : List (Key × V)}, RKs m H kvs vs → RKs m H (mergeP kvs more) (mergeK vs ms) := by
  induction q with
  | nil => intro kvs vs r; exact r
  | cons rx t ih =>
    intro kvs vs r
    exact ih (r.put _ rx)
end
section
variable {X : Cx} {W : WX} {pos : Pos}
theorem em_dict0 : PEm X W (.Dict [] [] pos) (mDict []) :=
  wkE pe_dnewK fun σ H Q ⟨m, ρ, h, s, rs, o⟩ p hp => by
    have o' : Out X.K X.mg W RV m H σ Q (.ok (.ref h.length) (h ++ [.dic []])) := o
    exact o' (m ++ [p]) _ _ (le_add hp _) (s.add hp _ ⟨[], upd_same, .nil⟩) (.ref (get_new s p))
abbrev PPm (X : Cx) (W : WX) (pos : Pos) (ks : List (Option Expr)) (vs : List Expr) (ps : List (Mi PV × Mi PV)) : Prop := PPs X pos ks vs (ps.map fun p => (tG X.K X.mg W RV p.1, tG X.K X.mg W RV p.2))
theorem ppm_nil : PPm X W pos [] [] [] := pps_nil
theorem ppm_cons {k v : Expr} {ks : List (Option Expr)} {vs : List Expr} {mk mv : Mi PV} {ps : List (Mi PV × Mi PV)} (hk : PEm X W k mk) (hv : PEm X W v mv) (hr : PPm X W pos ks vs ps) : PPm X W pos (some k :: ks) (v :: vs) ((mk, mv) :: ps) := pps_cons hk hv hr
theorem em_dict {ks : List (Option Expr)} {vs : List Expr} {ps : List (Mi PV × Mi PV)} (hp : PPm X W pos ks vs ps) (hall : ks.all (·.isSome) = true := by rfl) (hl : ks.length = vs.length := by rfl) (h0 : ks ≠ [] := by intro z; cases z) (h15 : ks.length ≤ 15 := by decide) : PEm X W (.Dict ks vs pos) (mDict ps) :=
  wkE (pe_disp hp hall hl h0 h15) fun σ H Q ⟨m, ρ, h, s, rs, o⟩ p hp => by
    have o' : Out X.K X.mg W RV m H σ Q ((evalPs ps ρ h).bind dDic) := o
    refine pairs_out ps (s.junk hp _) (rs.le (le_new hp _)) ?_
    cases hps : evalPs ps ρ h with
    | no => rw [hps] at o'; exact o'
    | ex e' h' => rw [hps] at o'; exact o'.later (le_new hp _)
    | ok xs h2 =>
      rw [hps] at o'
      have o2 : Out X.K X.mg W RV m H σ Q (dDic xs h2) := o'
      intro m2 H2 qs l2 s2 r2
      have nD : p ∉ m := s.notin hp
      have e2 : H2 p = some (.dK []) := l2.junk p _ nD upd_same
      have nD2 : p ∉ m2 := l2.notin nD upd_same
      unfold dDic at o2
      split at o2
      · rename_i kvs ek
        split at o2
        · rename_i hlen
          obtain ⟨ws, rfl, rk⟩ := keysOf_at r2 ek
          refine ⟨e2, ws, rfl, by rw [← rk.length]; exact hlen, ?_⟩
          have lo2 : Lo m2 H2 (m2 ++ [p]) (upd H2 p (.dK (mergeK [] ws))) := ⟨fun {n a} z => by
            rw [List.getElem?_append_left (List.getElem?_eq_some_iff.mp z).1]
            exact z, fun a xs z => by
            rw [upd_ne fun w => ?_]
            · exact z
            · subst w; rw [e2] at z; cases z⟩
          have ne : ∀ {a u}, H a = some u → a ≠ p := fun z => ne_of_none z hp
          refine o2 (m2 ++ [p]) _ (.ref p) ⟨l2.pre.trans (List.prefix_append _ _), fun a xs z => ?_, fun a u n z => ?_, fun a z => ?_⟩ ((s2.own nD2 e2 (fun _ z => by cases z) _).adopt nD2 ⟨_, upd_same, (RKs.merge rk .nil).lo lo2⟩) (.ref (get_new s2 p))
          · rw [upd_ne (ne z)]
            exact l2.tup a xs (by rw [upd_ne (ne z)]; exact z)
          · rw [upd_ne (ne z)]
            exact l2.junk a u n (by rw [upd_ne (ne z)]; exact z)
          · rcases List.mem_append.mp z with z | z
            · rcases l2.new a z with z | z
              · exact .inl z
              · refine .inr ?_
                by_cases e : a = p
                · rw [e]; exact hp
                · rw [upd_ne e] at z; exact z
            · rw [List.mem_singleton.mp z]
              exact .inr hp
        · exact o2.elim
      · exact o2.elim
end
/-! ### the def's own theorem -/
def SR.ret (r : SR) : R PV := match r with
  | .nx _ h' => .ok .non h'
  | .rt v h' => .ok v h'
  | .ex e _ h' => .ex e h'
  | _ => .no
@[simp] theorem SR.ret_nx (ρ : Pn) (h : HS) : (SR.nx ρ h).ret = .ok .non h := rfl
@[simp] theorem SR.ret_rt (v : PV) (h : HS) : (SR.rt v h).ret = .ok v h := rfl
@[simp] theorem SR.ret_ex (e : PX) (ρ : Pn) (h : HS) : (SR.ex e ρ h).ret = .ex e h := rfl
@[simp] theorem SR.ret_ite {c : Prop} [Decidable c] (r s : SR) : (if c then r else s).ret = if c then r.ret else s.ret := by split <;> rfl
def mDef (n r : Nat) (b : Ms) (xs : List PV) (h : HS) : R PV := if xs.length = n then (b (xs.map some ++ List.replicate r none) h).ret else .no
section
variable {P : Program} {w : World} {K : PySem.W.Frag} {mg : Str → Option Value} {base : Heap}
abbrev bodyX (P : Program) (w : World) (K : PySem.W.Frag) (mg : Str → Option Value) (base : Heap) (N : List Str) (qual : Str) (st : Stmt) (f : Addr) (cdv : Value) (A : Around) (outer : List Env) (s : Shared) (H : Hp) (E : XK) : Cx := cxOf (L2.CX P w) P w K mg base N qual (defScope st) f cdv A outer s H E
theorem spM_len {f : List PV → HS → R PV} {n : Nat} (hf : ∀ xs h, xs.length ≠ n → f xs h = .no) {vs : List V} {H : Hp} {Q : VK} {E : XK} (h : spM K mg f vs H Q E) : vs.length = n := by
  obtain ⟨m, xs, hh, s, r, o⟩ := h
  rw [← r.length]
  by_cases e : xs.length = n
  · exact e
  · rw [hf xs hh e] at o
    exact o.elim
theorem fn_def {x qual : Str} {st : Stmt} {f : Addr} {fd : FuncData} {N ps : List Str} {k : Nat} {b : Ms} (F : Fun K x qual st f fd) (S : FnScope N ps (defScope st)) (hb : Binds K fd ps []) (hg : mg x = some (.ref f))
    (body : ∀ (cdv : Value) (A : Around) (outer : List Env) (s : Shared) (H : Hp) (E : XK), Room k (bodyX P w K mg base N qual st f cdv A outer s H E).A → Takes (bodyX P w K mg base N qual st f cdv A outer s H E) (fun cls d _ H => E cls d H) →
      PassesOwn (model P w) (bodyX P w K mg base N qual st f cdv A outer s H E).A (bodyX P w K mg base N qual st f cdv A outer s H E).env (bodyX P w K mg base N qual st f cdv A outer s H E).xe →
      PSsm (bodyX P w K mg base N qual st f cdv A outer s H E) (fun cls d _ H => E cls d H) (defBody st) b) : FnAt P w K mg base (k + 1) x (mDef ps.length (N.length - ps.length) b) := by
  have hn : ∀ xs h, xs.length ≠ ps.length → mDef ps.length (N.length - ps.length) b xs h = .no := fun xs h e => by unfold mDef; rw [if_neg e]
  refine ⟨f, fd, ps, hg, F.kp, hb, F.okX S (fun vs H Q E h => spM_len hn h) fun cdv A outer s H vs Q E hr ⟨m, xs, h, sm, r, o⟩ => ?_⟩
  refine ⟨_, body cdv A outer s H E hr (takes_of rfl rfl rfl rfl) (passes_of rfl), m, xs.map some ++ List.replicate (N.length - ps.length) none, h, sm, ?_, ?_⟩
  · have hl : xs.length = ps.length := by
      by_cases e : xs.length = ps.length
      · exact e
      · rw [hn xs h e] at o
        exact o.elim
    unfold L2.start
    rw [← r.length, hl]
    exact RS.start _ r
  · unfold mDef at o
    split at o
    · cases hb2 : b (xs.map some ++ List.replicate (N.length - ps.length) none) h with
      | nx ρ' h' =>
        rw [hb2] at o
        exact fun m' H' σ' l s' _ => o m' H' .non l s' .non
      | rt v h' => rw [hb2] at o; exact o
      | bk ρ' h' => rw [hb2] at o; exact o.elim
      | ct ρ' h' => rw [hb2] at o; exact o.elim
      | ex e ρ' h' =>
        rw [hb2] at o
        exact fun m' H' σ' cls d l s' _ rx => o m' H' cls d l s' rx
      | no => rw [hb2] at o; exact o.elim
    · exact o.elim
/-- a def that is not yet shown (the last turn of a recursion) -/
theorem fn_no {x qual : Str} {st : Stmt} {f : Addr} {fd : FuncData} {N ps : List Str} (F : Fun K x qual st f fd) (S : FnScope N ps (defScope st)) (hb : Binds K fd ps []) (hg : mg x = some (.ref f)) : FnAt P w K mg base 1 x (fun _ _ => .no) :=
  ⟨f, fd, ps, hg, F.kp, hb, F.okX S (fun vs H Q E ⟨_, _, _, _, _, o⟩ => o.elim) fun cdv A outer s H vs Q E hr ⟨_, _, _, _, _, o⟩ => o.elim⟩
end
end Lt
namespace Lt
open PySem PySem.Spec PyProof.Rows L2
/-! ### a, b = x, y -/
def mPar (i j : Nat) (a : Mi (List PV)) (ρ : Pn) (h : HS) : SR := (a ρ h).bindS ρ fun vs h1 => match vs with
  | [v, w] => .nx ((ρ.set i (some v)).set j (some w)) h1
  | _ => .no
def mPar3 (i j l : Nat) (a : Mi (List PV)) (ρ : Pn) (h : HS) : SR := (a ρ h).bindS ρ fun vs h1 => match vs with
  | [u, v, w] => .nx (((ρ.set i (some u)).set j (some v)).set l (some w)) h1
  | _ => .no
section
variable {X : Cx} {W : WX} {pos : Pos} {ma : Mi (List PV)}
theorem RVs.three {m : List Addr} {H : Hp} {x y z : PV} {vs : List V} (r : RVs m H [x, y, z] vs) : ∃ u v w, vs = [u, v, w] ∧ RV m H x u ∧ RV m H y v ∧ RV m H z w := by
  cases r with
  | cons r t =>
    obtain ⟨v, w, rfl, r1, r2⟩ := t.two
    exact ⟨_, v, w, rfl, r, r1, r2⟩
theorem sm_par {i j : Nat} {x y : Str} {a b : Expr} {px py pt : Pos} {kt k2 pt2} (hN : X.N.Nodup) (ha : PAm X W [a, b] ma) (hi : X.N[i]? = some x := by rfl) (hj : X.N[j]? = some y := by rfl) (hij : i ≠ j := by decide)
    (hx : X.env.scope.names.lookup x = some .local := by rfl) (hy : X.env.scope.names.lookup y = some .local := by rfl) (hc : X.calm = true := by rfl)
    (hw : swappedStores [.Tuple [.Name x px, .Name y py] kt pt] (.Tuple [a, b] k2 pt2) X.env = pure (some [x, y]) := by rfl)
    (hs : swapsWithSole [.Tuple [.Name x px, .Name y py] kt pt] (.Tuple [a, b] k2 pt2) pos.line X.env = pure false := by rfl) :
    PSm X W (.Assign [.Tuple [.Name x px, .Name y py] kt pt] (.Tuple [a, b] k2 pt2) pos) (mPar i j ma) :=
  wkS (ps_par hc hN hi hj hij hx hy ha hw hs) fun D σ H ⟨m, ρ, h, s, rs, o⟩ => ⟨m, ρ, h, s, rs, (OutS.bind rs o).mono fun vs H1 ⟨m1, h1, av, l1, s1, r1, o1⟩ => by
    split at o1
    · obtain ⟨v, w, rfl, r1, r2⟩ := r1.two
      exact ⟨v, w, rfl, o1 m1 H1 _ .refl s1 (((rs.le l1).set (.val r1) i).set (.val r2) j)⟩
    · exact o1.elim⟩
theorem sm_par3 {i j l : Nat} {x y z : Str} {a b c : Expr} {px py pz pt : Pos} {kt k2 pt2} (hN : X.N.Nodup) (ha : PAm X W [a, b, c] ma) (hi : X.N[i]? = some x := by rfl) (hj : X.N[j]? = some y := by rfl) (hl : X.N[l]? = some z := by rfl) (hij : i ≠ j := by decide) (hil : i ≠ l := by decide) (hjl : j ≠ l := by decide)
    (hx : X.env.scope.names.lookup x = some .local := by rfl) (hy : X.env.scope.names.lookup y = some .local := by rfl) (hz : X.env.scope.names.lookup z = some .local := by rfl) (hc : X.calm = true := by rfl)
    (hw : swappedStores [.Tuple [.Name x px, .Name y py, .Name z pz] kt pt] (.Tuple [a, b, c] k2 pt2) X.env = pure (some [x, y, z]) := by rfl)
    (hs : swapsWithSole [.Tuple [.Name x px, .Name y py, .Name z pz] kt pt] (.Tuple [a, b, c] k2 pt2) pos.line X.env = pure false := by rfl) :
    PSm X W (.Assign [.Tuple [.Name x px, .Name y py, .Name z pz] kt pt] (.Tuple [a, b, c] k2 pt2) pos) (mPar3 i j l ma) :=
  wkS (ps_par3 hc hN hi hj hl hij hil hjl hx hy hz ha hw hs) fun D σ H ⟨m, ρ, h, s, rs, o⟩ => ⟨m, ρ, h, s, rs, (OutS.bind rs o).mono fun vs H1 ⟨m1, h1, av, l1, s1, r1, o1⟩ => by
    split at o1
    · obtain ⟨u, v, w, rfl, r0, r1, r2⟩ := r1.three
      exact ⟨u, v, w, rfl, o1 m1 H1 _ .refl s1 ((((rs.le l1).set (.val r0) i).set (.val r1) j).set (.val r2) l)⟩
    · exact o1.elim⟩
/-! ### name op= e -/
def mAug (i : Nat) (f : PV → PV → HS → R PV) (a : Mi PV) (ρ : Pn) (h : HS) : SR := match ρ[i]? with
  | some (some x) => (a ρ h).bindS ρ fun y h1 => (f x y h1).bindS ρ fun z h2 => .nx (ρ.set i (some z)) h2
  | _ => .no
theorem sm_aug {i : Nat} {x : Str} {e : Expr} {me : Mi PV} {op : Operator} {f : PV → PV → HS → R PV} {pos' : Pos} (hN : X.N.Nodup) (ho : OpM X W (inplaceOp op) f) (he : PEm X W e me) (hi : X.N[i]? = some x := by rfl) (hx : Loc X.env.scope x := by first | exact Or.inl rfl | exact Or.inr rfl) (hf : X.fn x = true ∨ X.env.scope.names.lookup x = some .local := by first | exact .inl rfl | exact .inr rfl | assumption) :
    PSm X W (.AugAssign (.Name x pos') op e pos) (mAug i f me) := by
  obtain ⟨r, h1, h2⟩ := ho
  exact wkS (ps_aug hN hi hx he (fun pins s σ H x y v u Q I r1 r2 q => h1 pins s σ H x y v u Q I r1 r2 q) hf) fun D σ H ⟨m, ρ, h, s, rs, o⟩ => by
    unfold mAug at o
    split at o
    · rename_i v e1
      obtain ⟨w, ew, rw'⟩ := rs.get e1
      refine ⟨w, ew, m, ρ, h, s, rs, (OutS.bind rs o).mono fun y H1 ⟨m1, h1', av, l1, s1, r1, o1⟩ => ?_⟩
      exact h2 _ _ _ σ _ _ _ _ _ s1 (rw'.le l1) r1 ((OutS.bind (rs.le l1) o1).mono fun z H2 ⟨m2, h2', bv, l2, s2, r2, o2⟩ => o2 m2 H2 _ .refl s2 (((rs.le l1).le l2).set (.val r2) i))
    · exact o.elim
/-! ### while -/
def whileN (c : Mi Bool) (b : Ms) : Nat → Ms
  | 0, _, _ => .no
  | n + 1, ρ, h => (c ρ h).bindS ρ fun k h1 => if k = true then (b ρ h1).loop (whileN c b n) else .nx ρ h1
open Classical in
noncomputable def mWhile (c : Mi Bool) (b : Ms) : Ms := fun ρ h => if e : ∃ n, whileN c b n ρ h ≠ .no then whileN c b e.choose ρ h else .no
theorem whileN_more (c : Mi Bool) (b : Ms) : ∀ (n k : Nat) (ρ : Pn) (h : HS), whileN c b n ρ h ≠ .no → whileN c b (n + k) ρ h = whileN c b n ρ h
  | 0, _, _, _, e => absurd rfl e
  | n + 1, k, ρ, h, e => by
    rw [show n + 1 + k = (n + k) + 1 by omega]
    unfold whileN at e ⊢
    cases hc : c ρ h with
    | no => rfl
    | ex e' h' => rfl
    | ok kk h1 =>
      rw [hc] at e
      simp only [R.bindS_ok] at e ⊢
      cases kk with
      | false => rfl
      | true =>
        simp only [if_true] at e ⊢
        cases hb : b ρ h1 with
        | nx ρ2 h2 =>
          rw [hb] at e
          exact whileN_more c b n k ρ2 h2 e
        | ct ρ2 h2 =>
          rw [hb] at e
          exact whileN_more c b n k ρ2 h2 e
        | bk ρ2 h2 => rfl
        | rt v h2 => rfl
        | ex e1 ρ2 h2 => rfl
        | no => rfl
theorem mWhile_of {c : Mi Bool} {b : Ms} {n : Nat} {ρ : Pn} {h : HS} {r : SR} (e : whileN c b n ρ h = r) (hr : r ≠ .no) : mWhile c b ρ h = r := by
  have ex : ∃ n, whileN c b n ρ h ≠ .no := ⟨n, by rw [e]; exact hr⟩
  unfold mWhile
  rw [dif_pos ex]
  have h1 := ex.choose_spec
  have h2 := whileN_more c b ex.choose n ρ h h1
  have h3 := whileN_more c b n ex.choose ρ h (by rw [e]; exact hr)
  rw [Nat.add_comm] at h3
  rw [← h2, h3, e]
theorem mWhile_in {c : Mi Bool} {b : Ms} {ρ : Pn} {h : HS} {r : SR} (e : mWhile c b ρ h = r) (hr : r ≠ .no) : ∃ n, whileN c b n ρ h = r := by
  unfold mWhile at e
  split at e
  · exact ⟨_, e⟩
  · exact absurd e.symm hr
/-- what comes behind a turn, by k -/
theorem loop_back {r : SR} {k k' : Ms} {z : SR} (e : r.loop k = z) (hz : z ≠ .no) (hk : ∀ ρ h, k ρ h = z → k' ρ h = z) : r.loop k' = z := by
  cases r with
  | nx ρ h => exact hk _ _ e
  | ct ρ h => exact hk _ _ e
  | bk ρ h => exact e
  | rt v h => exact e
  | ex x ρ h => exact e
  | no => exact e
theorem mWhile_eq (c : Mi Bool) (b : Ms) (ρ : Pn) (h : HS) : mWhile c b ρ h = (c ρ h).bindS ρ fun k h1 => if k = true then (b ρ h1).loop (mWhile c b) else .nx ρ h1 := by
  by_cases hz : mWhile c b ρ h = .no
  · rw [hz]
    by_cases hr : ((c ρ h).bindS ρ fun k h1 => if k = true then (b ρ h1).loop (mWhile c b) else .nx ρ h1) = .no
    · exact hr.symm
    · exfalso
      refine absurd (?_ : mWhile c b ρ h = ((c ρ h).bindS ρ fun k h1 => if k = true then (b ρ h1).loop (mWhile c b) else .nx ρ h1)) (by rw [hz]; exact fun z => hr z.symm)
      cases hc : c ρ h with
      | no => rw [hc] at hr; exact absurd rfl hr
      | ex e' h' => exact mWhile_of (n := 1) (by unfold whileN; rw [hc]; rfl) (by intro z; cases z)
      | ok kk h1 =>
        rw [hc] at hr
        simp only [R.bindS_ok] at hr ⊢
        cases kk with
        | false => exact mWhile_of (n := 1) (by unfold whileN; rw [hc]; rfl) (by intro z; cases z)
        | true =>
          simp only [if_true] at hr ⊢
          cases hb : b ρ h1 with
          | nx ρ2 h2 =>
            rw [hb] at hr
            obtain ⟨n, en⟩ := mWhile_in (c := c) (b := b) (ρ := ρ2) (h := h2) rfl hr
            exact mWhile_of (n := n + 1) (by unfold whileN; rw [hc]; simp only [R.bindS_ok, if_true, hb, SR.loop_nx]; exact en) hr
          | ct ρ2 h2 =>
            rw [hb] at hr
            obtain ⟨n, en⟩ := mWhile_in (c := c) (b := b) (ρ := ρ2) (h := h2) rfl hr
            exact mWhile_of (n := n + 1) (by unfold whileN; rw [hc]; simp only [R.bindS_ok, if_true, hb, SR.loop_ct]; exact en) hr
          | bk ρ2 h2 => exact mWhile_of (n := 1) (by unfold whileN; rw [hc]; simp only [R.bindS_ok, if_true, hb]; rfl) (by intro z; cases z)
          | rt v h2 => exact mWhile_of (n := 1) (by unfold whileN; rw [hc]; simp only [R.bindS_ok, if_true, hb]; rfl) (by intro z; cases z)
          | ex e1 ρ2 h2 => exact mWhile_of (n := 1) (by unfold whileN; rw [hc]; simp only [R.bindS_ok, if_true, hb]; rfl) (by intro z; cases z)
          | no => rw [hb] at hr; exact absurd rfl hr
  · obtain ⟨n, en⟩ := mWhile_in (c := c) (b := b) rfl hz
    cases n with
    | zero => exact absurd en.symm hz
    | succ n =>
      rw [← en]
      rw [← en] at hz
      unfold whileN at hz ⊢
      cases hc : c ρ h with
      | no => rfl
      | ex e' h' => rfl
      | ok kk h1 =>
        rw [hc] at hz
        simp only [R.bindS_ok] at hz ⊢
        cases kk with
        | false => rfl
        | true =>
          simp only [if_true] at hz ⊢
          exact (loop_back rfl hz fun ρ2 h2 e => mWhile_of e hz).symm
theorem sm_while {c : Expr} {body : List Stmt} {mc : Mi Bool} {mb : Ms} (hp : PassesOwn (model X.prog X.w) X.A X.env X.xe) (hc : PTm X W c mc) (hb : PSsm X W body mb) : PSm X W (.While c body [] pos) (mWhile mc mb) :=
  wkS (ps_while hp hc hb) fun D σ H ⟨m, ρ, h, s, rs, o⟩ => by
    refine ⟨fun n σ2 H2 => ∃ m2 ρ2 h2, Sim X.K X.mg m2 h2 H2 ∧ RS m2 H2 ρ2 σ2 ∧ OutS X.K X.mg W m2 H2 D (whileN mc mb n ρ2 h2), ?_, ?_⟩
    · unfold mWhile at o
      split at o
      · rename_i ex
        exact ⟨_, m, ρ, h, s, rs, o⟩
      · exact o.elim
    · rintro n σ2 H2 ⟨m2, ρ2, h2, s2, rs2, o2⟩
      cases n with
      | zero => exact o2.elim
      | succ n =>
        unfold whileN at o2
        refine ⟨m2, ρ2, h2, s2, rs2, (OutS.bind rs2 o2).mono fun k H3 ⟨m3, h3, av, l3, s3, r3, o3⟩ => ?_⟩
        cases r3
        cases k with
        | false => exact iteF (o3 m3 H3 σ2 .refl s3 (rs2.le l3))
        | true =>
          refine iteT ⟨fun σ4 H4 => ∃ m4 ρ4 h4, Sim X.K X.mg m4 h4 H4 ∧ RS m4 H4 ρ4 σ4 ∧ OutS X.K X.mg W m4 H4 D (whileN mc mb n ρ4 h4), fun σ4 H4 z => ⟨n, Nat.lt_succ_self n, z⟩, m3, ρ2, h3, s3, rs2.le l3, ?_⟩
          simp only [if_true] at o3
          cases hb4 : mb ρ2 h3 with
          | nx ρ5 h5 =>
            rw [hb4] at o3
            exact fun m5 H5 σ5 l5 s5 rs5 => ⟨m5, ρ5, h5, s5, rs5, OutS.later o3 l5⟩
          | ct ρ5 h5 =>
            rw [hb4] at o3
            exact fun m5 H5 σ5 l5 s5 rs5 => ⟨m5, ρ5, h5, s5, rs5, OutS.later o3 l5⟩
          | bk ρ5 h5 => rw [hb4] at o3; exact o3
          | rt v5 h5 => rw [hb4] at o3; exact o3
          | ex e5 ρ5 h5 => rw [hb4] at o3; exact o3
          | no => rw [hb4] at o3; exact o3
/-! ### methods of built-in types -/
def MtM' (X : Cx) (W : WX) (id : String) (f : PV → List PV → HS → R PV) : Prop :=
  ∃ r, MtR X id r ∧ ∀ m h H σ Q x xs v vs, Sim X.K X.mg m h H → RV m H x v → RVs m H xs vs → Out X.K X.mg W RV m H σ Q (f x xs h) → r v vs H Q
/-- the receiver is seen first -/
def mMeth (T : PV → HS → Bool) (f : PV → List PV → HS → R PV) (a : Mi PV) (as : Mi (List PV)) (ρ : Pn) (h : HS) : R PV := (a ρ h).bind fun x h1 => if T x h1 = true then (as ρ h1).bind fun xs h2 => f x xs h2 else .no
@[simp] def isLst (x : PV) (h : HS) : Bool := (lstOf h x).isSome
@[simp] def isDic (x : PV) (h : HS) : Bool := (dicOf h x).isSome
@[simp] def isStr (x : PV) (_ : HS) : Bool := match x with
  | .str _ => true
  | _ => false
def TyOk (X : Cx) (T : String) (t : PV → HS → Bool) : Prop := ∀ m h H x v, Sim X.K X.mg m h H → RV m H x v → t x h = true → tyV X.K T v H
theorem ty_list : TyOk X "list" isLst := fun m h H x v s r e => by
  obtain ⟨xs, e1⟩ := Option.isSome_iff_exists.mp e
  obtain ⟨a, ys, rfl, q, _⟩ := lstOf_at s r e1
  exact .inl ⟨rfl, _, SqL.of q⟩
theorem ty_dict : TyOk X "dict" isDic := fun m h H x v s r e => by
  obtain ⟨xs, e1⟩ := Option.isSome_iff_exists.mp e
  obtain ⟨a, ys, rfl, q, _⟩ := dicOf_at s r e1
  exact .inr (.inr (.inl ⟨rfl, .inl ⟨_, q⟩⟩))
theorem ty_str : TyOk X "str" isStr := fun m h H x v s r e => by
  cases r <;> first | rfl | cases e
theorem em_meth {o e : Expr} {es : List Expr} {mo : Mi PV} {mes : Mi (List PV)} {name : Str} {apos : Pos} {T id : String} {t : PV → HS → Bool} {f : PV → List PV → HS → R PV} (pa : PlainAttrs T) (slot : Slot T name id) (hty : typeOf (.builtin id) = pure (.type "method_descriptor")) (tt : TyOk X T t) (hm : MtM' X W id f) (ho : PEm X W o mo) (ha : PAm X W (e :: es) mes)
    (hbase : attributeBase o name X.env (eval o X.env) = eval o X.env := by rfl)
    (hfew : ((backTo pos (starEach (e :: es) X.env)).all (fun x => !x.1) && (backToKw pos (keywordEach [] X.env)).all (fun x => x.1.isSome)
      && decide ((e :: es).length + ([] : List Keyword).length + (if ([] : List Keyword).isEmpty then 0 else 1) < 30)) = true := by rfl)
    (hline : (apos.endLine == pos.line) = true := by rfl) (hs : starEach (e :: es) X.env = (false, eval e X.env) :: starEach es X.env := by rfl) (hplain : (backTo pos (starEach es X.env)).any (·.1) = false := by rfl) :
    PEm X W (.Call (.Attribute o name apos) (e :: es) [] pos) (mMeth t f mo mes) := by
  obtain ⟨r, h1, h2⟩ := hm
  exact wkE (pe_bm pa slot hty h1 ho ha hbase hfew hline hs hplain) fun σ H Q ⟨m, ρ, h, s, rs, oo⟩ => ⟨m, ρ, h, s, rs, oo.bind.mono fun x H1 ⟨m1, h1, av, l1, s1, r1, o1⟩ => by
    split at o1
    · rename_i ht
      exact ⟨tt _ _ _ _ _ s1 r1 ht, m1, ρ, h1, s1, rs.le l1, o1.bind.mono fun xs H2 ⟨m2, h2', bv, l2, s2, r2, o2⟩ => h2 _ _ _ _ _ _ _ _ _ s2 (r1.le l2) r2 o2⟩
    · exact o1.elim⟩
theorem em_meth0 {o : Expr} {mo : Mi PV} {name : Str} {apos : Pos} {T id : String} {t : PV → HS → Bool} {f : PV → List PV → HS → R PV} (pa : PlainAttrs T) (slot : Slot T name id) (hty : typeOf (.builtin id) = pure (.type "method_descriptor")) (tt : TyOk X T t) (hm : MtM' X W id f) (ho : PEm X W o mo)
    (hbase : attributeBase o name X.env (eval o X.env) = eval o X.env := by rfl) (hline : (apos.endLine == pos.line) = true := by rfl) :
    PEm X W (.Call (.Attribute o name apos) [] [] pos) (mMeth t f mo mNil) := by
  obtain ⟨r, h1, h2⟩ := hm
  exact wkE (pe_bm0 pa slot hty h1 ho hbase hline) fun σ H Q ⟨m, ρ, h, s, rs, oo⟩ => ⟨m, ρ, h, s, rs, oo.bind.mono fun x H1 ⟨m1, h1, av, l1, s1, r1, o1⟩ => by
    split at o1
    · rename_i ht
      exact ⟨tt _ _ _ _ _ s1 r1 ht, h2 _ _ _ _ _ _ _ _ _ s1 r1 .nil o1⟩
    · exact o1.elim⟩
@[simp] def lApp : PV → List PV → HS → R PV := fun x xs h => match x, xs with
  | .ref n, [y] => match h[n]? with
    | some (.lst ys) => if ys.length < 16777216 then .ok .non (h.set n (.lst (ys ++ [y]))) else .no
    | _ => .no
  | _, _ => .no
@[simp] def lExt : PV → List PV → HS → R PV := fun x xs h => match x, xs with
  | .ref n, [.ref k] => match h[n]?, h[k]? with
    | some (.lst ys), some (.lst zs) => if ys.length + zs.length ≤ 16777216 then .ok .non (h.set n (.lst (ys ++ zs))) else .no
    | _, _ => .no
  | _, _ => .no
@[simp] def lPop0 : PV → List PV → HS → R PV := fun x xs h => match x, xs with
  | .ref n, [] => match h[n]? with
    | some (.lst ys) => match ys[ys.length - 1]? with
      | some y => .ok y (h.set n (.lst ys.dropLast))
      | none => .no
    | _ => .no
  | _, _ => .no
@[simp] def lClear : PV → List PV → HS → R PV := fun x xs h => match x, xs with
  | .ref n, [] => match h[n]? with
    | some (.lst _) => .ok .non (h.set n (.lst []))
    | _ => .no
  | _, _ => .no
@[simp] def lRev : PV → List PV → HS → R PV := fun x xs h => match x, xs with
  | .ref n, [] => match h[n]? with
    | some (.lst ys) => .ok .non (h.set n (.lst ys.reverse))
    | _ => .no
  | _, _ => .no
theorem new_put {W : WX} {m : List Addr} {h : HS} {H : Hp} {σ : St} {Q : VK} {n : Nat} {a : Addr} {xs xs' : List PV} {ys ys' : List V} {x : PV} {v : V} (s : Sim X.K X.mg m h H) (e : h[n]? = some (.lst xs)) (g : m[n]? = some a) (hH : H a = some (.lst ys)) (r : RVs m H xs' ys') (rv : RV m H x v) (o : Out X.K X.mg W RV m H σ Q (.ok x (h.set n (.lst xs')))) : Q v (upd H a (.lst ys')) := by
  have l : Le m H m (upd H a (.lst ys')) := le_put g hH trivial
  exact o m _ v l (s.put e g ⟨_, upd_same, r.le l⟩) (rv.le l)
theorem RVs.dropLast {m : List Addr} {H : Hp} {xs : List PV} {vs : List V} (r : RVs m H xs vs) : RVs m H xs.dropLast vs.dropLast := by
  rw [List.dropLast_eq_take, List.dropLast_eq_take, r.length]
  exact r.take _
theorem l_app : MtM' X W "list.append" lApp := by
  refine ⟨_, mt_append, fun m h H σ Q x xs v vs s r rr o => ?_⟩
  unfold lApp at o
  split at o
  · obtain ⟨w, rfl, ry⟩ := rr.one
    split at o
    · rename_i ys e
      split at o
      · rename_i hl
        cases r with
        | ref g =>
          obtain ⟨zs, q, rz⟩ := s.obj _ _ _ e g
          exact ⟨_, zs, w, rfl, rfl, q, by rw [line16, ← rz.length]; exact hl, new_put s e g q (rz.app (.cons ry .nil)) .non o⟩
      · exact o.elim
    · exact o.elim
  · exact o.elim
theorem l_ext : MtM' X W "list.extend" lExt := by
  refine ⟨_, mt_extend, fun m h H σ Q x xs v vs s r rr o => ?_⟩
  unfold lExt at o
  split at o
  · obtain ⟨w, rfl, ry⟩ := rr.one
    split at o
    · rename_i ys zs e e'
      split at o
      · rename_i hl
        cases r with
        | ref g =>
          cases ry with
          | ref g' =>
            obtain ⟨us, q, rz⟩ := s.obj _ _ _ e g
            obtain ⟨ws, q', rz'⟩ := s.obj _ _ _ e' g'
            exact ⟨_, _, us, ws, rfl, rfl, q, q', by rw [line16, ← rz.length, ← rz'.length]; exact hl, new_put s e g q (rz.app rz') .non o⟩
      · exact o.elim
    · exact o.elim
  · exact o.elim
theorem l_pop0 : MtM' X W "list.pop" lPop0 := by
  refine ⟨_, mt_pop, fun m h H σ Q x xs v vs s r rr o => ?_⟩
  unfold lPop0 at o
  split at o
  · cases rr
    split at o
    · rename_i ys e
      split at o
      · rename_i y ey
        cases r with
        | ref g =>
          obtain ⟨us, q, rz⟩ := s.obj _ _ _ e g
          obtain ⟨w, ew, rw'⟩ := rz.get ey
          exact ⟨_, us, w, rfl, rfl, q, by rw [← rz.length]; exact ew, new_put s e g q rz.dropLast rw' o⟩
      · exact o.elim
    · exact o.elim
  · exact o.elim
theorem l_clear : MtM' X W "list.clear" lClear := by
  refine ⟨_, mt_clear, fun m h H σ Q x xs v vs s r rr o => ?_⟩
  unfold lClear at o
  split at o
  · cases rr
    split at o
    · rename_i ys e
      cases r with
      | ref g =>
        obtain ⟨us, q, rz⟩ := s.obj _ _ _ e g
        exact ⟨_, us, rfl, rfl, q, new_put s e g q .nil .non o⟩
    · exact o.elim
  · exact o.elim
theorem l_rev : MtM' X W "list.reverse" lRev := by
  refine ⟨_, mt_reverse, fun m h H σ Q x xs v vs s r rr o => ?_⟩
  unfold lRev at o
  split at o
  · cases rr
    split at o
    · rename_i ys e
      cases r with
      | ref g =>
        obtain ⟨us, q, rz⟩ := s.obj _ _ _ e g
        exact ⟨_, us, rfl, rfl, q, new_put s e g q rz.rev .non o⟩
    · exact o.elim
  · exact o.elim
end
end Lt
namespace Lt
open PySem PySem.Spec PyProof.Rows L2
@[simp] def pairP (x y : PV) : PV := .tup [x, y]
@[simp] def isL : PV → Bool
  | .ref _ => true
  | _ => false
@[simp] def zipS : List PV → HS → R Src
  | [x, y], h => match seqOf h x, seqOf h y with
    | some xs, some ys => if isL x = isL y then .ok ⟨List.zipWith pairP xs ys, fun h' => seqOf h' x = some xs ∧ seqOf h' y = some ys⟩ h else .no
    | _, _ => .no
  | _, _ => .no
section
variable {X : Cx} {W : WX} {m : List Addr} {H : Hp} {h : HS} {K : PySem.W.Frag} {mg : Str → Option Value}
theorem tupOf_at {x : PV} {v : V} {xs : List PV} (r : RV m H x v) (e : seqOf h x = some xs) (n : isL x = false) : ∃ a ys, v = .ref a ∧ H a = some (.tup ys) ∧ RVs m H xs ys := by
  cases r with
  | tup g rr => cases e; exact ⟨_, _, rfl, g, rr⟩
  | ref g => cases n
  | _ => cases e
theorem lstOf_at2 (s : Sim K mg m h H) {x : PV} {v : V} {xs : List PV} (r : RV m H x v) (e : seqOf h x = some xs) (n : isL x = true) : ∃ k a ys, x = .ref k ∧ m[k]? = some a ∧ v = .ref a ∧ SqL K H a ys ∧ RVs m H xs ys := by
  cases r with
  | ref g =>
    obtain ⟨ys, q, rr⟩ := refOf_at s g e
    exact ⟨_, _, ys, rfl, g, rfl, q, rr⟩
  | _ => cases n
theorem zip_get {xs ys : List PV} {i : Nat} {z : PV} (e : (List.zipWith pairP xs ys)[i]? = some z) : ∃ x y, xs[i]? = some x ∧ ys[i]? = some y ∧ z = .tup [x, y] := by
  rw [List.getElem?_zipWith] at e
  cases hx : xs[i]? with
  | none => rw [hx] at e; cases e
  | some x =>
    cases hy : ys[i]? with
    | none => rw [hx, hy] at e; cases e
    | some y =>
      rw [hx, hy] at e
      exact ⟨x, y, rfl, rfl, (Option.some.inj e).symm⟩
theorem le_pair {T : Addr} {x y : PV} {v w : V} (s : Sim K mg m h H) (hT : H T = none) (rx : RV m H x v) (ry : RV m H y w) : Le m H m (upd H T (.tup [v, w])) ∧ Sim K mg m h (upd H T (.tup [v, w])) ∧ RV m (upd H T (.tup [v, w])) (.tup [x, y]) (.ref T) :=
  ⟨le_new hT _, s.junk hT _, .tup upd_same (.cons (rx.le (le_new hT _)) (.cons (ry.le (le_new hT _)) .nil))⟩
theorem ri_zipL {x y : PV} {a b : Addr} {k l : Nat} {xs ys : List PV} (ex : x = .ref k) (ey : y = .ref l) (ga : m[k]? = some a) (gb : m[l]? = some b) :
    RI K mg m H ⟨List.zipWith pairP xs ys, fun h' => seqOf h' x = some xs ∧ seqOf h' y = some ys⟩ (Itz K a b) := fun i m2 h2 H2 l2 s2 ⟨g1, g2⟩ => by
  subst ex ey
  obtain ⟨vs, q1, r1⟩ := refOf_at s2 (l2.get ga) g1
  obtain ⟨ws, q2, r2⟩ := refOf_at s2 (l2.get gb) g2
  refine ⟨fun z hz => ?_, fun hl => ⟨vs, ws, q1, q2, ?_⟩⟩
  · obtain ⟨x', y', e1, e2, rfl⟩ := zip_get hz
    obtain ⟨v, ev, rv⟩ := r1.get e1
    obtain ⟨w, ew, rw'⟩ := r2.get e2
    refine ⟨⟨vs, ws, v, w, q1, q2, ev, ew⟩, fun u H' ⟨T, x2, y2, eu, hT, eH, f1, f2⟩ => ?_⟩
    have e3 := f1 _ q1
    have e4 := f2 _ q2
    rw [ev] at e3
    rw [ew] at e4
    cases e3
    cases e4
    subst eu eH
    exact le_pair s2 hT rv rw'
  · simp only [List.length_zipWith] at hl
    rw [← r1.length, ← r2.length]
    omega
theorem ri_zipT {a b : Addr} {xs ys : List PV} {vs ws : List V} (ga : H a = some (.tup vs)) (gb : H b = some (.tup ws)) (ra : RVs m H xs vs) (rb : RVs m H ys ws) {gd : HS → Prop} :
    RI K mg m H ⟨List.zipWith pairP xs ys, gd⟩ (RZ.ItzT K a b) := fun i m2 h2 H2 l2 s2 _ => by
  have q1 := SqT.of (K := K) (l2.tup _ _ ga)
  have q2 := SqT.of (K := K) (l2.tup _ _ gb)
  have r1 := ra.le l2
  have r2 := rb.le l2
  refine ⟨fun z hz => ?_, fun hl => ⟨vs, ws, q1, q2, ?_⟩⟩
  · obtain ⟨x', y', e1, e2, rfl⟩ := zip_get hz
    obtain ⟨v, ev, rv⟩ := r1.get e1
    obtain ⟨w, ew, rw'⟩ := r2.get e2
    refine ⟨⟨vs, ws, v, w, q1, q2, ev, ew⟩, fun u H' ⟨T, x2, y2, eu, hT, eH, f1, f2⟩ => ?_⟩
    have e3 := f1 _ q1
    have e4 := f2 _ q2
    rw [ev] at e3
    rw [ew] at e4
    cases e3
    cases e4
    subst eu eH
    exact le_pair s2 hT rv rw'
  · simp only [List.length_zipWith] at hl
    rw [← r1.length, ← r2.length]
    omega
theorem im_zip {e e2 : Expr} {ma : Mi (List PV)} {p pos tpos : Pos} {elts : List Expr} {kk : Nat} (hm : X.mg "zip" = none) (ha : PAm X W [e, e2] ma) (hg : Gl X "zip" := by rfl)
    (hs : starEach [e, e2] X.env = (false, eval e X.env) :: starEach [e2] X.env := by rfl) (hpl : (backTo pos (starEach [e2] X.env)).any (·.1) = false := by rfl) : PIm X W (.Tuple elts kk tpos) (.Call (.Name "zip" p) [e, e2] [] pos) (m1 zipS ma) :=
  wkI (RZ.pi_zipA hg hm ha hs hpl) fun σ H R ⟨m, ρ, h, s, rs, o⟩ => ⟨m, ρ, h, s, rs, o.bind.mono fun vs H1 ⟨m1, h1, av, l1, s1, r1, o1⟩ => by
    have inv : ∃ x y xs ys, av = [x, y] ∧ seqOf h1 x = some xs ∧ seqOf h1 y = some ys ∧ isL x = isL y ∧ zipS av h1 = .ok ⟨List.zipWith pairP xs ys, fun h' => seqOf h' x = some xs ∧ seqOf h' y = some ys⟩ h1 := by
      revert o1
      unfold zipS
      intro o1
      split at o1
      · split at o1
        · split at o1
          · rename_i z
            exact ⟨_, _, _, _, rfl, by assumption, by assumption, z, if_pos z⟩
          · exact o1.elim
        · exact o1.elim
      · exact o1.elim
    obtain ⟨x, y, xs, ys, rfl, e1, e2, el, ez⟩ := inv
    rw [ez] at o1
    obtain ⟨v, w, rfl, rx, ry⟩ := r1.two
    · · skip
        cases hx : isL x with
        | true =>
          cases hy : isL y with
          | true =>
            obtain ⟨k, a, vs, ex, ga, rfl, qa, _⟩ := lstOf_at2 s1 rx e1 hx
            obtain ⟨l, b, ws, ey, gb, rfl, qb, _⟩ := lstOf_at2 s1 ry e2 hy
            exact ⟨a, b, vs, ws, rfl, .inl ⟨qa, qb, o1 m1 H1 _ .refl s1 (ri_zipL ex ey ga gb)⟩⟩
          | false => rw [hx, hy] at el; cases el
        | false =>
          cases hy : isL y with
          | true => rw [hx, hy] at el; cases el
          | false =>
            obtain ⟨a, vs, rfl, ga, ra⟩ := tupOf_at rx e1 hx
            obtain ⟨b, ws, rfl, gb, rb⟩ := tupOf_at ry e2 hy
            exact ⟨a, b, vs, ws, rfl, .inr ⟨SqT.of ga, SqT.of gb, o1 m1 H1 _ .refl s1 (ri_zipT ga gb ra rb)⟩⟩⟩
/-! ### enumerate -/
def enumP (i : Nat) : List PV → List PV
  | [] => []
  | x :: xs => .tup [.int (i : Int), x] :: enumP (i + 1) xs
theorem enum_get : ∀ {xs : List PV} {i k : Nat} {z : PV}, (enumP k xs)[i]? = some z → ∃ x, xs[i]? = some x ∧ z = .tup [.int ((k + i : Nat) : Int), x]
  | [], i, k, z, e => by cases e
  | x :: xs, 0, k, z, e => ⟨x, rfl, (Option.some.inj e).symm⟩
  | x :: xs, i + 1, k, z, e => by
    obtain ⟨y, h1, h2⟩ := enum_get (xs := xs) (i := i) (k := k + 1) e
    refine ⟨y, h1, ?_⟩
    rw [h2, show k + 1 + i = k + (i + 1) by omega]
theorem enum_len : ∀ (xs : List PV) (k : Nat), (enumP k xs).length = xs.length
  | [], _ => rfl
  | x :: xs, k => by
    show (enumP (k + 1) xs).length + 1 = xs.length + 1
    rw [enum_len xs]
@[simp] def enumS : List PV → HS → R Src
  | [x], h => match seqOf h x with
    | some xs => if isL x = true then .ok ⟨enumP 0 xs, fun h' => seqOf h' x = some xs⟩ h else .no
    | _ => .no
  | _, _ => .no
theorem im_enum {e : Expr} {ma : Mi (List PV)} {p pos tpos : Pos} {elts : List Expr} {kk : Nat} (hm : X.mg "enumerate" = none) (ha : PAm X W [e] ma) (hg : Gl X "enumerate" := by rfl)
    (hs : starEach [e] X.env = [(false, eval e X.env)] := by rfl) : PIm X W (.Tuple elts kk tpos) (.Call (.Name "enumerate" p) [e] [] pos) (m1 enumS ma) :=
  wkI (pi_enum hg hm ha hs) fun σ H R ⟨m, ρ, h, s, rs, o⟩ => ⟨m, ρ, h, s, rs, o.bind.mono fun vs H1 ⟨m1, h1, av, l1, s1, r1, o1⟩ => by
    have inv : ∃ x xs, av = [x] ∧ seqOf h1 x = some xs ∧ isL x = true ∧ enumS av h1 = .ok ⟨enumP 0 xs, fun h' => seqOf h' x = some xs⟩ h1 := by
      revert o1
      unfold enumS
      intro o1
      split at o1
      · split at o1
        · split at o1
          · rename_i z
            exact ⟨_, _, rfl, by assumption, z, if_pos z⟩
          · exact o1.elim
        · exact o1.elim
      · exact o1.elim
    obtain ⟨x, xs, rfl, e1, el, ez⟩ := inv
    rw [ez] at o1
    obtain ⟨v, rfl, rx⟩ := r1.one
    · · skip
        cases hx : isL x with
        | true =>
          obtain ⟨k, a, vs, ex, ga, rfl, qa, _⟩ := lstOf_at2 s1 rx e1 hx
          refine ⟨a, vs, rfl, qa, o1 m1 H1 _ .refl s1 fun i m2 h2 H2 l2 s2 g1 => ?_⟩
          subst ex
          obtain ⟨vs, q1, r1⟩ := refOf_at s2 (l2.get ga) g1
          refine ⟨fun z hz => ?_, fun hl => ⟨vs, q1, by rw [enum_len] at hl; rw [← r1.length]; exact hl⟩⟩
          obtain ⟨x', e3, rfl⟩ := enum_get hz
          obtain ⟨v, ev, rv⟩ := r1.get e3
          refine ⟨⟨vs, v, q1, ev⟩, fun u H' ⟨T, x2, eu, hT, eH, f1⟩ => ?_⟩
          have e4 := f1 _ q1
          rw [ev] at e4
          cases e4
          subst eu eH
          rw [Nat.zero_add]
          exact le_pair s2 hT (.int _) rv
        | false => rw [hx] at el; cases el⟩
end
end Lt
namespace Lt
open PySem PySem.Spec PyProof.Rows L2
/-! ### a law's own beginning -/
def stDic (c : Nat) (t : Int) : HB := .dic [(Sum.inr "cells", .ref c), (Sum.inr "turn", .int t)]
def spBegin (K : PySem.W.Frag) : Sp := fun vs H Q _ => ∃ (a : Addr) (ns : List Int), vs = [.ref a] ∧ SqL K H a (ns.map V.int) ∧ ns.length ≤ 63 ∧
  ∀ H' pc pd (cs : List Int), cs ≠ [] → cs.length ≤ 63 → pc ≠ pd → H' pc = some (.lst (cs.map V.int)) → H' pd = some (.dK [(Sum.inr "cells", .ref pc), (Sum.inr "turn", .int 0)]) → Q (.ref pd) H'
def BeginOk (b : Ms) : Prop := ∀ cs0 : List Int, ∃ n h' c cs, b [none, some (.ref 0)] [.lst (cs0.map PV.int)] = .rt (.ref n) h' ∧ h'[n]? = some (stDic c 0) ∧ h'[c]? = some (.lst (cs.map PV.int)) ∧ cs ≠ [] ∧ (cs0.length ≤ 63 → cs.length ≤ 63)
theorem cutV_ints (ns : List Int) (lo hi : Option Int) : ∃ cs : List Int, cutV (ns.map V.int) lo hi = cs.map V.int ∧ cs.length ≤ ns.length := by
  refine ⟨(ns.drop (HT.sIx ns.length 0 lo)).take (HT.sIx ns.length ns.length hi - HT.sIx ns.length 0 lo), ?_, ?_⟩
  · unfold cutV
    rw [List.length_map, List.map_take, List.map_drop]
  · rw [List.length_take, List.length_drop]
    omega
theorem begin_read {K : PySem.W.Frag} {mg : Str → Option Value} {W : WX} {a : Addr} {ns : List Int} {H : Hp} {Q : VK} {b : Ms} (hb : BeginOk b) (hS : SqL K H a (ns.map V.int)) (hl : ns.length ≤ 63)
    (q : ∀ H' pc pd (cs : List Int), cs ≠ [] → cs.length ≤ 63 → pc ≠ pd → H' pc = some (.lst (cs.map V.int)) → H' pd = some (.dK [(Sum.inr "cells", .ref pc), (Sum.inr "turn", .int 0)]) → Q (.ref pd) H') :
    tSeq (tAsg (tCB (fun xs H Q => ∃ p ys, xs = [.ref p] ∧ (SqL K H p ys ∨ SqT K H p ys) ∧ ∀ l, H l = none → Q (.ref l) (upd H l (.lst ys))) (tCons (tSl (rSlL K) (tVar 0) tNoPart (tPart (tC (.int 63)))) tNil)) (gName 1)) (tMS K mg W b) { nx := fun _ H' => Q .non H', rt := Q } [some (.ref a), none] H := by
  refine ⟨.ref a, rfl, 63, rfl, a, ns.map V.int, rfl, hS, fun p hp => ?_⟩
  refine ⟨p, _, rfl, .inl (SqL.of upd_same), fun l hl2 => ?_⟩
  obtain ⟨cs0, e0, hl0⟩ := cutV_ints ns none (some 63)
  rw [e0]
  obtain ⟨n, h', c, cs, eb, en, ec, hne, hlen⟩ := hb cs0
  refine ⟨[l], [none, some (.ref 0)], [.lst (cs0.map PV.int)], ⟨rfl, fun i o a' e1 e2 => ?_, fun i j a' oi oj e1 e2 e3 e4 => ?_⟩, .cons (.any _) (.cons (.val (.ref rfl)) .nil), ?_⟩
  · cases i with
    | zero =>
      cases e1
      cases e2
      exact ⟨_, upd_same, RVs.ints cs0⟩
    | succ i => simp at e1
  · cases i with
    | zero =>
      cases j with
      | zero => rfl
      | succ j => simp at e2
    | succ i => simp at e1
  · rw [eb]
    intro m' H' w l' s' r'
    cases r' with
    | ref g =>
      obtain ⟨vs, g1, rk⟩ := s'.obj _ _ _ en g
      cases rk with
      | cons r1 t1 =>
        cases t1 with
        | cons r2 t2 =>
          cases t2
          cases r1 with
          | ref g2 =>
            cases r2
            obtain ⟨ys, g3, rr⟩ := s'.obj _ _ _ ec g2
            have ey : ys = cs.map V.int := intsOf_at rr (by
              clear hne hlen ec en eb rr g3
              induction cs with
              | nil => rfl
              | cons x r ih => simp only [List.map_cons, intsOf, ih, Option.map_some])
            subst ey
            exact q H' _ _ cs hne (hlen (by omega)) (ne_of g3 g1 fun z => by cases z) g3 g1
/-- the state at the law's second statement -/
def LawOk (n : Nat) (b : Ms) : Prop := ∀ cs : List Int, cs ≠ [] → cs.length ≤ 63 → ∃ h', b (none :: some (.ref 1) :: List.replicate n none) [.lst (cs.map PV.int), stDic 0 0] = .rt (.bl true) h'
def spLaw (K : PySem.W.Frag) : Sp := fun vs H Q _ => ∃ (a : Addr) (ns : List Int), vs = [.ref a] ∧ SqL K H a (ns.map V.int) ∧ ns.length ≤ 63 ∧ ∀ H', Q (.bl true) H'
theorem law_read {K : PySem.W.Frag} {mg : Str → Option Value} {W : WX} {H : Hp} {Q : VK} {b : Ms} {n : Nat} {pc pd : Addr} {cs : List Int} {v0 : Option V} (hb : LawOk n b) (h1 : cs ≠ []) (h2 : cs.length ≤ 63) (hne : pc ≠ pd) (g1 : H pc = some (.lst (cs.map V.int)))
    (g2 : H pd = some (.dK [(Sum.inr "cells", .ref pc), (Sum.inr "turn", .int 0)])) (q : ∀ H', Q (.bl true) H') {D : Ends} (hD : D.rt = Q) : tMS K mg W b D (v0 :: some (.ref pd) :: List.replicate n none) H := by
  obtain ⟨h', eb⟩ := hb cs h1 h2
  refine ⟨[pc, pd], _, _, ⟨rfl, fun i o a' e1 e2 => ?_, fun i j a' oi oj e1 e2 e3 e4 => ?_⟩, ?_, by rw [eb]; exact fun m' H' w l s r => by cases r; rw [hD]; exact q H'⟩
  · cases i with
    | zero =>
      cases e1
      cases e2
      exact ⟨_, g1, RVs.ints cs⟩
    | succ i =>
      cases i with
      | zero =>
        cases e1
        cases e2
        exact ⟨_, g2, .cons (.ref rfl) (.cons (.int 0) .nil)⟩
      | succ i => simp at e1
  · have hi : i = 0 ∨ i = 1 := by
      have := (List.getElem?_eq_some_iff.mp e1).1
      simp only [List.length_cons, List.length_nil] at this
      omega
    have hj : j = 0 ∨ j = 1 := by
      have := (List.getElem?_eq_some_iff.mp e2).1
      simp only [List.length_cons, List.length_nil] at this
      omega
    rcases hi with rfl | rfl <;> rcases hj with rfl | rfl
    · rfl
    · cases e3
      cases e4
      exact absurd rfl hne
    · cases e3
      cases e4
      exact absurd rfl hne
    · rfl
  · refine .cons (.any _) (.cons (.val (.ref rfl)) ?_)
    induction n with
    | zero => exact .nil
    | succ n ih => exact .cons (.any _) (RS.le .refl (by
        clear ih eb hb
        induction n with
        | zero => exact .nil
        | succ n ih => exact .cons (.any _) ih))
/-! ### the defs as they stand behind the top -/
def Stands (K : PySem.W.Frag) (x : Str) (st : Stmt) : Prop := ∃ (f : Addr) (oc : Value) (od : Option Addr) (kV dc pm : Value) (an : Option Addr) (cd ct : Value) (sl : Array (Option Value)),
  PySem.W.nsIn K mainGlobals x = some (some (.ref f)) ∧ K.lookup f = some ⟨oc, od, .func (PySem.W.fnOf x x (defArgs st) (defBody st) (defScope st) .none kV dc pm an cd ct), sl⟩ ∧ PySem.W.codeIn K cd x = true ∧ PySem.W.keepIn K (.ref f) = true
theorem Stands.mk' {K : PySem.W.Frag} {x : Str} {st : Stmt} {f : Addr} {oc : Value} {od : Option Addr} {kV dc pm : Value} {an : Option Addr} {cd ct : Value} {sl : Array (Option Value)}
    (a : PySem.W.nsIn K mainGlobals x = some (some (.ref f))) (l : K.lookup f = some ⟨oc, od, .func (PySem.W.fnOf x x (defArgs st) (defBody st) (defScope st) .none kV dc pm an cd ct), sl⟩) (c : PySem.W.codeIn K cd x = true) (k : PySem.W.keepIn K (.ref f) = true) : Stands K x st :=
  ⟨f, oc, od, kV, dc, pm, an, cd, ct, sl, a, l, c, k⟩
theorem Stands.get {K : PySem.W.Frag} {x : Str} {st : Stmt} {h : Heap} {mg : Str → Option Value} (X : K.In h) (G : h.Ns mainGlobals mg) (S : Stands K x st) : ∃ f fd, Fun K x x st f fd ∧ mg x = some (.ref f) ∧ ∃ (kV dc pm : Value) (an : Option Addr) (cd ct : Value), fd = PySem.W.fnOf x x (defArgs st) (defBody st) (defScope st) .none kV dc pm an cd ct := by
  obtain ⟨f, oc, od, kV, dc, pm, an, cd, ct, sl, a, l, c, k⟩ := S
  exact ⟨f, _, fun_mk (st := st) l c k, PySem.W.mg_of X G a, kV, dc, pm, an, cd, ct, rfl⟩
theorem cx_false {P : Program} {w : World} {H : Hp} {s s' : Shared} {e : Value} (h : L2.CX P w [] H s (fun _ _ _ => False) e s') : False := by
  obtain ⟨_, _, _, _, _, _, _, _, _, _, _, _, z⟩ := h
  exact z.elim
end Lt
namespace Lt
open PySem L2
/-! ### what holds at the end -/
def W {α : Type} (r : R α) (Q : α → HS → Prop) (E : PX → HS → Prop) : Prop := match r with
  | .ok a h => Q a h
  | .ex e h => E e h
  | .no => False
structure Po where
  nx : Pn → HS → Prop := fun _ _ => False
  rt : PV → HS → Prop := fun _ _ => False
  bk : Pn → HS → Prop := fun _ _ => False
  ct : Pn → HS → Prop := fun _ _ => False
  ex : PX → HS → Prop := fun _ _ => False
def SW (r : SR) (D : Po) : Prop := match r with
  | .nx ρ h => D.nx ρ h
  | .rt v h => D.rt v h
  | .bk ρ h => D.bk ρ h
  | .ct ρ h => D.ct ρ h
  | .ex e _ h => D.ex e h
  | .no => False
def OW {β : Type} (r : Option β) (Q : β → Prop) : Prop := match r with
  | some z => Q z
  | none => False
section
variable {α β : Type} {Q : α → HS → Prop} {E : PX → HS → Prop} {D : Po}
@[simp] theorem W_ok (a : α) (h : HS) : W (.ok a h) Q E = Q a h := rfl
@[simp] theorem W_ex (e : PX) (h : HS) : W (.ex e h) Q E = E e h := rfl
@[simp] theorem W_no : W .no Q E = False := rfl
@[simp] theorem W_bind (r : R β) (f : β → HS → R α) : W (r.bind f) Q E = W r (fun a h => W (f a h) Q E) E := by cases r <;> rfl
@[simp] theorem W_thenR (r : R β) (f : β → HS → R α) : W (r.thenR f) Q E = W r (fun a h => W (f a h) Q E) (fun _ _ => False) := by cases r <;> rfl
@[simp] theorem W_ite {c : Prop} [Decidable c] (a b : R α) : W (if c then a else b) Q E = if c then W a Q E else W b Q E := by split <;> rfl
@[simp] theorem W_ret (r : SR) {Q : PV → HS → Prop} : W r.ret Q E = SW r { nx := fun _ h => Q .non h, rt := Q, ex := E } := by cases r <;> rfl
@[simp] theorem SW_nx (ρ : Pn) (h : HS) : SW (.nx ρ h) D = D.nx ρ h := rfl
@[simp] theorem SW_rt (v : PV) (h : HS) : SW (.rt v h) D = D.rt v h := rfl
@[simp] theorem SW_bk (ρ : Pn) (h : HS) : SW (.bk ρ h) D = D.bk ρ h := rfl
@[simp] theorem SW_ct (ρ : Pn) (h : HS) : SW (.ct ρ h) D = D.ct ρ h := rfl
@[simp] theorem SW_ex (e : PX) (ρ : Pn) (h : HS) : SW (.ex e ρ h) D = D.ex e h := rfl
@[simp] theorem SW_no : SW .no D = False := rfl
@[simp] theorem SW_ite {c : Prop} [Decidable c] (a b : SR) : SW (if c then a else b) D = if c then SW a D else SW b D := by split <;> rfl
@[simp] theorem SW_bindS (r : R α) (ρ : Pn) (f : α → HS → SR) : SW (r.bindS ρ f) D = W r (fun a h => SW (f a h) D) D.ex := by cases r <;> rfl
@[simp] theorem SW_thenS (r : R α) (f : α → HS → SR) : SW (r.thenS f) D = W r (fun a h => SW (f a h) D) (fun _ _ => False) := by cases r <;> rfl
@[simp] theorem SW_seq (r : SR) (b : Ms) : SW (r.seq b) D = SW r { nx := fun ρ h => SW (b ρ h) D, rt := D.rt, bk := D.bk, ct := D.ct, ex := D.ex } := by cases r <;> rfl
@[simp] theorem SW_loop (r : SR) (b : Ms) : SW (r.loop b) D = SW r { nx := fun ρ h => SW (b ρ h) D, rt := D.rt, bk := D.nx, ct := fun ρ h => SW (b ρ h) D, ex := D.ex } := by cases r <;> rfl
@[simp] theorem OW_thenO (r : R α) (f : α → HS → Option β) {Q : β → Prop} : OW (r.thenO f) Q = W r (fun a h => OW (f a h) Q) (fun _ _ => False) := by cases r <;> rfl
@[simp] theorem OW_some (a : β) {Q : β → Prop} : OW (some a) Q = Q a := rfl
@[simp] theorem OW_ite {c : Prop} [Decidable c] (a b : Option β) {Q : β → Prop} : OW (if c then a else b) Q = if c then OW a Q else OW b Q := by split <;> rfl
theorem OW_map {γ : Type} (r : Option γ) (f : γ → β) {Q : β → Prop} : OW (r.map f) Q = OW r (fun a => Q (f a)) := by cases r <;> rfl
theorem W_end (r : Option (List PV × HS)) {Q : PV → HS → Prop} : W (lcEnd r) Q E = OW r (fun a => W (dLst a.1 a.2) Q E) := by cases r <;> rfl
theorem W.mono {r : R α} {Q' : α → HS → Prop} {E' : PX → HS → Prop} (w : W r Q E) (q : ∀ a h, Q a h → Q' a h) (e : ∀ a h, E a h → E' a h) : W r Q' E' := by
  cases r with
  | ok a h => exact q a h w
  | ex a h => exact e a h w
  | no => exact w
theorem W.of {r : R α} {a : α} {h : HS} (e : r = .ok a h) (q : Q a h) : W r Q E := by rw [e]; exact q
theorem W.get {r : R α} (w : W r Q (fun _ _ => False)) : ∃ a h, r = .ok a h ∧ Q a h := by
  cases r with
  | ok a h => exact ⟨a, h, rfl, w⟩
  | ex a h => exact w.elim
  | no => exact w.elim
theorem OW.get {r : Option β} {Q : β → Prop} (w : OW r Q) : ∃ a, r = some a ∧ Q a := by
  cases r with
  | some a => exact ⟨a, rfl, w⟩
  | none => exact w.elim
theorem OW.mono {r : Option β} {Q Q' : β → Prop} (w : OW r Q) (q : ∀ a, Q a → Q' a) : OW r Q' := by
  cases r with
  | some a => exact q a w
  | none => exact w
theorem SW.mono {r : SR} {D D' : Po} (w : SW r D) (h1 : ∀ ρ h, D.nx ρ h → D'.nx ρ h) (h2 : ∀ v h, D.rt v h → D'.rt v h) (h3 : ∀ ρ h, D.bk ρ h → D'.bk ρ h) (h4 : ∀ ρ h, D.ct ρ h → D'.ct ρ h) (h5 : ∀ e h, D.ex e h → D'.ex e h) : SW r D' := by
  cases r with
  | nx ρ h => exact h1 _ _ w
  | rt v h => exact h2 _ _ w
  | bk ρ h => exact h3 _ _ w
  | ct ρ h => exact h4 _ _ w
  | ex e ρ h => exact h5 _ _ w
  | no => exact w
end
/-! ### what is still to come, as a name -/
abbrev Qs (α : Type) := α → HS → Prop
abbrev Es := PX → HS → Prop
def kF : Es := fun _ _ => False
@[simp] theorem kF_eq (e : PX) (h : HS) : kF e h = False := rfl
section
variable {α β γ δ : Type}
@[simp] def k1 (f : α → HS → R β) (Q : Qs β) (E : Es) (x : α) (h : HS) : Prop := W (f x h) Q E
@[simp] def k3 (f : α → β → HS → R γ) (x : α) (Q : Qs γ) (E : Es) (y : β) (h : HS) : Prop := W (f x y h) Q E
@[simp] def k2 (f : α → β → HS → R γ) (b : Mi β) (ρ : Pn) (Q : Qs γ) (E : Es) (x : α) (h : HS) : Prop := W (b ρ h) (k3 f x Q E) E
@[simp] def k4 (f : α → β → γ → HS → R δ) (b : Mi β) (c : Mi γ) (ρ : Pn) (Q : Qs δ) (E : Es) (x : α) (h : HS) : Prop := W (b ρ h) (k2 (f x) c ρ Q E) E
@[simp] def kIf (a b : Mi α) (ρ : Pn) (Q : Qs α) (E : Es) (c : Bool) (h : HS) : Prop := if c = true then W (a ρ h) Q E else W (b ρ h) Q E
@[simp] def kNot (Q : Qs Bool) (c : Bool) (h : HS) : Prop := Q (!c) h
@[simp] def kAndW (x : PV) (b : Mi PV) (ρ : Pn) (Q : Qs PV) (E : Es) (c : Bool) (h : HS) : Prop := if c = true then W (b ρ h) Q E else Q x h
@[simp] def kOrW (x : PV) (b : Mi PV) (ρ : Pn) (Q : Qs PV) (E : Es) (c : Bool) (h : HS) : Prop := if c = true then Q x h else W (b ρ h) Q E
@[simp] def kAndV (b : Mi PV) (ρ : Pn) (Q : Qs PV) (E : Es) (x : PV) (h : HS) : Prop := W (truth x h) (kAndW x b ρ Q E) E
@[simp] def kOrV (b : Mi PV) (ρ : Pn) (Q : Qs PV) (E : Es) (x : PV) (h : HS) : Prop := W (truth x h) (kOrW x b ρ Q E) E
@[simp] def kNotW (Q : Qs PV) (c : Bool) (h : HS) : Prop := Q (.bl (!c)) h
@[simp] def kNotV (Q : Qs PV) (E : Es) (x : PV) (h : HS) : Prop := W (truth x h) (kNotW Q) E
@[simp] def kVB (Q : Qs PV) (c : Bool) (h : HS) : Prop := Q (.bl c) h
@[simp] def kC2 (x : PV) (Q : Qs (List PV)) (xs : List PV) (h : HS) : Prop := Q (x :: xs) h
@[simp] def kC (b : Mi (List PV)) (ρ : Pn) (Q : Qs (List PV)) (E : Es) (x : PV) (h : HS) : Prop := W (b ρ h) (kC2 x Q) E
@[simp] def kCh4 (g : PV → PV → HS → R PV) (y : PV) (Q : Qs PV) (E : Es) (w : PV) (h : HS) : Prop := W (g y w h) Q E
@[simp] def kCh3 (g : PV → PV → HS → R PV) (y : PV) (mc : Mi PV) (ρ : Pn) (Q : Qs PV) (E : Es) (z : PV) (h : HS) : Prop := W (asB z h) (fun k h4 => if k = true then W (mc ρ h4) (kCh4 g y Q E) E else Q (.bl false) h4) E
@[simp] def kCh2 (f g : PV → PV → HS → R PV) (x : PV) (mc : Mi PV) (ρ : Pn) (Q : Qs PV) (E : Es) (y : PV) (h : HS) : Prop := W (f x y h) (kCh3 g y mc ρ Q E) E
@[simp] def kCh1 (f g : PV → PV → HS → R PV) (mb mc : Mi PV) (ρ : Pn) (Q : Qs PV) (E : Es) (x : PV) (h : HS) : Prop := W (mb ρ h) (kCh2 f g x mc ρ Q E) E
@[simp] def kP3 (x y : PV) (Q : Qs (List (PV × PV))) (xs : List (PV × PV)) (h : HS) : Prop := Q ((x, y) :: xs) h
@[simp] def kP2 (x : PV) (r : List (Mi PV × Mi PV)) (ρ : Pn) (Q : Qs (List (PV × PV))) (E : Es) (y : PV) (h : HS) : Prop := W (evalPs r ρ h) (kP3 x y Q) E
@[simp] def kP1 (b : Mi PV) (r : List (Mi PV × Mi PV)) (ρ : Pn) (Q : Qs (List (PV × PV))) (E : Es) (x : PV) (h : HS) : Prop := W (b ρ h) (kP2 x r ρ Q E) E
@[simp] def kMeth (T : PV → HS → Bool) (f : PV → List PV → HS → R PV) (as : Mi (List PV)) (ρ : Pn) (Q : Qs PV) (E : Es) (x : PV) (h : HS) : Prop := if T x h = true then W (as ρ h) (k1 (f x) Q E) E else False
@[simp] def kEnd (Q : Qs PV) (E : Es) (a : List PV × HS) : Prop := W (dLst a.1 a.2) Q E
@[simp] def kLc (is : List Nat) (g : Mg) (t : Mi Bool) (e : Mi PV) (ρ : Pn) (Q : Qs PV) (E : Es) (src : Src) (h : HS) : Prop := OW (lcGo src.guard g t e (wipeP ρ is) src.items h) (kEnd Q E)
variable {ρ : Pn} {h : HS} {E : Es}
@[simp] theorem W_m1 {f : α → HS → R β} {a : Mi α} {Q : Qs β} : W (m1 f a ρ h) Q E = W (a ρ h) (k1 f Q E) E := W_bind _ _
@[simp] theorem W_m2 {f : α → β → HS → R γ} {a : Mi α} {b : Mi β} {Q : Qs γ} : W (m2 f a b ρ h) Q E = W (a ρ h) (k2 f b ρ Q E) E := by
  unfold m2
  rw [W_bind]
  congr 1
  funext x h1
  exact W_bind _ _
@[simp] theorem W_m3 {f : α → β → γ → HS → R δ} {a : Mi α} {b : Mi β} {c : Mi γ} {Q : Qs δ} : W (m3 f a b c ρ h) Q E = W (a ρ h) (k4 f b c ρ Q E) E := by
  unfold m3
  rw [W_bind]
  congr 1
  funext x h1
  rw [W_bind]
  unfold k4
  congr 1
  funext y h2
  exact W_bind _ _
@[simp] theorem W_mIf {t : Mi Bool} {a b : Mi α} {Q : Qs α} : W (mIf t a b ρ h) Q E = W (t ρ h) (kIf a b ρ Q E) E := by
  unfold mIf
  rw [W_bind]
  congr 1
  funext x h1
  exact W_ite _ _
@[simp] theorem W_mAnd {a b : Mi Bool} {Q : Qs Bool} : W (mAnd a b ρ h) Q E = W (a ρ h) (kIf b (fun _ h => .ok false h) ρ Q E) E := by
  unfold mAnd
  rw [W_bind]
  congr 1
  funext x h1
  exact W_ite _ _
@[simp] theorem W_mOr {a b : Mi Bool} {Q : Qs Bool} : W (mOr a b ρ h) Q E = W (a ρ h) (kIf (fun _ h => .ok true h) b ρ Q E) E := by
  unfold mOr
  rw [W_bind]
  congr 1
  funext x h1
  exact W_ite _ _
@[simp] theorem W_mNot {a : Mi Bool} {Q : Qs Bool} : W (mNot a ρ h) Q E = W (a ρ h) (kNot Q) E := by
  unfold mNot
  rw [W_bind]
  rfl
@[simp] theorem W_mAndV {a b : Mi PV} {Q : Qs PV} : W (mAndV a b ρ h) Q E = W (a ρ h) (kAndV b ρ Q E) E := by
  unfold mAndV
  rw [W_bind]
  congr 1
  funext x h1
  rw [W_bind]
  unfold kAndV
  congr 1
  funext y h2
  exact W_ite _ _
@[simp] theorem W_mOrV {a b : Mi PV} {Q : Qs PV} : W (mOrV a b ρ h) Q E = W (a ρ h) (kOrV b ρ Q E) E := by
  unfold mOrV
  rw [W_bind]
  congr 1
  funext x h1
  rw [W_bind]
  unfold kOrV
  congr 1
  funext y h2
  exact W_ite _ _
@[simp] theorem W_mNotV {a : Mi PV} {Q : Qs PV} : W (mNotV a ρ h) Q E = W (a ρ h) (kNotV Q E) E := by
  unfold mNotV
  rw [W_bind]
  congr 1
  funext x h1
  rw [W_bind]
  rfl
@[simp] theorem W_mTru {a : Mi PV} {Q : Qs Bool} : W (mTru a ρ h) Q E = W (a ρ h) (k1 truth Q E) E := W_bind _ _
@[simp] theorem W_mVB {a : Mi Bool} {Q : Qs PV} : W (mVB a ρ h) Q E = W (a ρ h) (kVB Q) E := by
  unfold mVB
  rw [W_m1]
  rfl
@[simp] theorem W_mCons {a : Mi PV} {b : Mi (List PV)} {Q : Qs (List PV)} : W (mCons a b ρ h) Q E = W (a ρ h) (kC b ρ Q E) E := by
  unfold mCons
  rw [W_m2]
  rfl
@[simp] theorem W_mChain {f g : PV → PV → HS → R PV} {ma mb mc : Mi PV} {Q : Qs PV} : W (mChain f g ma mb mc ρ h) Q E = W (ma ρ h) (kCh1 f g mb mc ρ Q E) E := by
  unfold mChain
  simp only [W_bind, W_ite]
  rfl
@[simp] theorem W_evalPs_nil {Q : Qs (List (PV × PV))} : W (evalPs [] ρ h) Q E = Q [] h := rfl
@[simp] theorem W_evalPs_cons {a b : Mi PV} {r : List (Mi PV × Mi PV)} {Q : Qs (List (PV × PV))} : W (evalPs ((a, b) :: r) ρ h) Q E = W (a ρ h) (kP1 b r ρ Q E) E := by
  simp only [evalPs, W_bind]
  rfl
@[simp] theorem W_mDict {ps : List (Mi PV × Mi PV)} {Q : Qs PV} : W (mDict ps ρ h) Q E = W (evalPs ps ρ h) (k1 dDic Q E) E := W_bind _ _
@[simp] theorem W_mMeth {T : PV → HS → Bool} {f : PV → List PV → HS → R PV} {a : Mi PV} {as : Mi (List PV)} {Q : Qs PV} : W (mMeth T f a as ρ h) Q E = W (a ρ h) (kMeth T f as ρ Q E) E := by
  unfold mMeth
  simp only [W_bind, W_ite, W_no]
  rfl
@[simp] theorem W_mLc {it : Mi Src} {is : List Nat} {g : Mg} {t : Mi Bool} {e : Mi PV} {Q : Qs PV} : W (mLc it is g t e ρ h) Q E = W (it ρ h) (kLc is g t e ρ Q E) E := by
  unfold mLc
  simp only [W_bind, W_end]
  rfl
@[simp] def kgC (gs : Mgs) (r : List PV) (Q : Qs Pn) (E : Es) (ρ : Pn) (h : HS) : Prop := W (gs r ρ h) Q E
@[simp] theorem W_gC {g : Mg} {gs : Mgs} {v : PV} {r : List PV} {Q : Qs Pn} : W (gC g gs (v :: r) ρ h) Q E = W (g v ρ h) (kgC gs r Q E) kF := by
  unfold gC
  simp only [W_thenR]
  rfl
@[simp] def kSb2 (x v : PV) (ρ : Pn) (Q : Qs Pn) (y : PV) (h : HS) : Prop := match setV x y v h with
  | some h3 => Q ρ h3
  | none => False
@[simp] def kSb1 (b : Mi PV) (v : PV) (ρ : Pn) (Q : Qs Pn) (x : PV) (h : HS) : Prop := W (b ρ h) (kSb2 x v ρ Q) kF
@[simp] theorem W_gSb {a b : Mi PV} {v : PV} {Q : Qs Pn} : W (gSb a b v ρ h) Q E = W (a ρ h) (kSb1 b v ρ Q) kF := by
  unfold gSb
  simp only [W_thenR]
  congr 1
  funext x h1
  unfold kSb1
  congr 1
  funext y h2
  unfold kSb2
  cases setV x y v h2 <;> rfl
variable {D : Po}
def Po.sq (D : Po) (b : Ms) : Po := { D with nx := fun ρ h => SW (b ρ h) D }
@[simp] theorem Po.sq_nx {b : Ms} : (D.sq b).nx ρ h = SW (b ρ h) D := rfl
@[simp] theorem Po.sq_rt {b : Ms} : (D.sq b).rt = D.rt := rfl
@[simp] theorem Po.sq_bk {b : Ms} : (D.sq b).bk = D.bk := rfl
@[simp] theorem Po.sq_ct {b : Ms} : (D.sq b).ct = D.ct := rfl
@[simp] theorem Po.sq_ex {b : Ms} : (D.sq b).ex = D.ex := rfl
def kDef (Q : Qs PV) (E : Es) : Po := { nx := fun _ h => Q .non h, rt := Q, ex := E }
@[simp] theorem kDef_nx {Q : Qs PV} : (kDef Q E).nx ρ h = Q .non h := rfl
@[simp] theorem kDef_rt {Q : Qs PV} : (kDef Q E).rt = Q := rfl
@[simp] theorem kDef_ex {Q : Qs PV} : (kDef Q E).ex = E := rfl
@[simp] theorem kDef_bk {Q : Qs PV} : (kDef Q E).bk ρ h = False := rfl
@[simp] theorem kDef_ct {Q : Qs PV} : (kDef Q E).ct ρ h = False := rfl
@[simp] def kDrop (ρ : Pn) (D : Po) (_x : PV) (h : HS) : Prop := D.nx ρ h
@[simp] def kIfS (a b : Ms) (ρ : Pn) (D : Po) (c : Bool) (h : HS) : Prop := if c = true then SW (a ρ h) D else SW (b ρ h) D
@[simp] def kAsg (g : Mg) (ρ : Pn) (D : Po) (v : PV) (h : HS) : Prop := W (g v ρ h) D.nx kF
@[simp] def kPar (i j : Nat) (ρ : Pn) (D : Po) (vs : List PV) (h : HS) : Prop := match vs with
  | [v, w] => D.nx ((ρ.set i (some v)).set j (some w)) h
  | _ => False
@[simp] def kPar3 (i j l : Nat) (ρ : Pn) (D : Po) (vs : List PV) (h : HS) : Prop := match vs with
  | [u, v, w] => D.nx (((ρ.set i (some u)).set j (some v)).set l (some w)) h
  | _ => False
@[simp] def kAug2 (i : Nat) (ρ : Pn) (D : Po) (z : PV) (h : HS) : Prop := D.nx (ρ.set i (some z)) h
@[simp] def kAug (x : PV) (f : PV → PV → HS → R PV) (i : Nat) (ρ : Pn) (D : Po) (y : PV) (h : HS) : Prop := W (f x y h) (kAug2 i ρ D) D.ex
@[simp] def kFor (g : Mg) (b : Ms) (ρ : Pn) (D : Po) (src : Src) (h : HS) : Prop := SW (forGo src.guard g b src.items ρ h) D
@[simp] theorem SW_mSeq {a b : Ms} : SW (mSeq a b ρ h) D = SW (a ρ h) (D.sq b) := SW_seq _ _
@[simp] theorem SW_mRet {a : Mi PV} : SW (mRet a ρ h) D = W (a ρ h) D.rt D.ex := SW_bindS _ _ _
@[simp] theorem SW_mDrop {a : Mi PV} : SW (mDrop a ρ h) D = W (a ρ h) (kDrop ρ D) D.ex := SW_bindS _ _ _
@[simp] theorem SW_mIfS {t : Mi Bool} {a b : Ms} : SW (mIfS t a b ρ h) D = W (t ρ h) (kIfS a b ρ D) D.ex := by
  unfold mIfS
  simp only [SW_bindS, SW_ite]
  rfl
@[simp] theorem SW_mAsg {a : Mi PV} {g : Mg} : SW (mAsg a g ρ h) D = W (a ρ h) (kAsg g ρ D) D.ex := by
  unfold mAsg
  simp only [SW_bindS, SW_thenS, SW_nx]
  rfl
@[simp] theorem SW_mPar {i j : Nat} {a : Mi (List PV)} : SW (mPar i j a ρ h) D = W (a ρ h) (kPar i j ρ D) D.ex := by
  unfold mPar
  rw [SW_bindS]
  congr 1
  funext vs h1
  rcases vs with _ | ⟨v, _ | ⟨w, _ | _⟩⟩ <;> rfl
@[simp] theorem SW_mPar3 {i j l : Nat} {a : Mi (List PV)} : SW (mPar3 i j l a ρ h) D = W (a ρ h) (kPar3 i j l ρ D) D.ex := by
  unfold mPar3
  rw [SW_bindS]
  congr 1
  funext vs h1
  rcases vs with _ | ⟨u, _ | ⟨v, _ | ⟨w, _ | _⟩⟩⟩ <;> rfl
@[simp] theorem SW_mAug {i : Nat} {f : PV → PV → HS → R PV} {a : Mi PV} : SW (mAug i f a ρ h) D = (match ρ[i]? with
    | some (some x) => W (a ρ h) (kAug x f i ρ D) D.ex
    | _ => False) := by
  unfold mAug
  cases hi : ρ[i]? with
  | none => rfl
  | some o =>
    cases o with
    | none => rfl
    | some x =>
      simp only [SW_bindS]
      rfl
@[simp] theorem SW_mFor {it : Mi Src} {g : Mg} {b : Ms} : SW (mFor it g b ρ h) D = W (it ρ h) (kFor g b ρ D) D.ex := SW_bindS _ _ _
@[simp] theorem W_mDef {n r : Nat} {b : Ms} {xs : List PV} {Q : Qs PV} : W (mDef n r b xs h) Q E = if xs.length = n then SW (b (xs.map some ++ List.replicate r none) h) (kDef Q E) else False := by
  unfold mDef
  rw [W_ite, W_ret]
  rfl
end
theorem W.eq {α : Type} {r : R α} {v : α} {h : HS} (w : W r (fun v' h' => v' = v ∧ h' = h) kF) : r = .ok v h := by
  cases r with
  | ok a h' => obtain ⟨rfl, rfl⟩ := w; rfl
  | ex a h => exact w.elim
  | no => exact w.elim
/-! ### loops -/
/-- a loop that goes on as long as P holds -/
theorem for_w {guard : HS → Prop} {g : Mg} {b : Ms} {D : Po} : ∀ {its : List PV} {ρ : Pn} {h : HS} (P : Nat → Pn → HS → Prop) (h0 : P 0 ρ h) (hg : ∀ i ρ h, P i ρ h → guard h)
    (step : ∀ i x ρ h, its[i]? = some x → P i ρ h → W (g x ρ h) (fun ρ1 h1 => SW (b ρ1 h1) { nx := P (i + 1), ct := P (i + 1), bk := D.nx, rt := D.rt, ex := D.ex }) (fun _ _ => False))
    (hq : ∀ ρ h, P its.length ρ h → D.nx ρ h), SW (forGo guard g b its ρ h) D
  | [], ρ, h, P, h0, hg, step, hq => by
    rw [forGo_nil (hg 0 ρ h h0)]
    exact hq ρ h h0
  | x :: its, ρ, h, P, h0, hg, step, hq => by
    rw [forGo_cons (hg 0 ρ h h0), SW_thenS]
    refine (step 0 x ρ h rfl h0).mono (fun ρ1 h1 w => ?_) (fun _ _ z => z)
    rw [SW_loop]
    have go : ∀ ρ2 h2, P 1 ρ2 h2 → SW (forGo guard g b its ρ2 h2) D := fun ρ2 h2 p => for_w (fun i => P (i + 1)) p (fun i => hg (i + 1)) (fun i x ρ h e p => step (i + 1) x ρ h (by simpa using e) p) (fun ρ h p => hq ρ h p)
    exact w.mono go (fun _ _ z => z) (fun _ _ z => z) go (fun _ _ z => z)
/-- a list made item by item -/
theorem lc_w {guard : HS → Prop} {g : Mg} {t : Mi Bool} {e : Mi PV} {ρ : Pn} : ∀ {its : List PV} {h : HS} {Q : List PV × HS → Prop} (P : Nat → List PV → HS → Prop) (h0 : P 0 [] h) (hg : ∀ i vs h, P i vs h → guard h)
    (step : ∀ i x vs h, its[i]? = some x → P i vs h → W (g x ρ h) (fun ρ1 h1 => W (t ρ1 h1) (fun c h2 => if c = true then W (e ρ1 h2) (fun v h3 => P (i + 1) (vs ++ [v]) h3) (fun _ _ => False) else P (i + 1) vs h2) (fun _ _ => False)) (fun _ _ => False))
    (hq : ∀ vs h, P its.length vs h → Q (vs, h)), OW (lcGo guard g t e ρ its h) Q
  | [], h, Q, P, h0, hg, step, hq => by
    rw [lcGo_nil (hg 0 [] h h0)]
    exact hq [] h h0
  | x :: its, h, Q, P, h0, hg, step, hq => by
    rw [lcGo_cons (hg 0 [] h h0), OW_thenO]
    refine (step 0 x [] h rfl h0).mono (fun ρ1 h1 w => ?_) (fun _ _ z => z)
    rw [OW_thenO]
    refine w.mono (fun c h2 w2 => ?_) (fun _ _ z => z)
    rw [OW_ite]
    split
    · rename_i hc
      rw [if_pos hc] at w2
      rw [OW_thenO]
      refine w2.mono (fun v h3 p => ?_) (fun _ _ z => z)
      rw [OW_map]
      exact lc_w (fun i vs h => P (i + 1) (v :: vs) h) p (fun i vs h => hg (i + 1) (v :: vs) h) (fun i x vs h e p => step (i + 1) x (v :: vs) h (by simpa using e) p) (fun vs h p => hq (v :: vs) h p)
    · rename_i hc
      rw [if_neg hc] at w2
      exact lc_w (fun i vs h => P (i + 1) vs h) w2 (fun i vs h => hg (i + 1) vs h) (fun i x vs h e p => step (i + 1) x vs h (by simpa using e) p) (fun vs h p => hq vs h p)
end Lt
namespace Lt
open PySem L2
/-! ### the law's own drawing -/
def kTakeB : Ms :=
    (mSeq (mAsg (m2 addV (m2 getV (mVar 0) (mC (.str "turn"))) (mC (.int 1))) (gNm 2))
    (mSeq (mAsg (mVar 2) (gSb (mVar 0) (mC (.str "turn"))))
    (mSeq (mAsg (m2 modV (mVar 2) (m1 (c1 lenV) (mCons (m2 getV (mVar 0) (mC (.str "cells"))) mNil))) (gNm 3))
    (mSeq (mAsg (m2 getV (m2 getV (mVar 0) (mC (.str "cells"))) (mVar 3)) (gNm 4))
    (mSeq (mIfS (m1 asB (m2 geV (mVar 4) (m2 powV (mC (.int 10)) (mC (.int 18)))))
    (mSeq (mAsg (m1 (c2 divmodV) (mCons (mVar 4) (mCons (mVar 1) mNil))) (gTp 2 (gC (gSb (m2 getV (mVar 0) (mC (.str "cells"))) (mVar 3)) (gC (gNm 5) gN0))))
    (mRet (mVar 5)))
    mSkip)
    (mSeq (mAsg (m2 modV (m2 mulV (m2 addV (m2 addV (m2 modV (mVar 4) (mC (.int 2147483629))) (m2 mulV (m2 mulV (mVar 2) (mVar 2)) (mC (.int 7919)))) (mC (.int 11))) (mC (.int 48271))) (mC (.int 2147483647))) (gNm 6))
    (mSeq (mAsg (m2 modV (m2 mulV (mVar 6) (mVar 6)) (mC (.int 2147483587))) (gNm 6))
    (mRet (m2 modV (m2 fdivV (m2 modV (m2 mulV (m2 addV (mVar 6) (m2 mulV (mVar 2) (mC (.int 104729)))) (mC (.int 69621))) (mC (.int 2147483629))) (mC (.int 64))) (mVar 1))))))))))
def kTake : List PV → HS → R PV := mDef 2 5 kTakeB
/-- the law's state ahead of everything else -/
def Sh (cs : List Int) (t : Int) (tl : HS) : HS := .lst (cs.map PV.int) :: stDic 0 t :: tl
structure Good (cs : List Int) (t : Int) : Prop where
  ne : cs ≠ []
  le : cs.length ≤ 63
  t0 : 0 ≤ t
  t1 : t < 2 ^ 60
theorem small_lt {i : Int} (h1 : -(2 ^ 200) < i) (h2 : i < 2 ^ 200) : small i := small_of (k := 200) (by omega) (by decide)
theorem atI_ints {cs : List Int} {i : Int} (h0 : 0 ≤ i) (h1 : i < cs.length) : ∃ c, atI (cs.map PV.int) i = some (.int c) ∧ ixN (cs.map PV.int).length i = some i.toNat := by
  have hl : i.toNat < cs.length := by omega
  refine ⟨cs[i.toNat], ?_, ?_⟩
  · unfold atI ixN
    rw [List.length_map, if_pos h0, if_pos h1]
    simp [hl]
  · unfold ixN
    rw [List.length_map, if_pos h0, if_pos h1]
theorem ks_ct : (Str.ofString "cells" = Str.ofString "turn") = False := by
  apply propext
  constructor
  · intro z
    exact absurd z (by decide +kernel)
  · exact False.elim
theorem ks_tc : (Str.ofString "turn" = Str.ofString "cells") = False := by
  apply propext
  constructor
  · intro z
    exact absurd z (by decide +kernel)
  · exact False.elim
def mix1 (c t : Int) : Int := (c % 2147483629 + t * t * 7919 + 11) * 48271 % 2147483647
def mix2 (x : Int) : Int := x * x % 2147483587
theorem kTake_eq {cs : List Int} {t many : Int} (tl : HS) (g : Good cs t) (h1 : 1 ≤ many) (h2 : many < 1073741824) :
    ∃ cs' d, kTake [.ref 1, .int many] (Sh cs t tl) = .ok (.int d) (Sh cs' (t + 1) tl) ∧ 0 ≤ d ∧ d < many ∧ cs' ≠ [] ∧ cs'.length ≤ 63 := by
  obtain ⟨hne, hle, ht0, ht1⟩ := g
  have hpos : 0 < (cs.length : Int) := by
    have := List.length_pos_iff.mpr hne
    omega
  have hm0 : 0 ≤ (t + 1) % (cs.length : Int) := Int.emod_nonneg _ (by omega)
  have hm1 : (t + 1) % (cs.length : Int) < cs.length := Int.emod_lt_of_pos _ hpos
  obtain ⟨c, hc, hix⟩ := atI_ints hm0 hm1
  rw [List.length_map] at hix
  have hp2 : 0 < cs.length := by omega
  have hm2 : 0 < many := by omega
  by_cases hb : 1000000000000000000 ≤ c
  · refine ⟨cs.set ((t + 1) % (cs.length : Int)).toNat (c / many), c % many, ?_, Int.emod_nonneg _ (by omega), Int.emod_lt_of_pos _ (by omega), ?_, by rw [List.length_set]; exact hle⟩
    · apply W.eq
      simp [kTake, kTakeB, Sh, stDic, valP, putP, List.find?_cons, hp2, hm2, hc, hix, hb, h1, h2, ks_ct, ks_tc, List.map_set]
    · intro z
      have := congrArg List.length z
      rw [List.length_set] at this
      simp at this
      exact hne this
  · refine ⟨cs, (mix2 (mix1 c (t + 1)) + (t + 1) * 104729) * 69621 % 2147483629 / 64 % many, ?_, Int.emod_nonneg _ (by omega), Int.emod_lt_of_pos _ (by omega), hne, hle⟩
    · have q0 : 0 ≤ (t + 1) * (t + 1) := Int.mul_nonneg (by omega) (by omega)
      have q1 : (t + 1) * (t + 1) ≤ 2 ^ 60 * 2 ^ 60 := Int.mul_le_mul (by omega) (by omega) (by omega) (by decide)
      have s1 : small (t + 1) := small_lt (by omega) (by omega)
      have s2 : small ((t + 1) * (t + 1)) := small_lt (by omega) (by omega)
      have s3 : small (c % 2147483629 + (t + 1) * (t + 1) * 7919 + 11) := small_lt (by omega) (by omega)
      have s4 : small ((c % 2147483629 + (t + 1) * (t + 1) * 7919 + 11) * 48271 % 2147483647) := small_lt (by omega) (by omega)
      have s5 : small ((c % 2147483629 + (t + 1) * (t + 1) * 7919 + 11) * 48271 % 2147483647 * ((c % 2147483629 + (t + 1) * (t + 1) * 7919 + 11) * 48271 % 2147483647) % 2147483587 + (t + 1) * 104729) := small_lt (by omega) (by omega)
      have k1 : small 7919 := small_lt (by decide) (by decide)
      have k2 : small 48271 := small_lt (by decide) (by decide)
      have k3 : small 104729 := small_lt (by decide) (by decide)
      have k4 : small 69621 := small_lt (by decide) (by decide)
      apply W.eq
      simp [kTake, kTakeB, Sh, stDic, valP, putP, List.find?_cons, hp2, hm2, hc, hix, hb, h1, h2, ks_ct, ks_tc, s1, s2, s3, s4, s5, k1, k2, k3, k4, mix1, mix2]
theorem Good.next {cs cs' : List Int} {t : Int} (g : Good cs t) (h1 : cs' ≠ []) (h2 : cs'.length ≤ 63) (h3 : t + 1 < 2 ^ 60) : Good cs' (t + 1) := ⟨h1, h2, by have := g.t0; omega, h3⟩
end Lt
namespace Lt
open PySem L2
/-! ### the heap behind the law's state -/
section
variable {cs : List Int} {t : Int} {tl g : HS}
@[simp] theorem Sh_len : (Sh cs t tl).length = tl.length + 2 := rfl
@[simp] theorem Sh_len' : List.length (Sh cs t tl) = tl.length + 2 := rfl
@[simp] theorem Sh_app : Sh cs t tl ++ g = Sh cs t (tl ++ g) := rfl
@[simp high] theorem Sh_get {n : Nat} : (Sh cs t tl)[n + 2]? = tl[n]? := rfl
@[simp] theorem Sh_set {n : Nat} {o : HB} : (Sh cs t tl).set (n + 2) o = Sh cs t (tl.set n o) := rfl
@[simp] theorem Sh_set' {n : Nat} {o : HB} : List.set (Sh cs t tl) (n + 2) o = Sh cs t (tl.set n o) := rfl
@[simp high] theorem Sh_last {o : HB} : (Sh cs t (tl ++ [o]))[tl.length + 2]? = some o := by
  show (tl ++ [o])[tl.length]? = some o
  simp
@[simp high] theorem Sh_last2 {o : HB} : (Sh cs t (tl ++ (g ++ [o])))[tl.length + g.length + 2]? = some o := by
  show (tl ++ (g ++ [o]))[tl.length + g.length]? = some o
  rw [List.getElem?_append_right (by omega), Nat.add_sub_cancel_left]
  simp
theorem Sh_app' (a b : HS) : Sh cs t (a ++ b) = Sh cs t a ++ b := rfl
end
/-- the row behind a value -/
def rd (tl : HS) : PV → Option (List PV)
  | .tup xs => some xs
  | .ref (n + 2) => match tl[n]? with
    | some (.lst xs) => some xs
    | _ => none
  | _ => none
theorem rd_seq {cs : List Int} {t : Int} {tl : HS} {v : PV} {xs : List PV} (h : rd tl v = some xs) : seqOf (Sh cs t tl) v = some xs := by
  unfold rd at h
  split at h
  · exact h
  · simp only [seqOf, Sh_get]
    exact h
  · cases h
theorem get_pre {tl tl' : HS} {n : Nat} {o : HB} (p : tl <+: tl') (h : tl[n]? = some o) : tl'[n]? = some o := by
  obtain ⟨g, rfl⟩ := p
  rw [List.getElem?_append_left (List.getElem?_eq_some_iff.mp h).1]
  exact h
theorem rd_pre {tl tl' : HS} {v : PV} {xs : List PV} (p : tl <+: tl') (h : rd tl v = some xs) : rd tl' v = some xs := by
  unfold rd at h ⊢
  split at h
  · exact h
  · split at h
    · rename_i e
      cases h
      simp only [get_pre p e]
    · cases h
  · cases h
/-! ### values that stand for data -/
mutual
inductive Rep (tl : HS) : PV → PyData → Prop
  | non : Rep tl .non .none
  | bl (b : Bool) : Rep tl (.bl b) (.bool b)
  | int (i : Int) : Rep tl (.int i) (.int i)
  | str (x : Str) : Rep tl (.str x) (.str x)
  | tup {vs : List PV} {ds : List PyData} (r : Reps tl vs ds) : Rep tl (.tup vs) (.tuple ds)
  | lst {n : Nat} {vs : List PV} {ds : List PyData} (h : tl[n]? = some (.lst vs)) (r : Reps tl vs ds) : Rep tl (.ref (n + 2)) (.list ds)
inductive Reps (tl : HS) : List PV → List PyData → Prop
  | nil : Reps tl [] []
  | cons {v : PV} {d : PyData} {vs : List PV} {ds : List PyData} (r : Rep tl v d) (t : Reps tl vs ds) : Reps tl (v :: vs) (d :: ds)
end
mutual
theorem Rep.pre {tl tl' : HS} (p : tl <+: tl') : ∀ {v : PV} {d : PyData}, Rep tl v d → Rep tl' v d
  | _, _, .non => .non
  | _, _, .bl b => .bl b
  | _, _, .int b => .int b
  | _, _, .str b => .str b
  | _, _, .tup r => .tup (Reps.pre p r)
  | _, _, .lst h r => .lst (get_pre p h) (Reps.pre p r)
theorem Reps.pre {tl tl' : HS} (p : tl <+: tl') : ∀ {v : List PV} {d : List PyData}, Reps tl v d → Reps tl' v d
  | _, _, .nil => .nil
  | _, _, .cons r t => .cons (Rep.pre p r) (Reps.pre p t)
end
theorem Reps.length {tl : HS} : ∀ {v : List PV} {d : List PyData}, Reps tl v d → v.length = d.length
  | _, _, .nil => rfl
  | _, _, .cons r t => by rw [List.length_cons, List.length_cons, Reps.length t]
theorem Reps.get {tl : HS} : ∀ {v : List PV} {d : List PyData} {i : Nat} {x : PV}, Reps tl v d → v[i]? = some x → ∃ y, d[i]? = some y ∧ Rep tl x y
  | _, _, _, _, .nil, e => by simp at e
  | _, _, 0, _, .cons r t, e => by simp at e; subst e; exact ⟨_, rfl, r⟩
  | _, _, i + 1, x, .cons r t, e => by
    obtain ⟨y, h1, h2⟩ := Reps.get (i := i) (x := x) t (by simpa using e)
    exact ⟨y, by simpa using h1, h2⟩
theorem Reps.app {tl : HS} : ∀ {v v' : List PV} {d d' : List PyData}, Reps tl v d → Reps tl v' d' → Reps tl (v ++ v') (d ++ d')
  | _, _, _, _, .nil, s => s
  | _, _, _, _, .cons r t, s => .cons r (Reps.app t s)
/-! ### the law's own likeness -/
noncomputable def kSameB (rec : List PV → HS → R PV) : Ms :=
    (mSeq (mIfS (mTru (m1 (c2 isinstV) (mCons (mVar 1) (mCons (m1 dTup (mCons (mC (.ty "list")) (mCons (mC (.ty "tuple")) mNil))) mNil))))
    (mSeq (mIfS (mOr (m1 asB (m2 neV (m1 (c2 isinstV) (mCons (mVar 0) (mCons (mC (.ty "list")) mNil))) (m1 (c2 isinstV) (mCons (mVar 1) (mCons (mC (.ty "list")) mNil))))) (m1 asB (m2 neV (m1 (c2 isinstV) (mCons (mVar 0) (mCons (mC (.ty "tuple")) mNil))) (m1 (c2 isinstV) (mCons (mVar 1) (mCons (mC (.ty "tuple")) mNil))))))
    (mRet (mC (.bl false)))
    mSkip)
    (mRet (mAndV (m2 eqV (m1 (c1 lenV) (mCons (mVar 0) mNil)) (m1 (c1 lenV) (mCons (mVar 1) mNil))) (m1 (c1 allV) (mCons (mLc (m1 zipS (mCons (mVar 0) (mCons (mVar 1) mNil))) [2, 3] (gTp 2 (gC (gNm 2) (gC (gNm 3) gN0))) mYes (m1 rec (mCons (mVar 2) (mCons (mVar 3) mNil)))) mNil)))))
    mSkip)
    (mSeq (mIfS (m1 asB (m2 isV (mVar 1) (mC .non)))
    (mRet (m2 isV (mVar 0) (mC .non)))
    mSkip)
    (mSeq (mIfS (mTru (m1 (c2 isinstV) (mCons (mVar 1) (mCons (mC (.ty "bool")) mNil))))
    (mRet (mAndV (m1 (c2 isinstV) (mCons (mVar 0) (mCons (mC (.ty "bool")) mNil))) (m2 eqV (mVar 0) (mVar 1))))
    mSkip)
    (mSeq (mIfS (mTru (m1 (c2 isinstV) (mCons (mVar 1) (mCons (mC (.ty "str")) mNil))))
    (mRet (mAndV (m1 (c2 isinstV) (mCons (mVar 0) (mCons (mC (.ty "str")) mNil))) (m2 eqV (mVar 0) (mVar 1))))
    mSkip)
    (mRet (mAndV (m1 (c2 isinstV) (mCons (mVar 0) (mCons (mC (.ty "int")) mNil))) (mAndV (mNotV (m1 (c2 isinstV) (mCons (mVar 0) (mCons (mC (.ty "bool")) mNil)))) (m2 eqV (mVar 0) (mVar 1)))))))))
theorem eqV_int (i j : Int) (h : HS) : eqV (.int i) (.int j) h = .ok (.bl (i == j)) h := by
  simp [eqV, eqB, dat, SeqAt.shaped, PyData.canLay0, PyData.depth, PyData.eqv]
theorem eqV_bl (i j : Bool) (h : HS) : eqV (.bl i) (.bl j) h = .ok (.bl (i == j)) h := by
  simp [eqV, eqB, dat, SeqAt.shaped, PyData.canLay0, PyData.depth, PyData.eqv]
theorem neV_bl (i j : Bool) (h : HS) : neV (.bl i) (.bl j) h = .ok (.bl (!(i == j))) h := by
  simp [neV, eqB, dat, SeqAt.shaped, PyData.canLay0, PyData.depth, PyData.eqv]
theorem neV_int (i j : Int) (h : HS) : neV (.int i) (.int j) h = .ok (.bl (!(i == j))) h := by
  simp [neV, eqB, dat, SeqAt.shaped, PyData.canLay0, PyData.depth, PyData.eqv]
theorem eqV_str (x : Str) (hx : PyData.canLay0 (.str x) = true) (h : HS) : eqV (.str x) (.str x) h = .ok (.bl true) h := by
  have hs : SeqAt.shaped (.str x) = true := by
    unfold SeqAt.shaped
    rw [hx]
    simp [PyData.depth]
  simp [eqV, eqB, dat, hs, PyData.eqv]
noncomputable def kSame : Nat → List PV → HS → R PV
  | 0 => fun _ _ => .no
  | k + 1 => mDef 2 2 (kSameB (kSame k))
/-- data of at most that depth -/
inductive Fine : Nat → PyData → Prop
  | non (n : Nat) : Fine (n + 1) .none
  | bl (n : Nat) (b : Bool) : Fine (n + 1) (.bool b)
  | int (n : Nat) (i : Int) : Fine (n + 1) (.int i)
  | str (n : Nat) (x : Str) (h : PyData.canLay0 (.str x) = true) : Fine (n + 1) (.str x)
  | tup {n : Nat} {ds : List PyData} (hl : ds.length ≤ 16777216) (h : ∀ d ∈ ds, Fine n d) : Fine (n + 1) (.tuple ds)
  | lst {n : Nat} {ds : List PyData} (hl : ds.length ≤ 16777216) (h : ∀ d ∈ ds, Fine n d) : Fine (n + 1) (.list ds)
@[simp] theorem blsOf_rep (n : Nat) : blsOf (List.replicate n (.bl true)) = some (List.replicate n true) := by
  induction n with
  | zero => rfl
  | succ n ih => simp [List.replicate_succ, ih]
@[simp] theorem all_rep (n : Nat) : (List.replicate n true).all id = true := by simp
theorem same_w {cs : List Int} {t : Int} : ∀ (n : Nat) {d : PyData} {v w : PV} {tl : HS} {Q : PV → HS → Prop} {E : PX → HS → Prop}, Fine n d → Rep tl v d → Rep tl w d → (∀ g, Q (.bl true) (Sh cs t (tl ++ g))) → W (kSame n [v, w] (Sh cs t tl)) Q E := by
  intro n
  induction n with
  | zero => intro d v w tl Q E f; cases f
  | succ n ih =>
    intro d v w tl Q E f rv rw' q
    have q0 := q []
    rw [List.append_nil] at q0
    have lc : ∀ {ds : List PyData} {vs ws : List PV} {Q : List PV × HS → Prop} {ρ : Pn} {v w : PV} {guard : HS → Prop}, ρ = [some v, some w, none, none] → ds.length ≤ 16777216 → (∀ d ∈ ds, Fine n d) → Reps tl vs ds → Reps tl ws ds → (∀ tl', tl <+: tl' → guard (Sh cs t tl')) → (∀ g, Q (List.replicate ds.length (.bl true), Sh cs t (tl ++ g))) →
        OW (lcGo guard (gTp 2 (gC (gNm 2) (gC (gNm 3) gN0))) mYes (m1 (kSame n) (mCons (mVar 2) (mCons (mVar 3) mNil))) ρ (List.zipWith pairP vs ws) (Sh cs t tl)) Q := by
      intro ds vs ws Q ρ v w guard hρ hl hf ra rb ev q
      subst hρ
      refine lc_w (fun i us h => us = List.replicate i (.bl true) ∧ ∃ g, h = Sh cs t (tl ++ g)) ⟨rfl, [], by rw [List.append_nil]⟩ (fun i us h ⟨_, g, e⟩ => by rw [e]; exact ev _ (List.prefix_append _ _)) ?_ ?_
      · rintro i x us h ex ⟨e1, g, e2⟩
        obtain ⟨a, b, ea, eb, rfl⟩ := zip_get ex
        obtain ⟨d, ed, ra'⟩ := ra.get ea
        obtain ⟨d', ed', rb'⟩ := rb.get eb
        rw [ed] at ed'
        cases ed'
        subst e1 e2
        simp
        refine ih (hf d (List.mem_of_getElem? ed)) (ra'.pre (List.prefix_append _ _)) (rb'.pre (List.prefix_append _ _)) fun g' => ?_
        exact ⟨by rw [List.replicate_succ'], g ++ g', by rw [List.append_assoc]⟩
      · rintro us h ⟨e1, g, e2⟩
        subst e1 e2
        have hz : (List.zipWith pairP vs ws).length = ds.length := by simp [ra.length, rb.length]
        rw [hz]
        exact q g
    cases f with
    | non =>
      cases rv; cases rw'
      simp [kSame, kSameB, isTy, okTy, q0]
    | bl b =>
      cases rv; cases rw'
      simp [kSame, kSameB, isTy, okTy, eqV_bl, q0]
    | int b =>
      cases rv; cases rw'
      simp [kSame, kSameB, isTy, okTy, eqV_int, q0]
    | str _ x hx =>
      cases rv; cases rw'
      simp [kSame, kSameB, isTy, okTy, eqV_str _ hx, q0]
    | tup hl hf =>
      cases rv with
      | tup ra =>
        cases rw' with
        | tup rb =>
          rename_i ds vs ws
          have hlv := ra.length
          have hlw := rb.length
          simp [kSame, kSameB, isTy, okTy, eqV_int, neV_bl, hlv, hlw]
          refine lc rfl hl hf ra rb (fun _ _ => by simp) fun g => ?_
          have q1 := q (g ++ [.lst (List.replicate ds.length (.bl true))])
          simp [dLst, hl, q1]
    | lst hl hf =>
      cases rv with
      | lst ga ra =>
        cases rw' with
        | lst gb rb =>
          rename_i ds n1 vs n2 ws
          have hlv := ra.length
          have hlw := rb.length
          simp [kSame, kSameB, isTy, okTy, eqV_int, neV_bl, hlv, hlw, ga, gb]
          refine lc rfl hl hf ra rb (fun tl' p => by simp [get_pre p ga, get_pre p gb]) fun g => ?_
          have q1 := q (g ++ [.lst (List.replicate ds.length (.bl true))])
          simp [dLst, hl, q1]
end Lt
namespace Lt
open PySem L2
/-! ### what the law's own helpers answer -/
/-- the state allows so many more draws -/
structure Gd (b : Int) (cs : List Int) (t : Int) : Prop where
  ne : cs ≠ []
  le : cs.length ≤ 63
  t0 : 0 ≤ t
  t1 : t + b < 2 ^ 60
theorem Gd.less {b b' : Int} {cs : List Int} {t : Int} (g : Gd b cs t) (h : b' ≤ b) : Gd b' cs t := ⟨g.ne, g.le, g.t0, by have := g.t1; omega⟩
theorem take_w {b : Int} {cs : List Int} {t many : Int} {tl : HS} {Q : PV → HS → Prop} {E : PX → HS → Prop} (g : Gd b cs t) (hb : 1 ≤ b) (h1 : 1 ≤ many) (h2 : many < 1073741824)
    (q : ∀ cs' t' d, Gd (b - 1) cs' t' → 0 ≤ d → d < many → Q (.int d) (Sh cs' t' tl)) : W (kTake [.ref 1, .int many] (Sh cs t tl)) Q E := by
  have g1 := g.t1
  obtain ⟨cs', d, e, p1, p2, p3, p4⟩ := kTake_eq tl (many := many) ⟨g.ne, g.le, g.t0, by omega⟩ h1 h2
  exact W.of e (q cs' _ d ⟨p3, p4, by have := g.t0; omega, by omega⟩ p1 p2)
def en : Option Int → PV
  | none => .non
  | some i => .int i
@[simp] theorem en_none : en none = .non := rfl
@[simp] theorem en_some (i : Int) : en (some i) = .int i := rfl
/-- an entry of less than so much either way -/
def EB (n : Int) (o : Option Int) : Prop := ∀ i, o = some i → -n < i ∧ i < n
theorem EB.none {n : Int} : EB n none := fun i e => by cases e
theorem EB.some {n i : Int} (h1 : -n < i) (h2 : i < n) : EB n (some i) := fun j e => by cases e; exact ⟨h1, h2⟩
@[simp high] theorem Sh_one (cs : List Int) (t : Int) (tl : HS) : (Sh cs t tl)[1]? = some (stDic 0 t) := rfl
@[simp high] theorem Sh_nil (cs : List Int) (t : Int) (tl : HS) : (Sh cs t tl)[0]? = some (.lst (cs.map PV.int)) := rfl
@[simp] theorem atI_zero (xs : List PV) : atI xs 0 = xs[0]? := by
  unfold atI ixN
  cases xs <;> simp
theorem atI_lit (xs : List PV) (n : Nat) : atI xs (OfNat.ofNat n) = xs[(OfNat.ofNat n : Nat)]? := by
  unfold atI ixN
  have e : (OfNat.ofNat n : Int) = (n : Int) := rfl
  have e2 : (OfNat.ofNat n : Nat) = n := rfl
  rw [e, e2, if_pos (by omega)]
  by_cases h : n < xs.length
  · rw [if_pos (by omega)]
    rfl
  · rw [if_neg (by omega), List.getElem?_eq_none (by omega)]
    rfl
@[simp] theorem atI_one (xs : List PV) : atI xs 1 = xs[1]? := atI_lit xs 1
@[simp] theorem atI_2 (xs : List PV) : atI xs 2 = xs[2]? := atI_lit xs 2
@[simp] theorem atI_3 (xs : List PV) : atI xs 3 = xs[3]? := atI_lit xs 3
@[simp] theorem atI_4 (xs : List PV) : atI xs 4 = xs[4]? := atI_lit xs 4
@[simp] theorem atI_5 (xs : List PV) : atI xs 5 = xs[5]? := atI_lit xs 5
@[simp] theorem atI_6 (xs : List PV) : atI xs 6 = xs[6]? := atI_lit xs 6
@[simp] theorem atI_7 (xs : List PV) : atI xs 7 = xs[7]? := atI_lit xs 7
@[simp] theorem atI_8 (xs : List PV) : atI xs 8 = xs[8]? := atI_lit xs 8
@[simp] theorem atI_9 (xs : List PV) : atI xs 9 = xs[9]? := atI_lit xs 9
@[simp] theorem atI_10 (xs : List PV) : atI xs 10 = xs[10]? := atI_lit xs 10
@[simp] theorem atI_11 (xs : List PV) : atI xs 11 = xs[11]? := atI_lit xs 11
@[simp] theorem atI_12 (xs : List PV) : atI xs 12 = xs[12]? := atI_lit xs 12
@[simp] theorem small_is {i : Int} (h1 : -1000000000000000000000000000000000000000000000000000 < i) (h2 : i < 1000000000000000000000000000000000000000000000000000) : small i = True := by
  have := small_lt (i := i) (by omega) (by omega)
  simp [this]
theorem small_big {i : Int} (h1 : -10 ^ 500 < i) (h2 : i < 10 ^ 500) : small i :=
  small_of (k := 2000) (i := i) (by
    have : (10 : Int) ^ 500 ≤ 2 ^ 2000 := by decide +kernel
    omega) (by decide)
@[simp] theorem rngP_len (lo : Int) (n : Nat) : (rngP lo n).length = n := by simp [rngP]
theorem rngP_get {lo : Int} {n i : Nat} {x : PV} (e : (rngP lo n)[i]? = some x) : i < n ∧ x = .int (lo + (i : Int)) := by
  have hlen : i < n := by
    have := (List.getElem?_eq_some_iff.mp e).1
    simpa [rngP] using this
  refine ⟨hlen, ?_⟩
  simp only [rngP, List.getElem?_map, List.getElem?_range hlen, Option.map_some, Option.some.injEq] at e
  exact e.symm
def dn : Option Int → PyData
  | none => .none
  | some i => .int i
theorem Rep.en {tl : HS} : ∀ (o : Option Int), Rep tl (en o) (dn o)
  | none => .non
  | some i => .int i
theorem Fine.dn (n : Nat) : ∀ (o : Option Int), Fine (n + 1) (dn o)
  | none => .non n
  | some i => .int n i
inductive En : PV → Prop
  | non : En .non
  | int (i : Int) : En (.int i)
theorem En.en : ∀ (o : Option Int), En (en o)
  | none => .non
  | some i => .int i
theorem En.get {v : PV} (h : En v) : ∃ o, v = Lt.en o := by
  cases h with
  | non => exact ⟨none, rfl⟩
  | int i => exact ⟨some i, rfl⟩
end Lt
namespace Lt
open PySem L2
/-! ### likeness of data, told by == -/
theorem fine_all : ∀ (n : Nat) {d : PyData}, Fine n d → d.canLay0 = true ∧ d.depth ≤ n
  | 0, d, f => by cases f
  | n + 1, d, f => by
    have all : ∀ ds : List PyData, (∀ d ∈ ds, Fine n d) → PyData.canLayAll0 ds = true ∧ PyData.depthAll ds ≤ n := by
      intro ds
      induction ds with
      | nil => intro _; exact ⟨rfl, Nat.zero_le _⟩
      | cons d ds ih =>
        intro hf
        obtain ⟨a, b⟩ := fine_all n (hf d (.head _))
        obtain ⟨a', b'⟩ := ih fun d hd => hf d (.tail _ hd)
        simp [PyData.canLayAll0, PyData.depthAll, a, a']
        omega
    cases f with
    | non => simp [PyData.canLay0, PyData.depth]
    | bl b => simp [PyData.canLay0, PyData.depth]
    | int i => simp [PyData.canLay0, PyData.depth]
    | str _ x h => exact ⟨h, by simp [PyData.depth]⟩
    | tup hl hf =>
      obtain ⟨a, b⟩ := all _ hf
      exact ⟨by simp [PyData.canLay0, a], by simp [PyData.depth]; omega⟩
    | lst hl hf =>
      obtain ⟨a, b⟩ := all _ hf
      exact ⟨by simp [PyData.canLay0, a], by simp [PyData.depth]; omega⟩
theorem Fine.shaped {n : Nat} {d : PyData} (f : Fine n d) (hn : n ≤ 64) : SeqAt.shaped d = true := by
  obtain ⟨a, b⟩ := fine_all n f
  unfold SeqAt.shaped
  rw [a]
  simp
  omega
theorem dat_rep {cs : List Int} {t : Int} {tl : HS} : ∀ (n : Nat) {v : PV} {d : PyData}, Fine n d → Rep tl v d → dat n (Sh cs t tl) v = some d
  | 0, v, d, f, _ => by cases f
  | n + 1, v, d, f, r => by
    have all : ∀ {ds : List PyData} {vs : List PV}, (∀ d ∈ ds, Fine n d) → Reps tl vs ds → datL (dat n (Sh cs t tl)) vs = some ds := by
      intro ds
      induction ds with
      | nil => intro vs _ r; cases r; rfl
      | cons d ds ih =>
        intro vs hf r
        cases r with
        | cons r rs =>
          unfold datL
          rw [dat_rep n (hf d (.head _)) r, ih (fun d hd => hf d (.tail _ hd)) rs]
    cases f with
    | non => cases r; rfl
    | bl b => cases r; rfl
    | int i => cases r; rfl
    | str _ x h => cases r; rfl
    | tup hl hf =>
      cases r with
      | tup rs =>
        unfold dat
        rw [all hf rs]
        rfl
    | lst hl hf =>
      cases r with
      | lst g rs =>
        unfold dat
        rw [Sh_get, g]
        dsimp only
        rw [all hf rs]
        rfl
theorem eqB_rep {cs : List Int} {t : Int} {tl : HS} {v w : PV} {d e : PyData} (fd : Fine 8 d) (fe : Fine 8 e) (rv : Rep tl v d) (rw' : Rep tl w e) : eqB v w (Sh cs t tl) = some (PyData.eqv d e) := by
  unfold eqB
  rw [dat_rep 8 fd rv, dat_rep 8 fe rw']
  simp [fd.shaped, fe.shaped]
theorem eqV_rep {cs : List Int} {t : Int} {tl : HS} {v w : PV} {d e : PyData} (fd : Fine 8 d) (fe : Fine 8 e) (rv : Rep tl v d) (rw' : Rep tl w e) : eqV v w (Sh cs t tl) = .ok (.bl (PyData.eqv d e)) (Sh cs t tl) := by
  unfold eqV
  rw [eqB_rep fd fe rv rw']
theorem neV_rep {cs : List Int} {t : Int} {tl : HS} {v w : PV} {d e : PyData} (fd : Fine 8 d) (fe : Fine 8 e) (rv : Rep tl v d) (rw' : Rep tl w e) : neV v w (Sh cs t tl) = .ok (.bl (!PyData.eqv d e)) (Sh cs t tl) := by
  unfold neV
  rw [eqB_rep fd fe rv rw']
/-! ### a law's two ends -/
theorem law_of {n : Nat} {b : Ms} (k : ∀ (cs : List Int) (Q : PV → HS → Prop), cs ≠ [] → cs.length ≤ 63 → (∀ h, Q (.bl true) h) → SW (b (none :: some (.ref 1) :: List.replicate n none) (Sh cs 0 [])) (kDef Q kF)) : LawOk n b := by
  intro cs h1 h2
  have w := k cs (fun v _ => v = .bl true) h1 h2 (fun _ => rfl)
  show ∃ h', b (none :: some (.ref 1) :: List.replicate n none) (Sh cs 0 []) = .rt (.bl true) h'
  cases e : b (none :: some (.ref 1) :: List.replicate n none) (Sh cs 0 []) with
  | rt v h' =>
    rw [e] at w
    have w : v = .bl true := w
    exact ⟨h', by rw [w]⟩
  | nx ρ h => rw [e] at w; exact nomatch (show PV.non = PV.bl true from w)
  | bk ρ h => rw [e] at w; exact w.elim
  | ct ρ h => rw [e] at w; exact w.elim
  | ex c ρ h => rw [e] at w; exact w.elim
  | no => rw [e] at w; exact w.elim
theorem datL_ints (n : Nat) (h : HS) : ∀ cs : List Int, datL (dat n h) (cs.map PV.int) = some (cs.map PyData.int)
  | [] => rfl
  | c :: cs => by
    unfold datL
    rw [List.map_cons]
    dsimp only
    rw [datL_ints n h cs]
    cases n <;> rfl
theorem lay_ints : ∀ cs : List Int, PyData.canLayAll0 (cs.map PyData.int) = true ∧ PyData.depthAll (cs.map PyData.int) = 0
  | [] => ⟨rfl, rfl⟩
  | c :: cs => by
    obtain ⟨a, b⟩ := lay_ints cs
    simp [PyData.canLayAll0, PyData.depthAll, PyData.canLay0, PyData.depth, a, b]
def kBeginB : Ms :=
    (mSeq (mIfS (m1 asB (m2 eqV (mVar 1) (m1 dLst mNil)))
    (mAsg (m1 dLst (mCons (mC (.int 11)) mNil)) (gNm 1))
    mSkip)
    (mRet (mDict [((mC (.str "cells")), (mVar 1)), ((mC (.str "turn")), (mC (.int 0)))])))
theorem kBegin_eq (cs0 : List Int) : eqV (.ref 0) (.ref 1) [.lst (cs0.map PV.int), .lst []] = .ok (.bl (decide (cs0 = []))) [.lst (cs0.map PV.int), .lst []] := by
  obtain ⟨a, b⟩ := lay_ints cs0
  have e1 : dat 8 [.lst (cs0.map PV.int), .lst []] (.ref 0) = some (.list (cs0.map PyData.int)) := by
    unfold dat
    simp [datL_ints]
  have e2 : dat 8 [.lst (cs0.map PV.int), .lst []] (.ref 1) = some (.list []) := by
    unfold dat
    simp [datL]
  have s1 : SeqAt.shaped (.list (cs0.map PyData.int)) = true := by
    unfold SeqAt.shaped
    simp [PyData.canLay0, PyData.depth, a, b]
  have s2 : SeqAt.shaped (.list []) = true := by
    unfold SeqAt.shaped
    simp [PyData.canLay0, PyData.depth, PyData.canLayAll0, PyData.depthAll]
  unfold eqV eqB
  rw [e1, e2]
  simp only [s1, s2, and_self, if_true]
  cases cs0 with
  | nil => rfl
  | cons c cs => simp [PyData.eqv, PyData.eqvAll]
theorem kBegin_ok : BeginOk kBeginB := by
  intro cs0
  have w : SW (kBeginB [none, some (.ref 0)] [.lst (cs0.map PV.int)]) { rt := fun v h' => ∃ n c cs, v = .ref n ∧ h'[n]? = some (stDic c 0) ∧ h'[c]? = some (.lst (cs.map PV.int)) ∧ cs ≠ [] ∧ (cs0.length ≤ 63 → cs.length ≤ 63) } := by
    by_cases hc : cs0 = []
    · have e := kBegin_eq []
      rw [List.map_nil] at e
      simp [kBeginB, dLst, e, hc, dDic, stDic, putP, ks_ct, ks_tc]
      exact ⟨[11], rfl, by simp, by simp⟩
    · simp [kBeginB, dLst, kBegin_eq, hc, dDic, stDic, putP, ks_ct, ks_tc]
      exact ⟨cs0, rfl, hc, id⟩
  cases e : kBeginB [none, some (.ref 0)] [.lst (cs0.map PV.int)] with
  | rt v h' =>
    rw [e] at w
    obtain ⟨n, c, cs, rfl, w⟩ := w
    exact ⟨n, h', c, cs, rfl, w⟩
  | nx ρ h => rw [e] at w; exact w.elim
  | bk ρ h => rw [e] at w; exact w.elim
  | ct ρ h => rw [e] at w; exact w.elim
  | ex c ρ h => rw [e] at w; exact w.elim
  | no => rw [e] at w; exact w.elim
end Lt
namespace Lw
open PySem PySem.Spec PyProof.Rows L2 Lt
def topS (i : Nat) : Stmt := PySem.Challenge.pw_leasttables_k01_entries.main.body.getD i (.Pass ⟨0, 0, 0, 0⟩)
structure Bt (mg : Str → Option Value) : Prop where
  b_all : mg "all" = none
  b_bool : mg "bool" = none
  b_divmod : mg "divmod" = none
  b_int : mg "int" = none
  b_isinstance : mg "isinstance" = none
  b_len : mg "len" = none
  b_list : mg "list" = none
  b_range : mg "range" = none
  b_str : mg "str" = none
  b_tuple : mg "tuple" = none
  b_zip : mg "zip" = none
section
variable {P : Program} {w : World} {K : PySem.W.Frag} {mg : Str → Option Value} {base : Heap}
/-! lesser -/
abbrev s_lesser : Stmt := topS 1
theorem sc_lesser : FnScope ["one", "other"] ["one", "other"] (defScope s_lesser) := ⟨rfl, rfl, rfl, by decide +kernel, rfl, by decide +kernel, by decide +kernel⟩
noncomputable def b_lesser : Ms :=
    (mSeq (mIfS (mOr (m1 asB (m2 isV (mVar 0) (mC .non))) (mAnd (m1 asB (m2 isnotV (mVar 1) (mC .non))) (m1 asB (m2 ltV (mVar 1) (mVar 0)))))
    (mRet (mVar 1))
    mSkip)
    (mRet (mVar 0)))
noncomputable def py_lesser : List PV → HS → R PV := mDef 2 0 b_lesser
theorem ok_lesser {k : Nat} {f : Addr} {fd : FuncData} (F : Fun K "lesser" "lesser" s_lesser f fd) (hb : Binds K fd ["one", "other"] []) (hg : mg "lesser" = some (.ref f)) (B : Bt mg) : FnAt P w K mg base (k + 1) "lesser" py_lesser :=
  have nd := sc_lesser.nd
  fn_def (b := b_lesser) F sc_lesser hb hg fun cdv A outer s H E hr tk hp =>
    (sm_cons (sm_if (tm_w (wm_or (tm_cmp o_is (em_var (i := 0)) em_non) (wm_or1 (tm_w (wm_and (tm_cmp o_isnot (em_var (i := 1)) em_non) (wm_and1 (tm_cmp o_lt (em_var (i := 1)) (em_var (i := 0)))))))))
    (sm_one (sm_ret (em_var (i := 1))))
    sm_nil)
    (sm_one (sm_ret (em_var (i := 0)))))
/-! summed -/
abbrev s_summed : Stmt := topS 2
theorem sc_summed : FnScope ["one", "other"] ["one", "other"] (defScope s_summed) := ⟨rfl, rfl, rfl, by decide +kernel, rfl, by decide +kernel, by decide +kernel⟩
noncomputable def b_summed : Ms :=
    (mSeq (mIfS (mOr (m1 asB (m2 isV (mVar 0) (mC .non))) (m1 asB (m2 isV (mVar 1) (mC .non))))
    (mRet (mC .non))
    mSkip)
    (mRet (m2 addV (mVar 0) (mVar 1))))
noncomputable def py_summed : List PV → HS → R PV := mDef 2 0 b_summed
theorem ok_summed {k : Nat} {f : Addr} {fd : FuncData} (F : Fun K "summed" "summed" s_summed f fd) (hb : Binds K fd ["one", "other"] []) (hg : mg "summed" = some (.ref f)) (B : Bt mg) : FnAt P w K mg base (k + 1) "summed" py_summed :=
  have nd := sc_summed.nd
  fn_def (b := b_summed) F sc_summed hb hg fun cdv A outer s H E hr tk hp =>
    (sm_cons (sm_if (tm_w (wm_or (tm_cmp o_is (em_var (i := 0)) em_non) (wm_or1 (tm_cmp o_is (em_var (i := 1)) em_non))))
    (sm_one (sm_ret em_non))
    sm_nil)
    (sm_one (sm_ret (em_op o_add (em_var (i := 0)) (em_var (i := 1))))))
/-! is_at_most -/
abbrev s_is_at_most : Stmt := topS 3
theorem sc_is_at_most : FnScope ["one", "other"] ["one", "other"] (defScope s_is_at_most) := ⟨rfl, rfl, rfl, by decide +kernel, rfl, by decide +kernel, by decide +kernel⟩
noncomputable def b_is_at_most : Ms :=
    (mRet (mOrV (m2 isV (mVar 1) (mC .non)) (mAndV (m2 isnotV (mVar 0) (mC .non)) (m2 leV (mVar 0) (mVar 1)))))
noncomputable def py_is_at_most : List PV → HS → R PV := mDef 2 0 b_is_at_most
theorem ok_is_at_most {k : Nat} {f : Addr} {fd : FuncData} (F : Fun K "is_at_most" "is_at_most" s_is_at_most f fd) (hb : Binds K fd ["one", "other"] []) (hg : mg "is_at_most" = some (.ref f)) (B : Bt mg) : FnAt P w K mg base (k + 1) "is_at_most" py_is_at_most :=
  have nd := sc_is_at_most.nd
  fn_def (b := b_is_at_most) F sc_is_at_most hb hg fun cdv A outer s H E hr tk hp =>
    (sm_one (sm_ret (em_or (em_cmp o_is (em_var (i := 1)) em_non) (em_one (em_and (em_cmp o_isnot (em_var (i := 0)) em_non) (em_one (em_cmp o_le (em_var (i := 0)) (em_var (i := 1)))))))))
/-! _law_take -/
abbrev s_take : Stmt := topS 6
theorem sc_take : FnScope ["_law_state", "_law_many", "_law_turn", "_law_place", "_law_cell", "_law_digit", "_law_mixed"] ["_law_state", "_law_many"] (defScope s_take) := ⟨rfl, rfl, rfl, by decide +kernel, rfl, by decide +kernel, by decide +kernel⟩
noncomputable def b_take : Ms :=
    (mSeq (mAsg (m2 addV (m2 getV (mVar 0) (mC (.str "turn"))) (mC (.int 1))) (gNm 2))
    (mSeq (mAsg (mVar 2) (gSb (mVar 0) (mC (.str "turn"))))
    (mSeq (mAsg (m2 modV (mVar 2) (m1 (c1 lenV) (mCons (m2 getV (mVar 0) (mC (.str "cells"))) mNil))) (gNm 3))
    (mSeq (mAsg (m2 getV (m2 getV (mVar 0) (mC (.str "cells"))) (mVar 3)) (gNm 4))
    (mSeq (mIfS (m1 asB (m2 geV (mVar 4) (m2 powV (mC (.int 10)) (mC (.int 18)))))
    (mSeq (mAsg (m1 (c2 divmodV) (mCons (mVar 4) (mCons (mVar 1) mNil))) (gTp 2 (gC (gSb (m2 getV (mVar 0) (mC (.str "cells"))) (mVar 3)) (gC (gNm 5) gN0))))
    (mRet (mVar 5)))
    mSkip)
    (mSeq (mAsg (m2 modV (m2 mulV (m2 addV (m2 addV (m2 modV (mVar 4) (mC (.int 2147483629))) (m2 mulV (m2 mulV (mVar 2) (mVar 2)) (mC (.int 7919)))) (mC (.int 11))) (mC (.int 48271))) (mC (.int 2147483647))) (gNm 6))
    (mSeq (mAsg (m2 modV (m2 mulV (mVar 6) (mVar 6)) (mC (.int 2147483587))) (gNm 6))
    (mRet (m2 modV (m2 fdivV (m2 modV (m2 mulV (m2 addV (mVar 6) (m2 mulV (mVar 2) (mC (.int 104729)))) (mC (.int 69621))) (mC (.int 2147483629))) (mC (.int 64))) (mVar 1))))))))))
noncomputable def py_take : List PV → HS → R PV := mDef 2 5 b_take
theorem ok_take {k : Nat} {f : Addr} {fd : FuncData} (F : Fun K "_law_take" "_law_take" s_take f fd) (hb : Binds K fd ["_law_state", "_law_many"] []) (hg : mg "_law_take" = some (.ref f)) (B : Bt mg) : FnAt P w K mg base (k + 1) "_law_take" py_take :=
  have nd := sc_take.nd
  fn_def (b := b_take) F sc_take hb hg fun cdv A outer s H E hr tk hp =>
    (sm_cons (sm_set (i := 2) nd (em_op o_add (em_ix (hu_of hr) (em_var (i := 0)) em_str) em_int))
    (sm_cons (sm_asg (em_var (i := 2)) (gm_sub (hu_of hr) (em_var (i := 0)) em_str))
    (sm_cons (sm_set (i := 3) nd (em_op o_mod (em_var (i := 2)) (em_callB b_len B.b_len (by decide +kernel) (am_cons (em_ix (hu_of hr) (em_var (i := 0)) em_str) am_nil))))
    (sm_cons (sm_set (i := 4) nd (em_ix (hu_of hr) (em_ix (hu_of hr) (em_var (i := 0)) em_str) (em_var (i := 3))))
    (sm_cons (sm_if (tm_cmp o_ge (em_var (i := 4)) (em_op o_pow em_int em_int))
    (sm_cons (sm_asg (em_callB b_divmod B.b_divmod (by decide +kernel) (am_cons (em_var (i := 4)) (am_cons (em_var (i := 1)) am_nil))) (gm_tup (gm_cons (gm_sub (hu_of hr) (em_ix (hu_of hr) (em_var (i := 0)) em_str) (em_var (i := 3))) (gm_cons (gm_name (i := 5) nd) gm_nil))))
    (sm_one (sm_ret (em_var (i := 5)))))
    sm_nil)
    (sm_cons (sm_set (i := 6) nd (em_op o_mod (em_op o_mul (em_op o_add (em_op o_add (em_op o_mod (em_var (i := 4)) em_int) (em_op o_mul (em_op o_mul (em_var (i := 2)) (em_var (i := 2))) em_int)) em_int) em_int) em_int))
    (sm_cons (sm_set (i := 6) nd (em_op o_mod (em_op o_mul (em_var (i := 6)) (em_var (i := 6))) em_int))
    (sm_one (sm_ret (em_op o_mod (em_op o_fdiv (em_op o_mod (em_op o_mul (em_op o_add (em_var (i := 6)) (em_op o_mul (em_var (i := 2)) em_int)) em_int) em_int) em_int) (em_var (i := 1))))))))))))
/-! _law_same -/
abbrev s_same : Stmt := topS 7
theorem sc_same : FnScope ["_law_found", "_law_due", "_law_one", "_law_other"] ["_law_found", "_law_due"] (defScope s_same) := ⟨rfl, rfl, rfl, by decide +kernel, rfl, by decide +kernel, by decide +kernel⟩
noncomputable def b_same (rec : List PV → HS → R PV) : Ms :=
    (mSeq (mIfS (mTru (m1 (c2 isinstV) (mCons (mVar 1) (mCons (m1 dTup (mCons (mC (.ty "list")) (mCons (mC (.ty "tuple")) mNil))) mNil))))
    (mSeq (mIfS (mOr (m1 asB (m2 neV (m1 (c2 isinstV) (mCons (mVar 0) (mCons (mC (.ty "list")) mNil))) (m1 (c2 isinstV) (mCons (mVar 1) (mCons (mC (.ty "list")) mNil))))) (m1 asB (m2 neV (m1 (c2 isinstV) (mCons (mVar 0) (mCons (mC (.ty "tuple")) mNil))) (m1 (c2 isinstV) (mCons (mVar 1) (mCons (mC (.ty "tuple")) mNil))))))
    (mRet (mC (.bl false)))
    mSkip)
    (mRet (mAndV (m2 eqV (m1 (c1 lenV) (mCons (mVar 0) mNil)) (m1 (c1 lenV) (mCons (mVar 1) mNil))) (m1 (c1 allV) (mCons (mLc (m1 zipS (mCons (mVar 0) (mCons (mVar 1) mNil))) [2, 3] (gTp 2 (gC (gNm 2) (gC (gNm 3) gN0))) mYes (m1 rec (mCons (mVar 2) (mCons (mVar 3) mNil)))) mNil)))))
    mSkip)
    (mSeq (mIfS (m1 asB (m2 isV (mVar 1) (mC .non)))
    (mRet (m2 isV (mVar 0) (mC .non)))
    mSkip)
    (mSeq (mIfS (mTru (m1 (c2 isinstV) (mCons (mVar 1) (mCons (mC (.ty "bool")) mNil))))
    (mRet (mAndV (m1 (c2 isinstV) (mCons (mVar 0) (mCons (mC (.ty "bool")) mNil))) (m2 eqV (mVar 0) (mVar 1))))
    mSkip)
    (mSeq (mIfS (mTru (m1 (c2 isinstV) (mCons (mVar 1) (mCons (mC (.ty "str")) mNil))))
    (mRet (mAndV (m1 (c2 isinstV) (mCons (mVar 0) (mCons (mC (.ty "str")) mNil))) (m2 eqV (mVar 0) (mVar 1))))
    mSkip)
    (mRet (mAndV (m1 (c2 isinstV) (mCons (mVar 0) (mCons (mC (.ty "int")) mNil))) (mAndV (mNotV (m1 (c2 isinstV) (mCons (mVar 0) (mCons (mC (.ty "bool")) mNil)))) (m2 eqV (mVar 0) (mVar 1)))))))))
noncomputable def py_same : Nat → List PV → HS → R PV
  | 0 => fun _ _ => .no
  | k + 1 => mDef 2 2 (b_same (py_same k))
theorem ok_same {k : Nat} {f : Addr} {fd : FuncData} (F : Fun K "_law_same" "_law_same" s_same f fd) (hb : Binds K fd ["_law_found", "_law_due"] []) (hg : mg "_law_same" = some (.ref f)) (B : Bt mg) {rec : List PV → HS → R PV} (G_same : FnAt P w K mg base k "_law_same" rec) : FnAt P w K mg base (k + 1) "_law_same" (mDef 2 2 (b_same rec)) :=
  have nd := sc_same.nd
  fn_def (b := b_same rec) F sc_same hb hg fun cdv A outer s H E hr tk hp =>
    (sm_cons (sm_if (tm_tru (em_callB b_isinst B.b_isinstance (by decide +kernel) (am_cons (em_var (i := 1)) (am_cons (em_tup (am_cons (em_ty (n := "list") B.b_list (by decide +kernel)) (am_cons (em_ty (n := "tuple") B.b_tuple (by decide +kernel)) am_nil))) am_nil))))
    (sm_cons (sm_if (tm_w (wm_or (tm_cmp (o_ne hr.units) (em_callB b_isinst B.b_isinstance (by decide +kernel) (am_cons (em_var (i := 0)) (am_cons (em_ty (n := "list") B.b_list (by decide +kernel)) am_nil))) (em_callB b_isinst B.b_isinstance (by decide +kernel) (am_cons (em_var (i := 1)) (am_cons (em_ty (n := "list") B.b_list (by decide +kernel)) am_nil)))) (wm_or1 (tm_cmp (o_ne hr.units) (em_callB b_isinst B.b_isinstance (by decide +kernel) (am_cons (em_var (i := 0)) (am_cons (em_ty (n := "tuple") B.b_tuple (by decide +kernel)) am_nil))) (em_callB b_isinst B.b_isinstance (by decide +kernel) (am_cons (em_var (i := 1)) (am_cons (em_ty (n := "tuple") B.b_tuple (by decide +kernel)) am_nil)))))))
    (sm_one (sm_ret em_bl))
    sm_nil)
    (sm_one (sm_ret (em_and (em_cmp (o_eq hr.units) (em_callB b_len B.b_len (by decide +kernel) (am_cons (em_var (i := 0)) am_nil)) (em_callB b_len B.b_len (by decide +kernel) (am_cons (em_var (i := 1)) am_nil))) (em_one (em_callB b_all B.b_all (by decide +kernel) (am_cons (em_lc (own := [("_law_one", 2), ("_law_other", 3)]) nd (im_zip B.b_zip (am_cons (em_var (i := 0)) (am_cons (em_var (i := 1)) am_nil))) (by kernel_rfl) (fun _ _ _ _ _ => (gm_tup (gm_cons (gm_name (i := 2) nd) (gm_cons (gm_name (i := 3) nd) gm_nil)))) (fun _ _ _ _ _ => tsm_nil) (fun _ _ _ _ _ => (em_call takes0 hr G_same (am_cons (em_var (i := 2)) (am_cons (em_var (i := 3)) am_nil)))) (by decide)) am_nil)))))))
    sm_nil)
    (sm_cons (sm_if (tm_cmp o_is (em_var (i := 1)) em_non)
    (sm_one (sm_ret (em_cmp o_is (em_var (i := 0)) em_non)))
    sm_nil)
    (sm_cons (sm_if (tm_tru (em_callB b_isinst B.b_isinstance (by decide +kernel) (am_cons (em_var (i := 1)) (am_cons (em_ty (n := "bool") B.b_bool (by decide +kernel)) am_nil))))
    (sm_one (sm_ret (em_and (em_callB b_isinst B.b_isinstance (by decide +kernel) (am_cons (em_var (i := 0)) (am_cons (em_ty (n := "bool") B.b_bool (by decide +kernel)) am_nil))) (em_one (em_cmp (o_eq hr.units) (em_var (i := 0)) (em_var (i := 1)))))))
    sm_nil)
    (sm_cons (sm_if (tm_tru (em_callB b_isinst B.b_isinstance (by decide +kernel) (am_cons (em_var (i := 1)) (am_cons (em_ty (n := "str") B.b_str (by decide +kernel)) am_nil))))
    (sm_one (sm_ret (em_and (em_callB b_isinst B.b_isinstance (by decide +kernel) (am_cons (em_var (i := 0)) (am_cons (em_ty (n := "str") B.b_str (by decide +kernel)) am_nil))) (em_one (em_cmp (o_eq hr.units) (em_var (i := 0)) (em_var (i := 1)))))))
    sm_nil)
    (sm_one (sm_ret (em_and (em_callB b_isinst B.b_isinstance (by decide +kernel) (am_cons (em_var (i := 0)) (am_cons (em_ty (n := "int") B.b_int (by decide +kernel)) am_nil))) (em_and (em_not (em_callB b_isinst B.b_isinstance (by decide +kernel) (am_cons (em_var (i := 0)) (am_cons (em_ty (n := "bool") B.b_bool (by decide +kernel)) am_nil)))) (em_one (em_cmp (o_eq hr.units) (em_var (i := 0)) (em_var (i := 1))))))))))))
/-! _law_entry -/
abbrev s_entry : Stmt := topS 8
theorem sc_entry : FnScope ["_law_state", "_law_kind", "_law_size", "_law_found", "_law_turn"] ["_law_state", "_law_kind"] (defScope s_entry) := ⟨rfl, rfl, rfl, by decide +kernel, rfl, by decide +kernel, by decide +kernel⟩
noncomputable def b_entry : Ms :=
    (mSeq (mIfS (mAnd (m1 asB (m2 gtV (mVar 1) (mC (.int 0)))) (m1 asB (m2 eqV (m1 py_take (mCons (mVar 0) (mCons (mC (.int 4)) mNil))) (mC (.int 0)))))
    (mRet (mC .non))
    mSkip)
    (mSeq (mIfS (m1 asB (m2 ltV (mVar 1) (mC (.int 4))))
    (mSeq (mAsg (m2 getV (m1 dLst (mCons (mC (.int 3)) (mCons (mC (.int 3)) (mCons (mC (.int 3)) (mCons (mC (.int 1000)) mNil))))) (mVar 1)) (gNm 2))
    (mRet (m2 subV (m1 py_take (mCons (mVar 0) (mCons (m2 addV (m2 mulV (mC (.int 2)) (mVar 2)) (mC (.int 1))) mNil))) (mVar 2))))
    mSkip)
    (mSeq (mAsg (mC (.int 0)) (gNm 3))
    (mSeq (mFor (m1 rng1 (mCons (mC (.int 5)) mNil)) (gNm 4)
    (mAsg (m2 addV (m2 mulV (mVar 3) (m2 powV (mC (.int 10)) (mC (.int 6)))) (m1 py_take (mCons (mVar 0) (mCons (m2 powV (mC (.int 10)) (mC (.int 6))) mNil)))) (gNm 3)))
    (mSeq (mIfS (m1 asB (m2 eqV (m1 py_take (mCons (mVar 0) (mCons (mC (.int 8)) mNil))) (mC (.int 0))))
    (mAsg (m2 mulV (m2 mulV (mVar 3) (m2 powV (m2 powV (mC (.int 10)) (mC (.int 60))) (mC (.int 5)))) (m2 powV (mC (.int 10)) (mC (.int 20)))) (gNm 3))
    mSkip)
    (mRet (m2 mulV (mVar 3) (m2 subV (mC (.int 1)) (m2 mulV (mC (.int 2)) (m1 py_take (mCons (mVar 0) (mCons (mC (.int 2)) mNil))))))))))))
noncomputable def py_entry : List PV → HS → R PV := mDef 2 3 b_entry
theorem ok_entry {k : Nat} {f : Addr} {fd : FuncData} (F : Fun K "_law_entry" "_law_entry" s_entry f fd) (hb : Binds K fd ["_law_state", "_law_kind"] []) (hg : mg "_law_entry" = some (.ref f)) (B : Bt mg) (G_take : FnAt P w K mg base k "_law_take" py_take) : FnAt P w K mg base (k + 1) "_law_entry" py_entry :=
  have nd := sc_entry.nd
  fn_def (b := b_entry) F sc_entry hb hg fun cdv A outer s H E hr tk hp =>
    (sm_cons (sm_if (tm_w (wm_and (tm_cmp o_gt (em_var (i := 1)) em_int) (wm_and1 (tm_cmp (o_eq hr.units) (em_call tk hr G_take (am_cons (em_var (i := 0)) (am_cons em_int am_nil))) em_int))))
    (sm_one (sm_ret em_non))
    sm_nil)
    (sm_cons (sm_if (tm_cmp o_lt (em_var (i := 1)) em_int)
    (sm_cons (sm_set (i := 2) nd (em_ix (hu_of hr) (em_lst (am_cons em_int (am_cons em_int (am_cons em_int (am_cons em_int am_nil))))) (em_var (i := 1))))
    (sm_one (sm_ret (em_op o_sub (em_call tk hr G_take (am_cons (em_var (i := 0)) (am_cons (em_op o_add (em_op o_mul em_int (em_var (i := 2))) em_int) am_nil))) (em_var (i := 2))))))
    sm_nil)
    (sm_cons (sm_set (i := 3) nd em_int)
    (sm_cons (sm_for hp (im_range1 B.b_range (am_cons em_int am_nil)) (gm_name (i := 4) nd)
    (sm_one (sm_set (i := 3) nd (em_op o_add (em_op o_mul (em_var (i := 3)) (em_op o_pow em_int em_int)) (em_call tk hr G_take (am_cons (em_var (i := 0)) (am_cons (em_op o_pow em_int em_int) am_nil)))))))
    (sm_cons (sm_if (tm_cmp (o_eq hr.units) (em_call tk hr G_take (am_cons (em_var (i := 0)) (am_cons em_int am_nil))) em_int)
    (sm_one (sm_set (i := 3) nd (em_op o_mul (em_op o_mul (em_var (i := 3)) (em_op o_pow (em_op o_pow em_int em_int) em_int)) (em_op o_pow em_int em_int))))
    sm_nil)
    (sm_one (sm_ret (em_op o_mul (em_var (i := 3)) (em_op o_sub em_int (em_op o_mul em_int (em_call tk hr G_take (am_cons (em_var (i := 0)) (am_cons em_int am_nil)))))))))))))
/-! _law_reckoned -/
abbrev s_reckoned : Stmt := topS 9
theorem sc_reckoned : FnScope ["_law_one", "_law_other"] ["_law_one", "_law_other"] (defScope s_reckoned) := ⟨rfl, rfl, rfl, by decide +kernel, rfl, by decide +kernel, by decide +kernel⟩
noncomputable def b_reckoned : Ms :=
    (mSeq (mIfS (mOr (m1 asB (m2 isV (mVar 0) (mC .non))) (m1 asB (m2 isV (mVar 1) (mC .non))))
    (mRet (m1 dLst (mCons (mIf (m1 asB (m2 isV (mVar 0) (mC .non))) (mVar 1) (mVar 0)) (mCons (mC .non) (mCons (m2 isV (mVar 1) (mC .non)) mNil)))))
    mSkip)
    (mRet (m1 dLst (mCons (mIf (m1 asB (m2 ltV (mVar 0) (mVar 1))) (mVar 0) (mVar 1)) (mCons (m2 addV (mVar 0) (mVar 1)) (mCons (m2 leV (mVar 0) (mVar 1)) mNil))))))
noncomputable def py_reckoned : List PV → HS → R PV := mDef 2 0 b_reckoned
theorem ok_reckoned {k : Nat} {f : Addr} {fd : FuncData} (F : Fun K "_law_reckoned" "_law_reckoned" s_reckoned f fd) (hb : Binds K fd ["_law_one", "_law_other"] []) (hg : mg "_law_reckoned" = some (.ref f)) (B : Bt mg) : FnAt P w K mg base (k + 1) "_law_reckoned" py_reckoned :=
  have nd := sc_reckoned.nd
  fn_def (b := b_reckoned) F sc_reckoned hb hg fun cdv A outer s H E hr tk hp =>
    (sm_cons (sm_if (tm_w (wm_or (tm_cmp o_is (em_var (i := 0)) em_non) (wm_or1 (tm_cmp o_is (em_var (i := 1)) em_non))))
    (sm_one (sm_ret (em_lst (am_cons (em_if (tm_cmp o_is (em_var (i := 0)) em_non) (em_var (i := 1)) (em_var (i := 0))) (am_cons em_non (am_cons (em_cmp o_is (em_var (i := 1)) em_non) am_nil))))))
    sm_nil)
    (sm_one (sm_ret (em_lst (am_cons (em_if (tm_cmp o_lt (em_var (i := 0)) (em_var (i := 1))) (em_var (i := 0)) (em_var (i := 1))) (am_cons (em_op o_add (em_var (i := 0)) (em_var (i := 1))) (am_cons (em_cmp o_le (em_var (i := 0)) (em_var (i := 1))) am_nil)))))))
/-! _law_right -/
abbrev s_right : Stmt := topS 10
theorem sc_right : FnScope ["_law_one", "_law_other", "_law_left", "_law_right_here", "_law_found"] ["_law_one", "_law_other"] (defScope s_right) := ⟨rfl, rfl, rfl, by decide +kernel, rfl, by decide +kernel, by decide +kernel⟩
noncomputable def b_right : Ms :=
    (mSeq (mFor (m1 srcOf (m1 dTup (mCons (m1 dTup (mCons (mVar 0) (mCons (mVar 1) mNil))) (mCons (m1 dTup (mCons (mVar 1) (mCons (mVar 0) mNil))) mNil)))) (gTp 2 (gC (gNm 2) (gC (gNm 3) gN0)))
    (mSeq (mAsg (m1 dLst (mCons (m1 py_lesser (mCons (mVar 2) (mCons (mVar 3) mNil))) (mCons (m1 py_summed (mCons (mVar 2) (mCons (mVar 3) mNil))) (mCons (m1 py_is_at_most (mCons (mVar 2) (mCons (mVar 3) mNil))) mNil)))) (gNm 4))
    (mIfS (mNot (mTru (m1 (py_same 8) (mCons (mVar 4) (mCons (m1 py_reckoned (mCons (mVar 2) (mCons (mVar 3) mNil))) mNil)))))
    (mRet (mC (.bl false)))
    mSkip)))
    (mRet (mC (.bl true))))
noncomputable def py_right : List PV → HS → R PV := mDef 2 3 b_right
theorem ok_right {k : Nat} {f : Addr} {fd : FuncData} (F : Fun K "_law_right" "_law_right" s_right f fd) (hb : Binds K fd ["_law_one", "_law_other"] []) (hg : mg "_law_right" = some (.ref f)) (B : Bt mg) (G_is_at_most : FnAt P w K mg base k "is_at_most" py_is_at_most) (G_summed : FnAt P w K mg base k "summed" py_summed) (G_lesser : FnAt P w K mg base k "lesser" py_lesser) (G_same : FnAt P w K mg base k "_law_same" (py_same 8)) (G_reckoned : FnAt P w K mg base k "_law_reckoned" py_reckoned) : FnAt P w K mg base (k + 1) "_law_right" py_right :=
  have nd := sc_right.nd
  fn_def (b := b_right) F sc_right hb hg fun cdv A outer s H E hr tk hp =>
    (sm_cons (sm_for hp (im_seq (em_tup (am_cons (em_tup (am_cons (em_var (i := 0)) (am_cons (em_var (i := 1)) am_nil))) (am_cons (em_tup (am_cons (em_var (i := 1)) (am_cons (em_var (i := 0)) am_nil))) am_nil)))) (gm_tup (gm_cons (gm_name (i := 2) nd) (gm_cons (gm_name (i := 3) nd) gm_nil)))
    (sm_cons (sm_set (i := 4) nd (em_lst (am_cons (em_call tk hr G_lesser (am_cons (em_var (i := 2)) (am_cons (em_var (i := 3)) am_nil))) (am_cons (em_call tk hr G_summed (am_cons (em_var (i := 2)) (am_cons (em_var (i := 3)) am_nil))) (am_cons (em_call tk hr G_is_at_most (am_cons (em_var (i := 2)) (am_cons (em_var (i := 3)) am_nil))) am_nil)))))
    (sm_one (sm_if (tm_not (tm_tru (em_call tk hr G_same (am_cons (em_var (i := 4)) (am_cons (em_call tk hr G_reckoned (am_cons (em_var (i := 2)) (am_cons (em_var (i := 3)) am_nil))) am_nil)))))
    (sm_one (sm_ret em_bl))
    sm_nil))))
    (sm_one (sm_ret em_bl)))
abbrev s_begin : Stmt := topS 5
theorem sc_begin : FnScope ["_law_script", "_law_cells"] ["_law_script"] (defScope s_begin) := ⟨rfl, rfl, rfl, by decide +kernel, rfl, by decide +kernel, by decide +kernel⟩
noncomputable def b_begin : Ms :=
    (mSeq (mIfS (m1 asB (m2 eqV (mVar 1) (m1 dLst mNil)))
    (mAsg (m1 dLst (mCons (mC (.int 11)) mNil)) (gNm 1))
    mSkip)
    (mRet (mDict [((mC (.str "cells")), (mVar 1)), ((mC (.str "turn")), (mC (.int 0)))])))
theorem ok_begin {k : Nat} {f : Addr} {fd : FuncData} (F : Fun K "_law_begin" "_law_begin" s_begin f fd) (B : Bt mg) (hbeg : BeginOk b_begin) : FnOk P w K mg base (L2.CX P w) (k + 1) f fd ["_law_script"] (spBegin K) := by
  have nd := sc_begin.nd
  refine F.okX sc_begin (fun vs H Q E h => by obtain ⟨a, ns, rfl, _⟩ := h; rfl) fun cdv A outer s H vs Q E hr h => ?_
  obtain ⟨a, ns, rfl, hS, hl, q⟩ := h
  have tk : Takes (bodyX P w K mg base ["_law_script", "_law_cells"] "_law_begin" s_begin f cdv A outer s H E) (fun cls d _ H => E cls d H) := takes_of rfl rfl rfl rfl
  have rest : PSsm (bodyX P w K mg base ["_law_script", "_law_cells"] "_law_begin" s_begin f cdv A outer s H E) (fun cls d _ H => E cls d H) ((defBody s_begin).drop 1) b_begin :=
    (sm_cons (sm_if (tm_cmp (o_eq hr.units) (em_var (i := 1)) (em_lst am_nil))
    (sm_one (sm_set (i := 1) nd (em_lst (am_cons em_int am_nil))))
    sm_nil)
    (sm_one (sm_ret (em_dict (ppm_cons em_str (em_var (i := 1)) (ppm_cons em_str em_int ppm_nil))))))
  exact ⟨_, pss_cons (ps_set (i := 1) nd rfl (.inl rfl) (pe_callTy call_list_of (by rfl) B.b_list (by decide +kernel) (pa_cons (pe_slice sl_list (pv 0) po_none (po_some pe_int)) pa_nil))) rest, begin_read hbeg hS hl q⟩
abbrev s_law : Stmt := topS 11
theorem sc_law : FnScope ["_law_script", "_law_state", "_law_turn", "_law_near", "_law_kinds", "_law_one", "_law_other"] ["_law_script"] (defScope s_law) := ⟨rfl, rfl, rfl, by decide +kernel, rfl, by decide +kernel, by decide +kernel⟩
noncomputable def b_law : Ms :=
    (mSeq (mFor (m1 rng1 (mCons (mC (.int 8)) mNil)) (gNm 2)
    (mSeq (mPar 3 4 (mCons (m1 py_take (mCons (mVar 1) (mCons (mC (.int 4)) mNil))) (mCons (m1 dLst (mCons (m1 py_take (mCons (mVar 1) (mCons (mC (.int 5)) mNil))) (mCons (m1 py_take (mCons (mVar 1) (mCons (mC (.int 5)) mNil))) mNil))) mNil)))
    (mSeq (mPar 5 6 (mCons (m1 py_entry (mCons (mVar 1) (mCons (m2 getV (mVar 4) (mC (.int 0))) mNil))) (mCons (m1 py_entry (mCons (mVar 1) (mCons (m2 getV (mVar 4) (mC (.int 1))) mNil))) mNil)))
    (mSeq (mIfS (mAnd (m1 asB (m2 ltV (mVar 3) (mC (.int 3)))) (m1 asB (m2 isnotV (mVar 5) (mC .non))))
    (mAsg (m2 subV (m2 addV (mVar 5) (mVar 3)) (mC (.int 1))) (gNm 6))
    mSkip)
    (mIfS (mOr (mNot (mTru (m1 py_right (mCons (mVar 5) (mCons (mVar 6) mNil))))) (mOr (mNot (mTru (m1 py_right (mCons (mVar 5) (mCons (mC .non) mNil))))) (mNot (mTru (m1 py_right (mCons (mVar 6) (mCons (mC (.int 0)) mNil)))))))
    (mRet (mC (.bl false)))
    mSkip)))))
    (mRet (mAndV (m1 py_right (mCons (mC .non) (mCons (mC .non) mNil))) (m1 py_right (mCons (mC (.int 0)) (mCons (mC (.int 0)) mNil))))))
theorem ok_law {k : Nat} {f fB : Addr} {fd fdB : FuncData} (F : Fun K "law" "law" s_law f fd) (GB : FnOk P w K mg base (L2.CX P w) k fB fdB ["_law_script"] (spBegin K)) (kB : PySem.W.keepIn K (.ref fB) = true) (bB : Binds K fdB ["_law_script"] []) (gB : mg "_law_begin" = some (.ref fB)) (B : Bt mg) (G_take : FnAt P w K mg base k "_law_take" py_take) (G_entry : FnAt P w K mg base k "_law_entry" py_entry) (G_right : FnAt P w K mg base k "_law_right" py_right) (hlaw : LawOk 5 b_law) : FnOk P w K mg base (L2.CX P w) (k + 1) f fd ["_law_script"] (spLaw K) := by
  have nd := sc_law.nd
  refine F.okX sc_law (fun vs H Q E h => by obtain ⟨a, ns, rfl, _⟩ := h; rfl) fun cdv A outer s H vs Q E hr h => ?_
  obtain ⟨a, ns, rfl, hS, hl, q⟩ := h
  have tk : Takes (bodyX P w K mg base ["_law_script", "_law_state", "_law_turn", "_law_near", "_law_kinds", "_law_one", "_law_other"] "law" s_law f cdv A outer s H E) (fun cls d _ H => E cls d H) := takes_of rfl rfl rfl rfl
  have hp : PassesOwn (model P w) (bodyX P w K mg base ["_law_script", "_law_state", "_law_turn", "_law_near", "_law_kinds", "_law_one", "_law_other"] "law" s_law f cdv A outer s H E).A (bodyX P w K mg base ["_law_script", "_law_state", "_law_turn", "_law_near", "_law_kinds", "_law_one", "_law_other"] "law" s_law f cdv A outer s H E).env (bodyX P w K mg base ["_law_script", "_law_state", "_law_turn", "_law_near", "_law_kinds", "_law_one", "_law_other"] "law" s_law f cdv A outer s H E).xe := passes_of rfl
  have rest : PSsm (bodyX P w K mg base ["_law_script", "_law_state", "_law_turn", "_law_near", "_law_kinds", "_law_one", "_law_other"] "law" s_law f cdv A outer s H E) (fun cls d _ H => E cls d H) ((defBody s_law).drop 1) b_law :=
    (sm_cons (sm_for hp (im_range1 B.b_range (am_cons em_int am_nil)) (gm_name (i := 2) nd)
    (sm_cons (sm_par (i := 3) (j := 4) nd (am_cons (em_call tk hr G_take (am_cons (em_var (i := 1)) (am_cons em_int am_nil))) (am_cons (em_lst (am_cons (em_call tk hr G_take (am_cons (em_var (i := 1)) (am_cons em_int am_nil))) (am_cons (em_call tk hr G_take (am_cons (em_var (i := 1)) (am_cons em_int am_nil))) am_nil))) am_nil)))
    (sm_cons (sm_par (i := 5) (j := 6) nd (am_cons (em_call tk hr G_entry (am_cons (em_var (i := 1)) (am_cons (em_ix (hu_of hr) (em_var (i := 4)) em_int) am_nil))) (am_cons (em_call tk hr G_entry (am_cons (em_var (i := 1)) (am_cons (em_ix (hu_of hr) (em_var (i := 4)) em_int) am_nil))) am_nil)))
    (sm_cons (sm_if (tm_w (wm_and (tm_cmp o_lt (em_var (i := 3)) em_int) (wm_and1 (tm_cmp o_isnot (em_var (i := 5)) em_non))))
    (sm_one (sm_set (i := 6) nd (em_op o_sub (em_op o_add (em_var (i := 5)) (em_var (i := 3))) em_int)))
    sm_nil)
    (sm_one (sm_if (tm_w (wm_or (tm_not (tm_tru (em_call tk hr G_right (am_cons (em_var (i := 5)) (am_cons (em_var (i := 6)) am_nil))))) (wm_or (tm_not (tm_tru (em_call tk hr G_right (am_cons (em_var (i := 5)) (am_cons em_non am_nil))))) (wm_or1 (tm_not (tm_tru (em_call tk hr G_right (am_cons (em_var (i := 6)) (am_cons em_int am_nil)))))))))
    (sm_one (sm_ret em_bl))
    sm_nil))))))
    (sm_one (sm_ret (em_and (em_call tk hr G_right (am_cons em_non (am_cons em_non am_nil))) (em_one (em_call tk hr G_right (am_cons em_int (am_cons em_int am_nil))))))))
  exact ⟨_, pss_cons (ps_set (i := 1) nd rfl (.inl rfl) (pe_callS GB hr (by rfl) gB kB bB (passAt tk) (pa_cons (pv 0) pa_nil))) rest,
    ⟨.ref a, rfl, a, ns, rfl, hS, hl, fun H' pc pd cs h1 h2 hne g1 g2 => law_read hlaw h1 h2 hne g1 g2 q rfl⟩⟩
theorem all_mk {l : PySem.W.OpenLaw} {h : Heap} {fa : Addr} (X : K.In h) (G : h.Ns mainGlobals mg) (hfa : mg "law" = some (.ref fa)) (hbeg : BeginOk b_begin) (hlaw : LawOk 5 b_law)
    (t_lesser : Stands K "lesser" s_lesser)
    (t_summed : Stands K "summed" s_summed)
    (t_is_at_most : Stands K "is_at_most" s_is_at_most)
    (t_take : Stands K "_law_take" s_take)
    (t_same : Stands K "_law_same" s_same)
    (t_entry : Stands K "_law_entry" s_entry)
    (t_reckoned : Stands K "_law_reckoned" s_reckoned)
    (t_right : Stands K "_law_right" s_right)
    (t_begin : Stands K "_law_begin" s_begin)
    (t_law : Stands K "law" s_law)
    (z_all : PySem.W.nsIn K mainGlobals "all" = some none)
    (z_bool : PySem.W.nsIn K mainGlobals "bool" = some none)
    (z_divmod : PySem.W.nsIn K mainGlobals "divmod" = some none)
    (z_int : PySem.W.nsIn K mainGlobals "int" = some none)
    (z_isinstance : PySem.W.nsIn K mainGlobals "isinstance" = some none)
    (z_len : PySem.W.nsIn K mainGlobals "len" = some none)
    (z_list : PySem.W.nsIn K mainGlobals "list" = some none)
    (z_range : PySem.W.nsIn K mainGlobals "range" = some none)
    (z_str : PySem.W.nsIn K mainGlobals "str" = some none)
    (z_tuple : PySem.W.nsIn K mainGlobals "tuple" = some none)
    (z_zip : PySem.W.nsIn K mainGlobals "zip" = some none) :
    ∃ fd : FuncData, (∀ (s : Shared) (v : Value), BindsTo s fd ⟨[v], []⟩ [("_law_script", v)]) ∧ ∀ base : Heap, K.In base → base.Ns mainGlobals mg → FnOk l.prog w K mg base (L2.CX l.prog w) 11 fa fd ["_law_script"] (spLaw K) := by
  have B : Bt mg := ⟨PySem.W.mg_none_of X G z_all, PySem.W.mg_none_of X G z_bool, PySem.W.mg_none_of X G z_divmod, PySem.W.mg_none_of X G z_int, PySem.W.mg_none_of X G z_isinstance, PySem.W.mg_none_of X G z_len, PySem.W.mg_none_of X G z_list, PySem.W.mg_none_of X G z_range, PySem.W.mg_none_of X G z_str, PySem.W.mg_none_of X G z_tuple, PySem.W.mg_none_of X G z_zip⟩
  obtain ⟨f_lesser, fd_lesser, F_lesser, g_lesser, x_lesser⟩ := t_lesser.get X G
  have b_lesser := F_lesser.binds (ps := ["one", "other"]) fun _ _ _ _ _ _ us hl => match us, hl with | [_, _], _ => rfl
  obtain ⟨f_summed, fd_summed, F_summed, g_summed, x_summed⟩ := t_summed.get X G
  have b_summed := F_summed.binds (ps := ["one", "other"]) fun _ _ _ _ _ _ us hl => match us, hl with | [_, _], _ => rfl
  obtain ⟨f_is_at_most, fd_is_at_most, F_is_at_most, g_is_at_most, x_is_at_most⟩ := t_is_at_most.get X G
  have b_is_at_most := F_is_at_most.binds (ps := ["one", "other"]) fun _ _ _ _ _ _ us hl => match us, hl with | [_, _], _ => rfl
  obtain ⟨f_take, fd_take, F_take, g_take, x_take⟩ := t_take.get X G
  have b_take := F_take.binds (ps := ["_law_state", "_law_many"]) fun _ _ _ _ _ _ us hl => match us, hl with | [_, _], _ => rfl
  obtain ⟨f_same, fd_same, F_same, g_same, x_same⟩ := t_same.get X G
  have b_same := F_same.binds (ps := ["_law_found", "_law_due"]) fun _ _ _ _ _ _ us hl => match us, hl with | [_, _], _ => rfl
  obtain ⟨f_entry, fd_entry, F_entry, g_entry, x_entry⟩ := t_entry.get X G
  have b_entry := F_entry.binds (ps := ["_law_state", "_law_kind"]) fun _ _ _ _ _ _ us hl => match us, hl with | [_, _], _ => rfl
  obtain ⟨f_reckoned, fd_reckoned, F_reckoned, g_reckoned, x_reckoned⟩ := t_reckoned.get X G
  have b_reckoned := F_reckoned.binds (ps := ["_law_one", "_law_other"]) fun _ _ _ _ _ _ us hl => match us, hl with | [_, _], _ => rfl
  obtain ⟨f_right, fd_right, F_right, g_right, x_right⟩ := t_right.get X G
  have b_right := F_right.binds (ps := ["_law_one", "_law_other"]) fun _ _ _ _ _ _ us hl => match us, hl with | [_, _], _ => rfl
  obtain ⟨f_begin, fd_begin, F_begin, g_begin, x_begin⟩ := t_begin.get X G
  have b_begin := F_begin.binds (ps := ["_law_script"]) fun _ _ _ _ _ _ us hl => match us, hl with | [_], _ => rfl
  obtain ⟨f_law, fd_law, F_law, g_law, x_law⟩ := t_law.get X G
  have b_law := F_law.binds (ps := ["_law_script"]) fun _ _ _ _ _ _ us hl => match us, hl with | [_], _ => rfl
  rw [g_law] at hfa
  cases hfa
  refine ⟨fd_law, fun s v => ?_, fun base _ _ => ?_⟩
  · obtain ⟨_, _, _, _, _, _, rfl⟩ := x_law
    exact .of_eq rfl
  · have G_lesser := ok_lesser (P := l.prog) (w := w) (base := base) (k := 0) F_lesser b_lesser g_lesser B
    have G_summed := ok_summed (P := l.prog) (w := w) (base := base) (k := 0) F_summed b_summed g_summed B
    have G_is_at_most := ok_is_at_most (P := l.prog) (w := w) (base := base) (k := 0) F_is_at_most b_is_at_most g_is_at_most B
    have G_take := ok_take (P := l.prog) (w := w) (base := base) (k := 0) F_take b_take g_take B
    have R_same : ∀ k : Nat, FnAt l.prog w K mg base (1 + k) "_law_same" (py_same k) := fun k => by
      induction k with
      | zero => exact (fn_no F_same sc_same b_same g_same).mono (by decide)
      | succ k ih => exact ok_same F_same b_same g_same B ih
    have G_same := R_same 8
    have G_entry := ok_entry (P := l.prog) (w := w) (base := base) (k := 1) F_entry b_entry g_entry B (G_take.mono (by decide))
    have G_reckoned := ok_reckoned (P := l.prog) (w := w) (base := base) (k := 0) F_reckoned b_reckoned g_reckoned B
    have G_right := ok_right (P := l.prog) (w := w) (base := base) (k := 9) F_right b_right g_right B (G_is_at_most.mono (by decide)) (G_summed.mono (by decide)) (G_lesser.mono (by decide)) (G_same.mono (by decide)) (G_reckoned.mono (by decide))
    have GB := ok_begin (P := l.prog) (w := w) (base := base) (k := 0) F_begin B hbeg
    exact ok_law (k := 10) F_law (GB.mono (by decide)) F_begin.kp b_begin g_begin B (G_take.mono (by decide)) (G_entry.mono (by decide)) (G_right.mono (by decide)) hlaw
end
end Lw
namespace Lw
open Lt L2 PySem
theorem take_is : py_take = kTake := rfl
theorem entry_w {b : Int} {cs : List Int} {t k : Int} {tl : HS} {Q : PV → HS → Prop} {E : PX → HS → Prop} (g : Gd b cs t) (hb : 8 ≤ b) (h0 : 0 ≤ k) (h1 : k < 5)
    (q : ∀ cs' t' o g', Gd (b - 8) cs' t' → EB (10 ^ 400) o → Q (en o) (Sh cs' t' (tl ++ g'))) : W (py_entry [.ref 1, .int k] (Sh cs t tl)) Q E := by
  have qn : ∀ b' cs' t' tl', Gd b' cs' t' → b - 8 ≤ b' → tl <+: tl' → Q .non (Sh cs' t' tl') := fun b' cs' t' tl' g' hb ⟨z, hz⟩ => by
    subst hz
    exact q cs' t' none z (g'.less hb) .none
  have qi : ∀ b' cs' t' tl' i, Gd b' cs' t' → b - 8 ≤ b' → tl <+: tl' → -10 ^ 400 < i → i < 10 ^ 400 → Q (.int i) (Sh cs' t' tl') := fun b' cs' t' tl' i g' hb ⟨z, hz⟩ l1 l2 => by
    subst hz
    exact q cs' t' (some i) z (g'.less hb) (.some l1 l2)
  obtain rfl | rfl | rfl | rfl | rfl : k = 0 ∨ k = 1 ∨ k = 2 ∨ k = 3 ∨ k = 4 := by omega
  · simp [py_entry, b_entry, take_is]
    refine take_w g (by omega) (by omega) (by omega) fun cs1 t1 d1 g1 p1 p2 => ?_
    simp
    exact qi _ _ _ _ _ g1 (by omega) (List.prefix_append _ _) (by omega) (by omega)
  · simp [py_entry, b_entry, take_is]
    refine take_w g (by omega) (by omega) (by omega) fun cs1 t1 d1 g1 p1 p2 => ?_
    simp [eqV_int]
    split
    · exact qn _ _ _ _ g1 (by omega) (List.prefix_refl _)
    · refine take_w g1 (by omega) (by omega) (by omega) fun cs2 t2 d2 g2 p3 p4 => ?_
      simp
      exact qi _ _ _ _ _ g2 (by omega) (List.prefix_append _ _) (by omega) (by omega)
  · simp [py_entry, b_entry, take_is]
    refine take_w g (by omega) (by omega) (by omega) fun cs1 t1 d1 g1 p1 p2 => ?_
    simp [eqV_int]
    split
    · exact qn _ _ _ _ g1 (by omega) (List.prefix_refl _)
    · refine take_w g1 (by omega) (by omega) (by omega) fun cs2 t2 d2 g2 p3 p4 => ?_
      simp
      exact qi _ _ _ _ _ g2 (by omega) (List.prefix_append _ _) (by omega) (by omega)
  · simp [py_entry, b_entry, take_is]
    refine take_w g (by omega) (by omega) (by omega) fun cs1 t1 d1 g1 p1 p2 => ?_
    simp [eqV_int]
    split
    · exact qn _ _ _ _ g1 (by omega) (List.prefix_refl _)
    · refine take_w g1 (by omega) (by omega) (by omega) fun cs2 t2 d2 g2 p3 p4 => ?_
      simp
      exact qi _ _ _ _ _ g2 (by omega) (List.prefix_append _ _) (by omega) (by omega)
  · simp [py_entry, b_entry, take_is]
    refine take_w g (by omega) (by omega) (by omega) fun cs1 t1 d1 g1 p1 p2 => ?_
    simp [eqV_int]
    split
    · exact qn _ _ _ _ g1 (by omega) (List.prefix_refl _)
    · have pw : ∀ i : Nat, i ≤ 5 → (1000000 : Int) ^ i ≤ 10 ^ 30 := by decide
      refine for_w (fun i ρ h => ∃ f x cs' t', 0 ≤ f ∧ f < 1000000 ^ i ∧ i ≤ 5 ∧ Gd (b - 1 - i) cs' t' ∧ ρ = [some (.ref 1), some (.int 4), none, some (.int f), x] ∧ h = Sh cs' t' tl) ⟨0, none, cs1, t1, by omega, by simp, by omega, by simpa using g1, rfl, rfl⟩ (fun _ _ _ _ => trivial) ?_ ?_
      · rintro i x ρ h ex ⟨f, x', cs', t', p1, p2, p3, g', rfl, rfl⟩
        obtain ⟨hi, rfl⟩ := rngP_get ex
        have := pw i (by omega)
        have sf : small f := small_lt (by omega) (by omega)
        simp [sf]
        refine take_w g' (by omega) (by omega) (by omega) fun cs2 t2 d2 g2 p3 p4 => ?_
        simp
        exact ⟨_, by omega, by rw [Int.pow_succ]; omega, by omega, _, _, _, g2.less (by omega), ⟨rfl, rfl⟩, rfl⟩
      · rintro ρ h ⟨f, x', cs', t', p1, p2, p3, g', rfl, rfl⟩
        simp at p2 g'
        simp
        refine take_w g' (by omega) (by omega) (by omega) fun cs2 t2 d2 g2 p3 p4 => ?_
        simp [eqV_int]
        split
        · refine ⟨⟨small_big (by omega) (by omega), small_big (by omega) (by omega)⟩, small_big (by omega) (by omega), ?_⟩
          refine take_w g2 (by omega) (by omega) (by omega) fun cs3 t3 d3 g3 p5 p6 => ?_
          obtain rfl | rfl : d3 = 0 ∨ d3 = 1 := by omega
          · simp
            exact ⟨small_big (by omega) (by omega), qi _ _ _ _ _ g3 (by omega) (List.prefix_refl _) (by omega) (by omega)⟩
          · simp
            exact ⟨small_big (by omega) (by omega), qi _ _ _ _ _ g3 (by omega) (List.prefix_refl _) (by omega) (by omega)⟩
        · refine take_w g2 (by omega) (by omega) (by omega) fun cs3 t3 d3 g3 p5 p6 => ?_
          obtain rfl | rfl : d3 = 0 ∨ d3 = 1 := by omega
          · simp
            exact ⟨small_big (by omega) (by omega), qi _ _ _ _ _ g3 (by omega) (List.prefix_refl _) (by omega) (by omega)⟩
          · simp
            exact ⟨small_big (by omega) (by omega), qi _ _ _ _ _ g3 (by omega) (List.prefix_refl _) (by omega) (by omega)⟩
def lesO : Option Int → Option Int → Option Int
  | none, b => b
  | a, none => a
  | some a, some b => some (if b < a then b else a)
def addO : Option Int → Option Int → Option Int
  | some a, some b => some (a + b)
  | _, _ => none
def leO : Option Int → Option Int → Bool
  | _, none => true
  | none, some _ => false
  | some a, some b => decide (a ≤ b)
section
variable {a b : Option Int} {h : HS} {Q : PV → HS → Prop} {E : PX → HS → Prop}
@[simp] theorem lesser_w : W (py_lesser [en a, en b] h) Q E = Q (en (lesO a b)) h := by
  cases a <;> cases b <;> simp [py_lesser, b_lesser, lesO]
  split <;> simp [*]
@[simp] theorem summed_w : W (py_summed [en a, en b] h) Q E = Q (en (addO a b)) h := by
  cases a <;> cases b <;> simp [py_summed, b_summed, addO]
@[simp] theorem is_at_most_w : W (py_is_at_most [en a, en b] h) Q E = Q (.bl (leO a b)) h := by
  cases a <;> cases b <;> simp [py_is_at_most, b_is_at_most, leO]
theorem reckoned_w : W (py_reckoned [en a, en b] h) Q E = Q (.ref h.length) (h ++ [.lst [en (lesO a b), en (addO a b), .bl (leO a b)]]) := by
  cases a <;> cases b <;> simp [py_reckoned, b_reckoned, lesO, addO, leO, dLst]
  rename_i i j
  split
  · rw [if_neg (by omega)]
  · split
    · rfl
    · rw [show i = j by omega]
end
theorem same_is : py_same = kSame := by
  funext n
  induction n with
  | zero => rfl
  | succ n ih =>
    show mDef 2 2 (b_same (py_same n)) = mDef 2 2 (kSameB (kSame n))
    rw [ih]
    rfl
theorem right_w {cs : List Int} {t : Int} {tl : HS} {a b : Option Int} {Q : PV → HS → Prop} {E : PX → HS → Prop} (q : ∀ g, Q (.bl true) (Sh cs t (tl ++ g))) : W (py_right [en a, en b] (Sh cs t tl)) Q E := by
  simp [py_right, b_right]
  refine for_w (fun i ρ h => ∃ z2 z3 z4 g, ρ = [some (en a), some (en b), z2, z3, z4] ∧ h = Sh cs t (tl ++ g)) ⟨none, none, none, [], rfl, by rw [List.append_nil]⟩ (fun i ρ h ⟨z2, z3, z4, g, _, e⟩ => by simp [e]) ?_ ?_
  · rintro i x ρ h ex ⟨z2, z3, z4, g, rfl, rfl⟩
    obtain ⟨l, r, rfl⟩ : ∃ l r, x = .tup [en l, en r] := by
      match i, ex with
      | 0, ex => exact ⟨a, b, by simpa using ex.symm⟩
      | 1, ex => exact ⟨b, a, by simpa using ex.symm⟩
    simp [reckoned_w, same_is]
    refine same_w 8 (d := .list [dn (lesO l r), dn (addO l r), .bool (leO l r)]) (.lst (by simp) ?_) (.lst (vs := [en (lesO l r), en (addO l r), .bl (leO l r)]) ?_ ?_) (.lst (vs := [en (lesO l r), en (addO l r), .bl (leO l r)]) ?_ ?_) fun g' => ?_
    · intro d hd
      simp at hd
      rcases hd with rfl | rfl | rfl
      · exact .dn _ _
      · exact .dn _ _
      · exact .bl _ _
    · simp [List.getElem?_append]
    · exact .cons (.en _) (.cons (.en _) (.cons (.bl _) .nil))
    · simp [List.getElem?_append]
    · exact .cons (.en _) (.cons (.en _) (.cons (.bl _) .nil))
    · simp
      exact ⟨_, rfl⟩
  · rintro ρ h ⟨z2, z3, z4, g, rfl, rfl⟩
    simp
    exact q g
theorem right_w' {cs : List Int} {t : Int} {tl : HS} {a b : PV} {Q : PV → HS → Prop} {E : PX → HS → Prop} (ha : En a) (hb : En b) (q : ∀ g, Q (.bl true) (Sh cs t (tl ++ g))) : W (py_right [a, b] (Sh cs t tl)) Q E := by
  obtain ⟨a, rfl⟩ := ha.get
  obtain ⟨b, rfl⟩ := hb.get
  exact right_w q
theorem begin_ok : Lt.BeginOk b_begin := kBegin_ok
theorem law_ok : Lt.LawOk 5 b_law := law_of fun cs Q h1 h2 q => by
  simp [b_law]
  refine for_w (fun i ρ h => ∃ z0 z2 z3 z4 z5 z6 cs' t' g, i ≤ 8 ∧ Gd (1000 - 100 * i) cs' t' ∧ ρ = [z0, some (.ref 1), z2, z3, z4, z5, z6] ∧ h = Sh cs' t' g) ⟨none, none, none, none, none, none, cs, 0, [], by omega, ⟨h1, h2, by omega, by decide⟩, rfl, rfl⟩ (fun _ _ _ _ => trivial) ?_ ?_
  · rintro i x ρ h ex ⟨z0, z2, z3, z4, z5, z6, cs1, t1, g, p0, g1, rfl, rfl⟩
    obtain ⟨hi, rfl⟩ := rngP_get ex
    simp [take_is]
    refine take_w g1 (by omega) (by omega) (by omega) fun cs2 t2 d2 g2 p1 p2 => ?_
    simp
    refine take_w g2 (by omega) (by omega) (by omega) fun cs3 t3 d3 g3 p3 p4 => ?_
    simp
    refine take_w g3 (by omega) (by omega) (by omega) fun cs4 t4 d4 g4 p5 p6 => ?_
    simp
    refine entry_w g4 (by omega) p3 p4 fun cs5 t5 o1 g' g5 b1 => ?_
    simp
    refine entry_w g5 (by omega) p5 p6 fun cs6 t6 o2 g'' g6 b2 => ?_
    cases o1 with
    | none => 
      simp
      refine right_w' .non (.en _) fun g => ?_
      simp
      refine right_w' .non .non fun g => ?_
      simp
      refine right_w' (.en _) (.int _) fun g => ?_
      simp
      exact ⟨by omega, _, _, _, _, _, _, _, _, g6.less (by omega), ⟨rfl, rfl, rfl, rfl, rfl, rfl⟩, _, rfl⟩
    | some i =>
      simp
      split
      · refine right_w' (.int _) (.int _) fun g => ?_
        simp
        refine right_w' (.int _) .non fun g => ?_
        simp
        refine right_w' (.int _) (.int _) fun g => ?_
        simp
        exact ⟨by omega, _, _, _, _, _, _, _, _, g6.less (by omega), ⟨rfl, rfl, rfl, rfl, rfl, rfl⟩, _, rfl⟩
      · refine right_w' (.int _) (.en _) fun g => ?_
        simp
        refine right_w' (.int _) .non fun g => ?_
        simp
        refine right_w' (.en _) (.int _) fun g => ?_
        simp
        exact ⟨by omega, _, _, _, _, _, _, _, _, g6.less (by omega), ⟨rfl, rfl, rfl, rfl, rfl, rfl⟩, _, rfl⟩
  · rintro ρ h ⟨z0, z2, z3, z4, z5, z6, cs1, t1, g, p0, g1, rfl, rfl⟩
    simp
    refine right_w' .non .non fun g => ?_
    simp
    refine right_w' (.int _) (.int _) fun g => ?_
    exact q _
end Lw
open PySem PySem.W PyProof.Rows
set_option maxRecDepth 100000 in
set_option maxHeartbeats 0 in
theorem PySem.Challenge.cw_leasttables_k01_entries_holds : PySem.Challenge.rw_leasttables_k01_entries.Holds := by
  w_on; o_law; k_head; (case hw => w_witness2)
  k_fill
  refine L2.walk_of (l := PySem.Challenge.rw_leasttables_k01_entries) (n := 63) (k := 11) (x := "_law_script") (CX := fun w => L2.CX PySem.Challenge.rw_leasttables_k01_entries.prog w) (sp := fun w => Lt.spLaw _) rfl (by decide) rfl ⟨rfl, by decide, by decide⟩ (fun w h Y => PySem.W.kIn_of Y) ?F (fun _ _ a ns hl _ hS => ⟨a, ns, rfl, hS, hl, fun _ => rfl⟩) (fun _ _ _ _ _ z => Lt.cx_false z)
  case F =>
    intro w mg fa h KX G hmg
    refine' Lw.all_mk KX G hmg Lw.begin_ok Lw.law_ok ?t_lesser ?t_summed ?t_is_at_most ?t_take ?t_same ?t_entry ?t_reckoned ?t_right ?t_begin ?t_law ?z_all ?z_bool ?z_divmod ?z_int ?z_isinstance ?z_len ?z_list ?z_range ?z_str ?z_tuple ?z_zip
    (case t_lesser => refine' Lt.Stands.mk' ?a ?l ?c ?k; (case a => k_is); (case l => k_is); (case c => k_is); (case k => k_is))
    (case t_summed => refine' Lt.Stands.mk' ?a ?l ?c ?k; (case a => k_is); (case l => k_is); (case c => k_is); (case k => k_is))
    (case t_is_at_most => refine' Lt.Stands.mk' ?a ?l ?c ?k; (case a => k_is); (case l => k_is); (case c => k_is); (case k => k_is))
    (case t_take => refine' Lt.Stands.mk' ?a ?l ?c ?k; (case a => k_is); (case l => k_is); (case c => k_is); (case k => k_is))
    (case t_same => refine' Lt.Stands.mk' ?a ?l ?c ?k; (case a => k_is); (case l => k_is); (case c => k_is); (case k => k_is))
    (case t_entry => refine' Lt.Stands.mk' ?a ?l ?c ?k; (case a => k_is); (case l => k_is); (case c => k_is); (case k => k_is))
    (case t_reckoned => refine' Lt.Stands.mk' ?a ?l ?c ?k; (case a => k_is); (case l => k_is); (case c => k_is); (case k => k_is))
    (case t_right => refine' Lt.Stands.mk' ?a ?l ?c ?k; (case a => k_is); (case l => k_is); (case c => k_is); (case k => k_is))
    (case t_begin => refine' Lt.Stands.mk' ?a ?l ?c ?k; (case a => k_is); (case l => k_is); (case c => k_is); (case k => k_is))
    (case t_law => refine' Lt.Stands.mk' ?a ?l ?c ?k; (case a => k_is); (case l => k_is); (case c => k_is); (case k => k_is))
    (case z_all => k_is)
    (case z_bool => k_is)
    (case z_divmod => k_is)
    (case z_int => k_is)
    (case z_isinstance => k_is)
    (case z_len => k_is)
    (case z_list => k_is)
    (case z_range => k_is)
    (case z_str => k_is)
    (case z_tuple => k_is)
    (case z_zip => k_is)
