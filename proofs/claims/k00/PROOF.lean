import PyProof.Rows.All
import HandS.ForMost
import HandS.More
import HandS.Wide
import HandS.WideBits
import HandS.IsInst
import HandS.Flow
import HandS.Rev
import HandS.Conv
import HandS.Evl
import HandS.Codes
import KE.BitLaws
import HandS.RevTup
import PyProof.ListRange
import PySem.Challenge.RW_fewreaders_k00_masks_of_numbers
set_option Elab.async false
set_option linter.all false
set_option maxRecDepth 100000
set_option maxHeartbeats 1000000
/-! Sat: what stands in the abstract heap, as a list of atoms: owned places, frozen data, a frame -/
namespace Sat
open PySem PySem.Spec PyProof.Rows L2
open Evl (Ex)

/-- deep data -/
inductive D where
  | v (x : V)
  | lst (ds : List D)
  | tup (ds : List D)
  | ob (C : Addr) (fs : List (Str × D))
abbrev dI (i : Int) : D := .v (.int i)
abbrev dB (b : Bool) : D := .v (.bl b)
abbrev dS (s : Str) : D := .v (.str s)
abbrev dN : D := .v .non
abbrev dIs (ns : List Int) : D := .lst (ns.map dI)

mutual
inductive Rp (F : Hp) : V → D → Prop
  | v (x : V) : Rp F x (.v x)
  | lst {a : Addr} {xs : List V} {ds : List D} : F a = some (.lst xs) → RpA F xs ds → Rp F (.ref a) (.lst ds)
  | tup {a : Addr} {xs : List V} {ds : List D} : F a = some (.tup xs) → RpA F xs ds → Rp F (.ref a) (.tup ds)
  | ob {a dx C : Addr} {fs : List (Str × V)} {gs : List (Str × D)} : F a = some (.ins C dx fs) → RpF F fs gs → Rp F (.ref a) (.ob C gs)
inductive RpA (F : Hp) : List V → List D → Prop
  | nil : RpA F [] []
  | cons {x : V} {xs : List V} {d : D} {ds : List D} : Rp F x d → RpA F xs ds → RpA F (x :: xs) (d :: ds)
inductive RpF (F : Hp) : List (Str × V) → List (Str × D) → Prop
  | nil : RpF F [] []
  | cons {n : Str} {x : V} {xs : List (Str × V)} {d : D} {ds : List (Str × D)} : Rp F x d → RpF F xs ds → RpF F ((n, x) :: xs) ((n, d) :: ds)
end
mutual
theorem Rp.mono {F G : Hp} (e : Ex F G) : ∀ {x : V} {d : D}, Rp F x d → Rp G x d
  | _, _, .v x => .v x
  | _, _, .lst h k => .lst (e _ _ h) (RpA.mono e k)
  | _, _, .tup h k => .tup (e _ _ h) (RpA.mono e k)
  | _, _, .ob h k => .ob (e _ _ h) (RpF.mono e k)
theorem RpA.mono {F G : Hp} (e : Ex F G) : ∀ {xs : List V} {ds : List D}, RpA F xs ds → RpA G xs ds
  | _, _, .nil => .nil
  | _, _, .cons h k => .cons (Rp.mono e h) (RpA.mono e k)
theorem RpF.mono {F G : Hp} (e : Ex F G) : ∀ {xs : List (Str × V)} {ds : List (Str × D)}, RpF F xs ds → RpF G xs ds
  | _, _, .nil => .nil
  | _, _, .cons h k => .cons (Rp.mono e h) (RpF.mono e k)
end
theorem Rp.flat {F : Hp} {x y : V} (h : Rp F x (.v y)) : x = y := by cases h; rfl
theorem RpA.len {F : Hp} : ∀ {xs : List V} {ds : List D}, RpA F xs ds → xs.length = ds.length
  | _, _, .nil => rfl
  | _, _, .cons _ k => by rw [List.length_cons, List.length_cons, RpA.len k]
theorem RpA.get {F : Hp} : ∀ {xs : List V} {ds : List D}, RpA F xs ds → ∀ {i : Nat} {d : D}, ds[i]? = some d → ∃ x, xs[i]? = some x ∧ Rp F x d
  | _, _, .nil, i, d, e => by simp at e
  | _, _, .cons h k, 0, d, e => by
    rw [List.getElem?_cons_zero] at e
    cases e
    exact ⟨_, rfl, h⟩
  | _, _, .cons h k, i + 1, d, e => by
    rw [List.getElem?_cons_succ] at e
    obtain ⟨x, e1, r⟩ := RpA.get k e
    exact ⟨x, by rw [List.getElem?_cons_succ]; exact e1, r⟩
theorem RpA.getV {F : Hp} {xs : List V} {ds : List D} (h : RpA F xs ds) {i : Nat} {x : V} (e : xs[i]? = some x) : ∃ d, ds[i]? = some d ∧ Rp F x d := by
  have l := h.len
  have hi : i < ds.length := by
    obtain ⟨q, _⟩ := List.getElem?_eq_some_iff.mp e
    omega
  obtain ⟨y, e1, r⟩ := h.get (List.getElem?_eq_getElem hi)
  rw [e] at e1
  cases e1
  exact ⟨_, List.getElem?_eq_getElem hi, r⟩
theorem RpA.append {F : Hp} : ∀ {xs ys : List V} {ds es : List D}, RpA F xs ds → RpA F ys es → RpA F (xs ++ ys) (ds ++ es)
  | _, _, _, _, .nil, k => k
  | _, _, _, _, .cons h k, l => .cons h (RpA.append k l)
theorem RpA.take {F : Hp} : ∀ {xs : List V} {ds : List D} (n : Nat), RpA F xs ds → RpA F (xs.take n) (ds.take n)
  | _, _, 0, _ => .nil
  | _, _, _ + 1, .nil => .nil
  | _, _, n + 1, .cons h k => .cons h (RpA.take n k)
theorem RpA.drop {F : Hp} : ∀ {xs : List V} {ds : List D} (n : Nat), RpA F xs ds → RpA F (xs.drop n) (ds.drop n)
  | _, _, 0, h => h
  | _, _, _ + 1, .nil => .nil
  | _, _, n + 1, .cons h k => RpA.drop n k
theorem RpA.set {F : Hp} {y : V} {e : D} (r : Rp F y e) : ∀ {xs : List V} {ds : List D} (n : Nat), RpA F xs ds → RpA F (xs.set n y) (ds.set n e)
  | _, _, _, .nil => .nil
  | _, _, 0, .cons h k => .cons r k
  | _, _, n + 1, .cons h k => .cons h (RpA.set r n k)
theorem RpA.reverse {F : Hp} : ∀ {xs : List V} {ds : List D}, RpA F xs ds → RpA F xs.reverse ds.reverse
  | _, _, .nil => .nil
  | _, _, .cons h k => by
    rw [List.reverse_cons, List.reverse_cons]
    exact (RpA.reverse k).append (.cons h .nil)
theorem RpA.flat {F : Hp} : ∀ {xs ys : List V}, RpA F xs (ys.map D.v) → xs = ys
  | _, [], h => by cases h; rfl
  | _, y :: ys, h => by
    cases h with
    | cons h k =>
      rw [h.flat, RpA.flat k]
theorem RpA.ints {F : Hp} {xs : List V} {ns : List Int} (h : RpA F xs (ns.map dI)) : xs = ns.map V.int := by
  refine RpA.flat (F := F) ?_
  rw [List.map_map]
  exact h
theorem RpA.ofV {F : Hp} : ∀ (ys : List V), RpA F ys (ys.map D.v)
  | [] => .nil
  | y :: ys => .cons (.v y) (RpA.ofV ys)
theorem RpA.ofI {F : Hp} (ns : List Int) : RpA F (ns.map V.int) (ns.map dI) := by
  have h := RpA.ofV (F := F) (ns.map V.int)
  rw [List.map_map] at h
  exact h
theorem RpF.look {F : Hp} : ∀ {fs : List (Str × V)} {gs : List (Str × D)}, RpF F fs gs → ∀ {n : Str} {d : D}, gs.lookup n = some d → ∃ x, fs.lookup n = some x ∧ Rp F x d
  | _, _, .nil, n, d, e => by simp at e
  | _, _, .cons (n := m) h k, n, d, e => by
    rw [List.lookup_cons] at e ⊢
    cases q : (n == m) with
    | true =>
      rw [q] at e
      cases e
      exact ⟨_, rfl, h⟩
    | false =>
      rw [q] at e
      exact RpF.look k e
theorem RpF.lookN {F : Hp} : ∀ {fs : List (Str × V)} {gs : List (Str × D)}, RpF F fs gs → ∀ {n : Str}, gs.lookup n = none → fs.lookup n = none
  | _, _, .nil, n, _ => rfl
  | _, _, .cons (n := m) h k, n, e => by
    rw [List.lookup_cons] at e ⊢
    cases q : (n == m) with
    | true =>
      rw [q] at e
      cases e
    | false =>
      rw [q] at e
      exact RpF.lookN k e

/-- an atom -/
inductive A where
  | own (a : Addr) (φ : Hp → HO → Prop) (mono : ∀ F G o, Ex F G → φ F o → φ G o)
  | rp (v : V) (d : D)
  | fr (G : Hp)
abbrev A.tt : A := .fr fun _ => none
abbrev pt (a : Addr) (o : HO) : A := .own a (fun _ u => u = o) fun _ _ _ _ h => h
abbrev ol (a : Addr) (ds : List D) : A := .own a (fun F u => ∃ xs, u = .lst xs ∧ RpA F xs ds) fun _ _ _ e ⟨xs, h, k⟩ => ⟨xs, h, k.mono e⟩
/-- an owned instance with frozen attributes -/
abbrev oi (a C : Addr) (gs : List (Str × D)) : A := .own a (fun F u => ∃ dx fs, u = .ins C dx fs ∧ RpF F fs gs) fun _ _ _ e ⟨dx, fs, h, k⟩ => ⟨dx, fs, h, k.mono e⟩
def A.ok (F H : Hp) : A → Prop
  | .own a φ _ => F a = none ∧ ∃ o, H a = some o ∧ φ F o
  | .rp v d => Rp F v d
  | .fr G => Ex G F
def A.ad : A → Option Addr
  | .own a _ _ => some a
  | _ => none
structure satF (As : List A) (H F : Hp) : Prop where
  ex : Ex F H
  ok : ∀ x ∈ As, x.ok F H
  inj : ∀ (i j : Nat) (x y : A) (a : Addr), As[i]? = some x → As[j]? = some y → x.ad = some a → y.ad = some a → i = j
def sat (As : List A) (H : Hp) : Prop := ∃ F, satF As H F

section
variable {As : List A} {H : Hp}

/-! ### choosing atoms -/
def pick (idx : List Nat) (n : Nat) (As : List A) : List A := idx.map (fun i => As.getD i A.tt) ++ As.drop n
theorem sat.pick (h : sat As H) (idx : List Nat) (n : Nat) (nd : (idx.Nodup ∧ ∀ i ∈ idx, i < n) := by decide) : sat (Sat.pick idx n As) H := by
  obtain ⟨F, h⟩ := h
  refine ⟨F, h.ex, fun x hx => ?_, fun i j x y a e1 e2 a1 a2 => ?_⟩
  · rcases List.mem_append.mp hx with q | q
    · obtain ⟨i, hi, rfl⟩ := List.mem_map.mp q
      rw [List.getD_eq_getElem?_getD]
      cases e : As[i]? with
      | none => exact fun _ _ z => nomatch z
      | some y => exact h.ok y (List.mem_of_getElem? e)
    · exact h.ok x (List.mem_of_mem_drop q)
  · have key : ∀ (i : Nat) (x : A), (Sat.pick idx n As)[i]? = some x → x.ad = some a → (i < idx.length ∧ ∃ k, idx[i]? = some k ∧ As[k]? = some x ∧ k < n) ∨ (idx.length ≤ i ∧ As[n + (i - idx.length)]? = some x) := fun i x e ha => by
      unfold Sat.pick at e
      by_cases hi : i < idx.length
      · rw [List.getElem?_append_left (by simpa using hi), List.getElem?_map, List.getElem?_eq_getElem hi] at e
        have e' : As.getD idx[i] A.tt = x := Option.some.inj e
        rw [List.getD_eq_getElem?_getD] at e'
        cases q : As[idx[i]]? with
        | none =>
          rw [q] at e'
          subst e'
          cases ha
        | some y =>
          rw [q] at e'
          have e'' : y = x := e'
          exact .inl ⟨hi, idx[i], List.getElem?_eq_getElem hi, by rw [q, e''], nd.2 _ (List.getElem_mem hi)⟩
      · rw [List.getElem?_append_right (by simpa using hi), List.getElem?_drop, List.length_map] at e
        exact .inr ⟨by omega, e⟩
    rcases key i x e1 a1 with ⟨hi, k, p1, p2, p3⟩ | ⟨hi, p⟩
    · rcases key j y e2 a2 with ⟨hj, l, q1, q2, q3⟩ | ⟨hj, q⟩
      · have e := h.inj k l x y a p2 q2 a1 a2
        subst e
        exact nd_ix nd.1 p1 q1
      · have e := h.inj _ _ x y a p2 q a1 a2
        omega
    · rcases key j y e2 a2 with ⟨hj, l, q1, q2, q3⟩ | ⟨hj, q⟩
      · have e := h.inj _ _ x y a p q2 a1 a2
        omega
      · have e := h.inj _ _ x y a p q a1 a2
        omega
/-- the tail only -/
theorem sat.drop (h : sat As H) (n : Nat) : sat (As.drop n) H := h.pick [] n ⟨List.nodup_nil, fun _ z => nomatch z⟩

/-! ### what the persistent atoms give -/
def Ent (As : List A) (H : Hp) (x : V) (d : D) : Prop := ∀ F, satF As H F → Rp F x d
def EntA (As : List A) (H : Hp) (xs : List V) (ds : List D) : Prop := ∀ F, satF As H F → RpA F xs ds
theorem Ent.at {x : V} {d : D} (i : Nat) (e : As[i]? = some (.rp x d) := by rfl) : Ent As H x d := fun F h => h.ok _ (List.mem_of_getElem? e)
theorem Ent.v {x : V} : Ent As H x (.v x) := fun _ _ => .v x
theorem EntA.nil : EntA As H [] [] := fun _ _ => .nil
theorem EntA.cons {x : V} {xs : List V} {d : D} {ds : List D} (h : Ent As H x d) (k : EntA As H xs ds) : EntA As H (x :: xs) (d :: ds) := fun F q => .cons (h F q) (k F q)
theorem EntA.append {xs ys : List V} {ds es : List D} (h : EntA As H xs ds) (k : EntA As H ys es) : EntA As H (xs ++ ys) (ds ++ es) := fun F q => (h F q).append (k F q)
theorem EntA.take {xs : List V} {ds : List D} (n : Nat) (h : EntA As H xs ds) : EntA As H (xs.take n) (ds.take n) := fun F q => (h F q).take n
theorem EntA.drop {xs : List V} {ds : List D} (n : Nat) (h : EntA As H xs ds) : EntA As H (xs.drop n) (ds.drop n) := fun F q => (h F q).drop n
theorem EntA.set {xs : List V} {ds : List D} {x : V} {d : D} (e : Ent As H x d) (n : Nat) (h : EntA As H xs ds) : EntA As H (xs.set n x) (ds.set n d) := fun F q => (h F q).set (e F q) n
theorem EntA.reverse {xs : List V} {ds : List D} (h : EntA As H xs ds) : EntA As H xs.reverse ds.reverse := fun F q => (h F q).reverse
theorem EntA.len {xs : List V} {ds : List D} (s : sat As H) (h : EntA As H xs ds) : xs.length = ds.length := by
  obtain ⟨F, q⟩ := s
  exact (h F q).len
theorem EntA.get {xs : List V} {ds : List D} (h : EntA As H xs ds) {i : Nat} {x : V} {d : D} (ex : xs[i]? = some x) (ed : ds[i]? = some d) : Ent As H x d := fun F q => by
  obtain ⟨y, e, r⟩ := (h F q).get ed
  rw [ex] at e
  cases e
  exact r
theorem EntA.ofI (ns : List Int) : EntA As H (ns.map V.int) (ns.map dI) := fun _ _ => .ofI ns
theorem EntA.ofV (ns : List V) : EntA As H ns (ns.map D.v) := fun _ _ => .ofV ns
theorem Ent.cast {x : V} {d e : D} (h : Ent As H x d) (q : d = e) : Ent As H x e := by rw [← q]; exact h
theorem EntA.cast {xs : List V} {ds es : List D} (h : EntA As H xs ds) (q : ds = es) : EntA As H xs es := by rw [← q]; exact h
theorem sat.rp (h : sat As H) {x : V} {d : D} (e : Ent As H x d) : sat (.rp x d :: As) H := by
  obtain ⟨F, h⟩ := h
  refine ⟨F, h.ex, fun y hy => ?_, fun i j y z a e1 e2 a1 a2 => ?_⟩
  · rcases List.mem_cons.mp hy with q | q
    · rw [q]
      exact e F h
    · exact h.ok y q
  · cases i with
    | zero =>
      rw [List.getElem?_cons_zero] at e1
      cases e1
      cases a1
    | succ i =>
      cases j with
      | zero =>
        rw [List.getElem?_cons_zero] at e2
        cases e2
        cases a2
      | succ j =>
        rw [List.getElem?_cons_succ] at e1 e2
        rw [h.inj i j y z a e1 e2 a1 a2]
/-- any fact of the frozen part -/
theorem sat.add (h : sat As H) {B : A} (hb : B.ad = none) (e : ∀ F, satF As H F → B.ok F H) : sat (B :: As) H := by
  obtain ⟨F, h⟩ := h
  refine ⟨F, h.ex, fun y hy => ?_, fun i j y z a e1 e2 a1 a2 => ?_⟩
  · rcases List.mem_cons.mp hy with q | q
    · rw [q]
      exact e F h
    · exact h.ok y q
  · cases i with
    | zero =>
      rw [List.getElem?_cons_zero] at e1
      cases e1
      rw [hb] at a1
      cases a1
    | succ i =>
      cases j with
      | zero =>
        rw [List.getElem?_cons_zero] at e2
        cases e2
        rw [hb] at a2
        cases a2
      | succ j =>
        rw [List.getElem?_cons_succ] at e1 e2
        rw [h.inj i j y z a e1 e2 a1 a2]
theorem sat.of (h : sat As H) {x : V} {d : D} (e : Ent As H x d) : Rp H x d := by
  obtain ⟨F, h⟩ := h
  exact (e F h).mono h.ex
theorem sat.flat (h : sat As H) {x y : V} (e : Ent As H x (.v y)) : x = y := (h.of e).flat
theorem sat.own (h : sat As H) (i : Nat) {a : Addr} {φ : Hp → HO → Prop} {m} (e : As[i]? = some (.own a φ m) := by rfl) : ∃ o F, H a = some o ∧ φ F o ∧ Ex F H := by
  obtain ⟨F, h⟩ := h
  obtain ⟨_, o, h1, h2⟩ := h.ok _ (List.mem_of_getElem? e)
  exact ⟨o, F, h1, h2, h.ex⟩
/-- an owned thing's frozen parts become atoms -/
theorem sat.open (h : sat As H) (i : Nat) {a : Addr} {φ : Hp → HO → Prop} {m} (e : As[i]? = some (.own a φ m) := by rfl) : ∃ o, H a = some o ∧ ∀ {x : V} {d : D}, (∀ F, φ F o → Rp F x d) → sat (.rp x d :: As) H := by
  obtain ⟨F, h⟩ := h
  obtain ⟨n, o, h1, h2⟩ := h.ok _ (List.mem_of_getElem? e)
  refine ⟨o, h1, fun {x d} k => ⟨F, h.ex, fun y hy => ?_, fun i j y z a e1 e2 a1 a2 => ?_⟩⟩
  · rcases List.mem_cons.mp hy with q | q
    · rw [q]
      exact k F h2
    · exact h.ok y q
  · cases i with
    | zero =>
      rw [List.getElem?_cons_zero] at e1
      cases e1
      cases a1
    | succ i =>
      cases j with
      | zero =>
        rw [List.getElem?_cons_zero] at e2
        cases e2
        cases a2
      | succ j =>
        rw [List.getElem?_cons_succ] at e1 e2
        rw [h.inj i j y z a e1 e2 a1 a2]

/-! ### new things, changes, freezing -/
theorem A.ok_mono {F G H : Hp} {x : A} (e : Ex F G) (n : ∀ a, x.ad = some a → G a = none) (h : x.ok F H) : x.ok G H := by
  cases x with
  | own a φ m =>
    obtain ⟨_, o, h1, h2⟩ := h
    exact ⟨n a rfl, o, h1, m F G o e h2⟩
  | rp v d => exact Rp.mono e h
  | fr K => exact Ex.trans h e
theorem A.ok_upd {F H : Hp} {x : A} {p : Addr} {o : HO} (n : x.ad ≠ some p) (h : x.ok F H) : x.ok F (upd H p o) := by
  cases x with
  | own a φ m =>
    obtain ⟨h0, u, h1, h2⟩ := h
    refine ⟨h0, u, ?_, h2⟩
    rw [upd_ne (fun z => n (by rw [← z]; rfl))]
    exact h1
  | rp v d => exact h
  | fr K => exact h
theorem satF.fresh {F : Hp} (h : satF As H F) {p : Addr} (hp : H p = none) {x : A} (hx : x ∈ As) : x.ad ≠ some p := fun z => by
  cases x with
  | own a φ m =>
    have e : a = p := Option.some.inj z
    obtain ⟨_, o, h1, _⟩ := h.ok _ hx
    rw [e, hp] at h1
    cases h1
  | rp v d => cases z
  | fr K => cases z
theorem sat.newO (h : sat As H) {p : Addr} {o : HO} (hp : H p = none) {φ : Hp → HO → Prop} {m} (hφ : ∀ F, satF As H F → φ F o) : sat (.own p φ m :: As) (upd H p o) := by
  obtain ⟨F, h⟩ := h
  have fp : F p = none := Evl.fresh_back h.ex hp
  refine ⟨F, h.ex.trans (Ex.new hp), fun x hx => ?_, fun i j x y a e1 e2 a1 a2 => ?_⟩
  · rcases List.mem_cons.mp hx with q | q
    · rw [q]
      exact ⟨fp, o, upd_same, hφ F h⟩
    · exact A.ok_upd (h.fresh hp q) (h.ok x q)
  · cases i with
    | zero =>
      rw [List.getElem?_cons_zero] at e1
      cases e1
      cases a1
      cases j with
      | zero => rfl
      | succ j =>
        rw [List.getElem?_cons_succ] at e2
        exact absurd a2 (h.fresh hp (List.mem_of_getElem? e2))
    | succ i =>
      rw [List.getElem?_cons_succ] at e1
      cases j with
      | zero =>
        rw [List.getElem?_cons_zero] at e2
        cases e2
        cases a2
        exact absurd a1 (h.fresh hp (List.mem_of_getElem? e1))
      | succ j =>
        rw [List.getElem?_cons_succ] at e2
        rw [h.inj i j x y a e1 e2 a1 a2]
theorem sat.newP (h : sat As H) {p : Addr} {o : HO} (hp : H p = none) : sat (pt p o :: As) (upd H p o) := h.newO hp fun _ _ => rfl
theorem sat.newL (h : sat As H) {p : Addr} {xs : List V} {ds : List D} (hp : H p = none) (e : EntA As H xs ds) : sat (ol p ds :: As) (upd H p (.lst xs)) := h.newO hp fun F q => ⟨xs, rfl, e F q⟩
/-- a new thing that nobody asks -/
theorem sat.newX (h : sat As H) {p : Addr} {o : HO} (hp : H p = none) : sat As (upd H p o) := (h.newP (o := o) hp).drop 1
/-- an owned thing is frozen -/
theorem sat.freeze (h : sat As H) (i : Nat) {a : Addr} {φ : Hp → HO → Prop} {m} (e : As[i]? = some (.own a φ m)) {x : V} {d : D} (k : ∀ F o, F a = some o → ∀ F0, Ex F0 F → φ F0 o → Rp F x d) : sat (As.set i (.rp x d)) H := by
  obtain ⟨F, h⟩ := h
  obtain ⟨n, o, h1, h2⟩ := h.ok _ (List.mem_of_getElem? e)
  have hi : i < As.length := (List.getElem?_eq_some_iff.mp e).1
  have e2 : ∀ (j : Nat) (y : A), (As.set i (.rp x d))[j]? = some y → (j = i ∧ y = .rp x d) ∨ (j ≠ i ∧ As[j]? = some y) := fun j y q => by
    by_cases hj : j = i
    · subst hj
      rw [List.getElem?_set_self hi] at q
      exact .inl ⟨rfl, (Option.some.inj q).symm⟩
    · rw [List.getElem?_set_ne (fun z => hj z.symm)] at q
      exact .inr ⟨hj, q⟩
  refine ⟨upd F a o, fun b u q => ?_, fun y hy => ?_, fun j l y z b p1 p2 a1 a2 => ?_⟩
  · by_cases hb : b = a
    · subst hb
      rw [upd_same] at q
      cases q
      exact h1
    · rw [upd_ne hb] at q
      exact h.ex b u q
  · obtain ⟨j, q⟩ := List.getElem?_of_mem hy
    rcases e2 j y q with ⟨_, r⟩ | ⟨hj, r⟩
    · rw [r]
      exact k _ o upd_same F (Ex.new n) h2
    · refine A.ok_mono (Ex.new n) (fun b hb => ?_) (h.ok y (List.mem_of_getElem? r))
      have ne : b ≠ a := fun z => hj (h.inj j i y _ b r e hb (by rw [z]; rfl))
      rw [upd_ne ne]
      cases y with
      | own c ψ m' =>
        cases hb
        exact (h.ok _ (List.mem_of_getElem? r)).1
      | rp _ _ => cases hb
      | fr _ => cases hb
  · rcases e2 j y p1 with ⟨_, r⟩ | ⟨_, r⟩
    · rw [r] at a1
      cases a1
    · rcases e2 l z p2 with ⟨_, r'⟩ | ⟨_, r'⟩
      · rw [r'] at a2
        cases a2
      · exact h.inj j l y z b r r' a1 a2
theorem sat.frz (h : sat As H) (i : Nat) {a : Addr} {ds : List D} (e : As[i]? = some (ol a ds) := by rfl) : sat (As.set i (.rp (.ref a) (.lst ds))) H := h.freeze i e fun F o p F0 q ⟨xs, r, t⟩ => by
  subst r
  exact .lst p (t.mono q)
theorem sat.frzI (h : sat As H) (i : Nat) {a C : Addr} {gs : List (Str × D)} (e : As[i]? = some (oi a C gs) := by rfl) : sat (As.set i (.rp (.ref a) (.ob C gs))) H := h.freeze i e fun F o p F0 q ⟨dx, fs, r, t⟩ => by
  subst r
  exact .ob p (t.mono q)
theorem sat.newLf (h : sat As H) {p : Addr} {xs : List V} {ds : List D} (hp : H p = none) (e : EntA As H xs ds) : sat (.rp (.ref p) (.lst ds) :: As) (upd H p (.lst xs)) := (h.newL hp e).frz 0
theorem sat.newT (h : sat As H) {p : Addr} {xs : List V} {ds : List D} (hp : H p = none) (e : EntA As H xs ds) : sat (.rp (.ref p) (.tup ds) :: As) (upd H p (.tup xs)) :=
  (h.newO (φ := fun F u => ∃ xs, u = .tup xs ∧ RpA F xs ds) (m := fun _ _ _ e ⟨xs, h, k⟩ => ⟨xs, h, k.mono e⟩) hp fun F q => ⟨xs, rfl, e F q⟩).freeze 0 rfl fun F o p F0 q ⟨xs, r, t⟩ => by
    subst r
    exact .tup p (t.mono q)
/-- an owned thing changes -/
theorem sat.updO (h : sat As H) (i : Nat) {a : Addr} {φ ψ : Hp → HO → Prop} {m m'} (e : As[i]? = some (.own a φ m)) {o' : HO} (k : ∀ F, satF As H F → ψ F o') : sat (As.set i (.own a ψ m')) (upd H a o') := by
  obtain ⟨F, h⟩ := h
  obtain ⟨n, o, h1, h2⟩ := h.ok _ (List.mem_of_getElem? e)
  have hi : i < As.length := (List.getElem?_eq_some_iff.mp e).1
  have e2 : ∀ (j : Nat) (y : A), (As.set i (.own a ψ m'))[j]? = some y → (j = i ∧ y = .own a ψ m') ∨ (j ≠ i ∧ As[j]? = some y) := fun j y q => by
    by_cases hj : j = i
    · subst hj
      rw [List.getElem?_set_self hi] at q
      exact .inl ⟨rfl, (Option.some.inj q).symm⟩
    · rw [List.getElem?_set_ne (fun z => hj z.symm)] at q
      exact .inr ⟨hj, q⟩
  refine ⟨F, fun b u q => ?_, fun y hy => ?_, fun j l y z b p1 p2 a1 a2 => ?_⟩
  · have ne : b ≠ a := fun z => by rw [z, n] at q; cases q
    rw [upd_ne ne]
    exact h.ex b u q
  · obtain ⟨j, q⟩ := List.getElem?_of_mem hy
    rcases e2 j y q with ⟨_, r⟩ | ⟨hj, r⟩
    · rw [r]
      exact ⟨n, o', upd_same, k F h⟩
    · exact A.ok_upd (fun z => hj (h.inj j i y _ a r e z rfl)) (h.ok y (List.mem_of_getElem? r))
  · have to : ∀ (j : Nat) (y : A), (As.set i (.own a ψ m'))[j]? = some y → y.ad = some b → ∃ y', As[j]? = some y' ∧ y'.ad = some b := fun j y q hb => by
      rcases e2 j y q with ⟨hj, r⟩ | ⟨_, r⟩
      · rw [r] at hb
        cases hb
        exact ⟨_, by rw [hj]; exact e, rfl⟩
      · exact ⟨y, r, hb⟩
    obtain ⟨y', r1, b1⟩ := to j y p1 a1
    obtain ⟨z', r2, b2⟩ := to l z p2 a2
    exact h.inj j l y' z' b r1 r2 b1 b2
theorem sat.updP (h : sat As H) (i : Nat) {a : Addr} {o o' : HO} (e : As[i]? = some (pt a o) := by rfl) : sat (As.set i (pt a o')) (upd H a o') := h.updO i e fun _ _ => rfl
theorem sat.updL (h : sat As H) (i : Nat) {a : Addr} {ds ds' : List D} {xs' : List V} (e : As[i]? = some (ol a ds)) (k : EntA As H xs' ds') : sat (As.set i (ol a ds')) (upd H a (.lst xs')) := h.updO i e fun F q => ⟨xs', rfl, k F q⟩
/-- all that is tracked stays: the whole -/
theorem sat.grow (h : sat As H) {H' : Hp} (e : Ex H H') : sat As H' := by
  obtain ⟨F, h⟩ := h
  refine ⟨F, h.ex.trans e, fun x hx => ?_, h.inj⟩
  have q := h.ok x hx
  cases x with
  | own a φ m =>
    obtain ⟨n, o, h1, h2⟩ := q
    exact ⟨n, o, e _ _ h1, h2⟩
  | rp v d => exact q
  | fr K => exact q
/-- an owned list's view -/
theorem sat.olv (h : sat As H) (i : Nat) {a : Addr} {ds : List D} (e : As[i]? = some (ol a ds) := by rfl) : ∃ xs, H a = some (.lst xs) ∧ xs.length = ds.length ∧ EntA As H xs ds := by
  obtain ⟨F, h⟩ := h
  obtain ⟨n, o, h1, xs, rfl, h2⟩ := h.ok _ (List.mem_of_getElem? e)
  refine ⟨xs, h1, h2.len, fun G g => ?_⟩
  obtain ⟨_, o, k1, ys, rfl, k2⟩ := g.ok _ (List.mem_of_getElem? e)
  rw [h1] at k1
  cases k1
  exact k2
/-- a frozen list's, tuple's view -/
theorem sat.rlv (h : sat As H) {a : Addr} {ds : List D} (e : Ent As H (.ref a) (.lst ds)) : ∃ xs, H a = some (.lst xs) ∧ xs.length = ds.length ∧ EntA As H xs ds := by
  obtain ⟨F, h⟩ := h
  cases e F h with
  | @lst _ xs _ f1 f2 =>
    refine ⟨xs, h.ex _ _ f1, f2.len, fun G g => ?_⟩
    cases e G g with
    | lst g1 g2 =>
      have e1 := g.ex _ _ g1
      rw [h.ex _ _ f1] at e1
      cases e1
      exact g2
theorem sat.rtv (h : sat As H) {a : Addr} {ds : List D} (e : Ent As H (.ref a) (.tup ds)) : ∃ xs, H a = some (.tup xs) ∧ xs.length = ds.length ∧ EntA As H xs ds := by
  obtain ⟨F, h⟩ := h
  cases e F h with
  | @tup _ xs _ f1 f2 =>
    refine ⟨xs, h.ex _ _ f1, f2.len, fun G g => ?_⟩
    cases e G g with
    | tup g1 g2 =>
      have e1 := g.ex _ _ g1
      rw [h.ex _ _ f1] at e1
      cases e1
      exact g2
/-- a frozen instance's view -/
theorem sat.riv (h : sat As H) {a C : Addr} {gs : List (Str × D)} (e : Ent As H (.ref a) (.ob C gs)) : ∃ dx fs, H a = some (.ins C dx fs) ∧ ∀ {n : Str} {d : D}, gs.lookup n = some d → ∃ x, fs.lookup n = some x ∧ Ent As H x d := by
  obtain ⟨F, h⟩ := h
  cases e F h with
  | @ob _ dx _ fs _ f1 f2 =>
    refine ⟨dx, fs, h.ex _ _ f1, fun {n d} q => ?_⟩
    obtain ⟨x, e1, r⟩ := f2.look q
    refine ⟨x, e1, fun G g => ?_⟩
    cases e G g with
    | ob g1 g2 =>
      have e2 := g.ex _ _ g1
      rw [h.ex _ _ f1] at e2
      cases e2
      obtain ⟨y, e3, r'⟩ := g2.look q
      rw [e1] at e3
      cases e3
      exact r'
end
end Sat

set_option Elab.async false
set_option linter.all false
set_option maxRecDepth 100000
set_option maxHeartbeats 1000000
/-! SatR: readings in steps over Sat -/
namespace Sat
open PySem PySem.Spec PyProof.Rows L2
open Evl (Ex)

/-! ### readings by name (no bare lambda: what follows must stand as it is) -/
def rIsN : R2 := fun x y H Q => y = .non ∧ Q (.bl (decide (x = .non))) H
def rNotN : R2 := fun x y H Q => y = .non ∧ Q (.bl (!decide (x = .non))) H
def rInt1 : List V → Hp → VK → Prop := fun xs H Q => (∃ i, xs = [.int i] ∧ Q (.int i) H) ∨ ∃ k, xs = [.bl k] ∧ Q (.int (if k then 1 else 0)) H
def rAbs : List V → Hp → VK → Prop := fun xs H Q => ∃ i, xs = [.int i] ∧ Q (.int (if i < 0 then -i else i)) H
def rMax2 : List V → Hp → VK → Prop := fun xs H Q => ∃ i j, xs = [.int i, .int j] ∧ Q (.int (if j > i then j else i)) H
def rMin2 : List V → Hp → VK → Prop := fun xs H Q => ∃ i j, xs = [.int i, .int j] ∧ Q (.int (if j < i then j else i)) H
def rLn (K : PySem.W.Frag) : List V → Hp → VK → Prop := fun xs H Q => ∃ p ys, xs = [.ref p] ∧ (SqL K H p ys ∨ SqT K H p ys) ∧ Q (.int ys.length) H
def rLO (K : PySem.W.Frag) : List V → Hp → VK → Prop := fun xs H Q => ∃ p ys, xs = [.ref p] ∧ (SqL K H p ys ∨ SqT K H p ys) ∧ ∀ l, H l = none → Q (.ref l) (upd H l (.lst ys))
def rIns : V → List V → Hp → VK → Prop := fun x vs H Q => ∃ (l : Addr) (xs : List V) (i : Int) (y : V), x = .ref l ∧ vs = [.int i, y] ∧ H l = some (.lst xs) ∧ xs.length < sizeLine ∧ 0 ≤ i ∧ i < 2 ^ 63 ∧ Q .non (upd H l (.lst (xs.take i.toNat ++ [y] ++ xs.drop i.toNat)))
def rLenS : List V → Hp → VK → Prop := fun xs H Q => ∃ z, xs = [.str z] ∧ z.length ≤ sizeLine ∧ Q (.int z.length) H
def tTru (K : PySem.W.Frag) (ta : TE) : TT := fun σ H Q => ta σ H fun x H' => ∃ k, TruV K x H' k ∧ Q k H'
section
variable {X : Cx}
theorem op_isN' : OpR X (compareOp .Is) rIsN := op_isN
theorem op_notN' : OpR X (compareOp .IsNot) rNotN := op_notN
theorem call_int1' : CallR X (.type "int") rInt1 := call_int1
theorem call_abs' : CallR X (.builtin "abs") rAbs := call_abs
theorem call_max2' (hc : X.calm = true) : CallR X (.builtin "max") rMax2 := call_max2 hc
theorem call_min2' (hc : X.calm = true) : CallR X (.builtin "min") rMin2 := call_min2 hc
theorem call_len' : CallR X (.builtin "len") (rLn X.K) := call_len_seq
theorem call_lenS' : CallR X (.builtin "len") rLenS := call_len_str
theorem call_list' : CallR X (.type "list") (rLO X.K) := call_list_of
theorem mt_insert' : MtR X "list.insert" rIns := mt_insert
theorem pt_tru' {a : Expr} {ta : TE} (ha : PE X a ta) (he : ∀ whole, isTrue a X.env whole = (do let v ← whole; standAt a.pos; holding [v] (truthy v)) := by intro _; rfl) : PT X a (tTru X.K ta) := pt_truth ha he
end
/-! ### pure readings -/
def E1 (t : TE) (σ : L2.St) (H : Hp) (v : V) : Prop := ∀ Q : VK, Q v H → t σ H Q
def A1 (t : TA) (σ : L2.St) (H : Hp) (vs : List V) : Prop := ∀ Q : List V → Hp → Prop, Q vs H → t σ H Q
def T1 (t : TT) (σ : L2.St) (H : Hp) (P : Prop) : Prop := ∀ Q : Bool → Hp → Prop, (P → Q true H) → (¬ P → Q false H) → t σ H Q
def O1 (t : TO) (σ : L2.St) (H : Hp) (o : Option Int) : Prop := ∀ Q : Option Int → Hp → Prop, Q o H → t σ H Q
def R1 (r : R2) (x y : V) (H : Hp) (z : V) : Prop := ∀ Q : VK, Q z H → r x y H Q
def U1 (r : V → Hp → VK → Prop) (x : V) (H : Hp) (z : V) : Prop := ∀ Q : VK, Q z H → r x H Q
def C1 (r : List V → Hp → VK → Prop) (vs : List V) (H : Hp) (z : V) : Prop := ∀ Q : VK, Q z H → r vs H Q
section
variable {K : PySem.W.Frag} {As : List A} {σ : L2.St} {H : Hp} {ta tb te tc : TE} {t u : TT} {x y z v : V} {r : R2} {i j : Int} {a b : Bool} {P P' : Prop}
theorem e_var {i : Nat} (h : σ[i]? = some (some v)) : E1 (tVar i) σ H v := fun _ q => ⟨v, h, q⟩
theorem e_c : E1 (tC v) σ H v := fun _ q => q
theorem e_op (ha : E1 ta σ H x) (hb : E1 tb σ H y) (hr : R1 r x y H z) : E1 (tOp r ta tb) σ H z := fun Q q => ha _ (hb _ (hr Q q))
theorem e_un {r : V → Hp → VK → Prop} (ha : E1 ta σ H x) (hr : U1 r x H z) : E1 (tUn r ta) σ H z := fun Q q => ha _ (hr Q q)
theorem r_I0 {g : Int → Int → V} : R1 (rI0 g) (.int i) (.int j) H (g i j) := fun _ q => ⟨i, j, rfl, rfl, q⟩
theorem r_I {C : Int → Int → Prop} {g : Int → Int → V} (hc : C i j) : R1 (rI C g) (.int i) (.int j) H (g i j) := fun _ q => ⟨i, j, rfl, rfl, hc, q⟩
theorem u_I {g : Int → V} : U1 (rU g) (.int i) H (g i) := fun _ q => ⟨i, rfl, q⟩
theorem r_eqI : R1 rEq (.int i) (.int j) H (.bl (decide (i = j))) := fun Q q => ⟨rfl, by rw [show decide (V.int i = V.int j) = decide (i = j) by simp]; exact q⟩
theorem r_neI : R1 rNe (.int i) (.int j) H (.bl (!decide (i = j))) := fun Q q => ⟨rfl, by rw [show decide (V.int i = V.int j) = decide (i = j) by simp]; exact q⟩
theorem r_eq (h : scal x y = true) : R1 rEq x y H (.bl (decide (x = y))) := fun Q q => ⟨h, q⟩
theorem r_ne (h : scal x y = true) : R1 rNe x y H (.bl (!decide (x = y))) := fun Q q => ⟨h, q⟩
theorem r_isN : R1 rIsN x .non H (.bl (decide (x = .non))) := fun Q q => ⟨rfl, q⟩
theorem r_notN : R1 rNotN x .non H (.bl (!decide (x = .non))) := fun Q q => ⟨rfl, q⟩
theorem e_nil : A1 tNil σ H [] := fun _ q => q
theorem e_cons {tr : TA} {vs : List V} (h : E1 ta σ H x) (k : A1 tr σ H vs) : A1 (tCons ta tr) σ H (x :: vs) := fun _ q => h _ (k _ q)
theorem e_cb {r : List V → Hp → VK → Prop} {tr : TA} {vs : List V} (h : A1 tr σ H vs) (hr : C1 r vs H z) : E1 (tCB r tr) σ H z := fun Q q => h _ (hr Q q)
theorem e_andV (h : E1 ta σ H (.bl a)) (k : a = true → E1 tb σ H (.bl b)) : E1 (tAndV ta tb) σ H (.bl (a && b)) := fun Q q => h _ ⟨a, rfl, by
  cases a with
  | true => rw [if_pos rfl]; exact k rfl Q q
  | false => rw [if_neg Bool.false_ne_true]; exact q⟩
theorem e_orV (h : E1 ta σ H (.bl a)) (k : a = false → E1 tb σ H (.bl b)) : E1 (tOrV ta tb) σ H (.bl (a || b)) := fun Q q => h _ ⟨a, rfl, by
  cases a with
  | true => rw [if_pos rfl]; exact q
  | false => rw [if_neg Bool.false_ne_true]; exact k rfl Q q⟩
theorem e_notV (h : E1 ta σ H (.bl a)) : E1 (tNotV ta) σ H (.bl (!a)) := fun Q q => h _ ⟨a, rfl, q⟩
theorem e_ite [Decidable P] (h : T1 t σ H P) (h1 : P → E1 ta σ H x) (h2 : ¬ P → E1 tb σ H y) : E1 (tIf t ta tb) σ H (if P then x else y) := fun Q q => h _
  (fun p => by rw [if_pos rfl]; rw [if_pos p] at q; exact h1 p Q q) (fun p => by rw [if_neg Bool.false_ne_true]; rw [if_neg p] at q; exact h2 p Q q)
theorem e_is (h : E1 te σ H v) (e : v = x) : E1 te σ H x := by rw [← e]; exact h
theorem e_bits (h : E1 ta σ H (.int i)) : E1 (tBits ta) σ H (.int (Builtin.Int.intBits i : Nat)) := fun Q q => h _ ⟨i, rfl, q⟩
/-! tests -/
theorem t_valP (h : E1 te σ H (.bl b)) (e : b = true ↔ P) : T1 (tB te) σ H P := fun Q q1 q2 => h _ ⟨b, rfl, by
  cases b with
  | true => exact q1 (e.mp rfl)
  | false => exact q2 fun p => Bool.false_ne_true (e.mpr p)⟩
theorem t_val (h : E1 te σ H (.bl b)) : T1 (tB te) σ H (b = true) := t_valP h Iff.rfl
theorem t_cmpP (h : E1 te σ H (.bl b)) (e : b = true ↔ P) : T1 (tTest te) σ H P := fun Q q1 q2 => h _ ⟨b, rfl, by
  cases b with
  | true => exact q1 (e.mp rfl)
  | false => exact q2 fun p => Bool.false_ne_true (e.mpr p)⟩
theorem t_cmp (h : E1 te σ H (.bl b)) : T1 (tTest te) σ H (b = true) := t_cmpP h Iff.rfl
/-- a comparison whose answer is a decided proposition, its negation -/
theorem t_dec [Decidable P] (h : E1 te σ H (.bl (decide P))) : T1 (tTest te) σ H P := t_cmpP h (by simp)
theorem t_ndec [Decidable P] (h : E1 te σ H (.bl (!decide P))) : T1 (tTest te) σ H (¬ P) := t_cmpP h (by simp)
theorem t_valD [Decidable P] (h : E1 te σ H (.bl (decide P))) : T1 (tB te) σ H P := t_valP h (by simp)
theorem t_eqI (ha : E1 ta σ H (.int i)) (hb : E1 tb σ H (.int j)) : T1 (tTest (tOp rEq ta tb)) σ H (i = j) := t_dec (e_op ha hb r_eqI)
theorem t_neI (ha : E1 ta σ H (.int i)) (hb : E1 tb σ H (.int j)) : T1 (tTest (tOp rNe ta tb)) σ H (¬ i = j) := t_ndec (e_op ha hb r_neI)
theorem t_eq (ha : E1 ta σ H x) (hb : E1 tb σ H y) (h : scal x y = true) : T1 (tTest (tOp rEq ta tb)) σ H (x = y) := t_dec (e_op ha hb (r_eq h))
theorem t_ne (ha : E1 ta σ H x) (hb : E1 tb σ H y) (h : scal x y = true) : T1 (tTest (tOp rNe ta tb)) σ H (¬ x = y) := t_ndec (e_op ha hb (r_ne h))
theorem t_I {p : Int → Int → Prop} [∀ i j, Decidable (p i j)] (ha : E1 ta σ H (.int i)) (hb : E1 tb σ H (.int j)) : T1 (tTest (tOp (rI0 fun i j => .bl (decide (p i j))) ta tb)) σ H (p i j) := t_dec (e_op ha hb r_I0)
theorem t_isN (ha : E1 ta σ H x) : T1 (tTest (tOp rIsN ta (tC .non))) σ H (x = .non) := t_dec (e_op ha e_c r_isN)
theorem t_notN (ha : E1 ta σ H x) : T1 (tTest (tOp rNotN ta (tC .non))) σ H (¬ x = .non) := t_ndec (e_op ha e_c r_notN)
theorem t_and (h : T1 t σ H P) (k : P → T1 u σ H P') : T1 (tAnd t u) σ H (P ∧ P') := fun Q q1 q2 => h _
  (fun p => by rw [if_pos rfl]; exact k p Q (fun p' => q1 ⟨p, p'⟩) fun n => q2 fun m => n m.2) (fun n => by rw [if_neg Bool.false_ne_true]; exact q2 fun m => n m.1)
theorem t_or (h : T1 t σ H P) (k : ¬ P → T1 u σ H P') : T1 (tOr t u) σ H (P ∨ P') := fun Q q1 q2 => h _
  (fun p => by rw [if_pos rfl]; exact q1 (.inl p)) (fun n => by rw [if_neg Bool.false_ne_true]; exact k n Q (fun p' => q1 (.inr p')) fun n' => q2 fun m => m.elim n n')
theorem t_not (h : T1 t σ H P) : T1 (tNot t) σ H (¬ P) := fun Q q1 q2 => h _ (fun p => q2 fun n => n p) fun n => q1 n
theorem t_yes : T1 tYes σ H True := fun Q q1 _ => q1 trivial
theorem t_truI (h : E1 ta σ H (.int i)) : T1 (tTru K ta) σ H (i ≠ 0) := fun Q q1 q2 => h _ ⟨(i != 0), rfl, by
  by_cases e : i = 0
  · subst e; exact q2 fun n => n rfl
  · rw [show (i != 0) = true by simpa using e]; exact q1 e⟩
theorem t_truL {p : Addr} {ds : List D} (s : sat As H) (e : Ent As H (.ref p) (.lst ds)) (h : E1 ta σ H (.ref p)) : T1 (tTru K ta) σ H (ds ≠ []) := fun Q q1 q2 => by
  obtain ⟨xs, e1, e2, _⟩ := s.rlv e
  refine h _ ⟨!xs.isEmpty, .inl ⟨xs, .inl (.inl e1), rfl⟩, ?_⟩
  cases xs with
  | nil =>
    have : ds = [] := List.length_eq_zero_iff.mp e2.symm
    exact q2 fun n => n this
  | cons _ _ => exact q1 fun n => by rw [n] at e2; cases e2
theorem t_truO {p : Addr} {ds : List D} (s : sat As H) (i : Nat) (h : E1 ta σ H (.ref p)) (e : As[i]? = some (ol p ds) := by rfl) : T1 (tTru K ta) σ H (ds ≠ []) := fun Q q1 q2 => by
  obtain ⟨xs, e1, e2, _⟩ := s.olv i e
  refine h _ ⟨!xs.isEmpty, .inl ⟨xs, .inl (.inl e1), rfl⟩, ?_⟩
  cases xs with
  | nil =>
    have : ds = [] := List.length_eq_zero_iff.mp e2.symm
    exact q2 fun n => n this
  | cons _ _ => exact q1 fun n => by rw [n] at e2; cases e2

/-! lists, tuples that are read -/
theorem atI_len {α β : Type} {xs : List α} {ds : List β} (l : xs.length = ds.length) {i : Int} {d : β} (h : atI ds i = some d) : ∃ (j : Nat) (x : α), xs[j]? = some x ∧ ds[j]? = some d ∧ atI xs i = some x := by
  unfold atI at h ⊢
  rw [l]
  cases q : ixN ds.length i with
  | none => rw [q] at h; cases h
  | some j =>
    rw [q] at h
    have e : ds[j]? = some d := h
    have hj : j < xs.length := by rw [l]; exact (List.getElem?_eq_some_iff.mp e).1
    exact ⟨j, xs[j], List.getElem?_eq_getElem hj, e, List.getElem?_eq_getElem hj⟩
/-- xs[i], t[i]: a flat item -/
theorem r_ixL (s : sat As H) {p : Addr} {ds : List D} (e : Ent As H (.ref p) (.lst ds)) (h : atI ds i = some (.v v)) : R1 (rIxL K) (.ref p) (.int i) H v := fun Q q => by
  obtain ⟨xs, h1, h2, h3⟩ := s.rlv e
  obtain ⟨j, x, e1, e2, e3⟩ := atI_len h2 h
  have z := s.flat (h3.get e1 e2)
  subst z
  exact ⟨p, xs, i, _, rfl, rfl, .inl (.inl h1), e3, q⟩
theorem r_ixT (s : sat As H) {p : Addr} {ds : List D} (e : Ent As H (.ref p) (.tup ds)) (h : atI ds i = some (.v v)) : R1 (rIxT K) (.ref p) (.int i) H v := fun Q q => by
  obtain ⟨xs, h1, h2, h3⟩ := s.rtv e
  obtain ⟨j, x, e1, e2, e3⟩ := atI_len h2 h
  have z := s.flat (h3.get e1 e2)
  subst z
  exact ⟨p, xs, i, _, rfl, rfl, .inl (.inl h1), e3, q⟩
theorem r_ixO (s : sat As H) {p : Addr} {ds : List D} (k : Nat) (h : atI ds i = some (.v v)) (e : As[k]? = some (ol p ds) := by rfl) : R1 (rIxL K) (.ref p) (.int i) H v := fun Q q => by
  obtain ⟨xs, h1, h2, h3⟩ := s.olv k e
  obtain ⟨j, x, e1, e2, e3⟩ := atI_len h2 h
  have z := s.flat (h3.get e1 e2)
  subst z
  exact ⟨p, xs, i, _, rfl, rfl, .inl (.inl h1), e3, q⟩
/-- any item: a new atom -/
theorem x_ixL (s : sat As H) {p : Addr} {ds : List D} (e : Ent As H (.ref p) (.lst ds)) {d : D} (h : atI ds i = some d) {Q : VK} (k : ∀ x, sat (.rp x d :: As) H → Q x H) : rIxL K (.ref p) (.int i) H Q := by
  obtain ⟨xs, h1, h2, h3⟩ := s.rlv e
  obtain ⟨j, x, e1, e2, e3⟩ := atI_len h2 h
  exact ⟨p, xs, i, _, rfl, rfl, .inl (.inl h1), e3, k x (s.rp (h3.get e1 e2))⟩
theorem x_ixT (s : sat As H) {p : Addr} {ds : List D} (e : Ent As H (.ref p) (.tup ds)) {d : D} (h : atI ds i = some d) {Q : VK} (k : ∀ x, sat (.rp x d :: As) H → Q x H) : rIxT K (.ref p) (.int i) H Q := by
  obtain ⟨xs, h1, h2, h3⟩ := s.rtv e
  obtain ⟨j, x, e1, e2, e3⟩ := atI_len h2 h
  exact ⟨p, xs, i, _, rfl, rfl, .inl (.inl h1), e3, k x (s.rp (h3.get e1 e2))⟩
theorem x_ixO (s : sat As H) {p : Addr} {ds : List D} (m : Nat) {d : D} (h : atI ds i = some d) (e : As[m]? = some (ol p ds)) {Q : VK} (k : ∀ x, sat (.rp x d :: As) H → Q x H) : rIxL K (.ref p) (.int i) H Q := by
  obtain ⟨xs, h1, h2, h3⟩ := s.olv m e
  obtain ⟨j, x, e1, e2, e3⟩ := atI_len h2 h
  exact ⟨p, xs, i, _, rfl, rfl, .inl (.inl h1), e3, k x (s.rp (h3.get e1 e2))⟩
/-- raw owned lists -/
theorem r_ixP (s : sat As H) {p : Addr} {xs : List V} (k : Nat) (h : atI xs i = some v) (e : As[k]? = some (pt p (.lst xs)) := by rfl) : R1 (rIxL K) (.ref p) (.int i) H v := fun Q q => by
  obtain ⟨o, F, h1, h2, _⟩ := s.own k e
  subst h2
  exact ⟨p, xs, i, _, rfl, rfl, .inl (.inl h1), h, q⟩
theorem c_lenL (s : sat As H) {p : Addr} {ds : List D} (e : Ent As H (.ref p) (.lst ds)) : C1 (rLn K) [.ref p] H (.int (ds.length : Int)) := fun Q q => by
  obtain ⟨xs, h1, h2, h3⟩ := s.rlv e
  exact ⟨p, xs, rfl, .inl (.inl (.inl h1)), by rw [h2]; exact q⟩
theorem c_lenT (s : sat As H) {p : Addr} {ds : List D} (e : Ent As H (.ref p) (.tup ds)) : C1 (rLn K) [.ref p] H (.int (ds.length : Int)) := fun Q q => by
  obtain ⟨xs, h1, h2, h3⟩ := s.rtv e
  exact ⟨p, xs, rfl, .inr (.inl (.inl h1)), by rw [h2]; exact q⟩
theorem c_lenO (s : sat As H) {p : Addr} {ds : List D} (k : Nat) (e : As[k]? = some (ol p ds) := by rfl) : C1 (rLn K) [.ref p] H (.int (ds.length : Int)) := fun Q q => by
  obtain ⟨xs, h1, h2, h3⟩ := s.olv k e
  exact ⟨p, xs, rfl, .inl (.inl (.inl h1)), by rw [h2]; exact q⟩
theorem c_int1 : C1 rInt1 [.int i] H (.int i) := fun Q q => .inl ⟨i, rfl, q⟩
theorem c_abs : C1 rAbs [.int i] H (.int (if i < 0 then -i else i)) := fun Q q => ⟨i, rfl, q⟩
theorem c_max2 : C1 rMax2 [.int i, .int j] H (.int (if j > i then j else i)) := fun Q q => ⟨i, j, rfl, q⟩
theorem c_min2 : C1 rMin2 [.int i, .int j] H (.int (if j < i then j else i)) := fun Q q => ⟨i, j, rfl, q⟩
theorem c_sum (s : sat As H) {p : Addr} {ns : List Int} (e : Ent As H (.ref p) (dIs ns)) : C1 (rSum K) [.ref p] H (.int ns.sum) := fun Q q => by
  obtain ⟨xs, h1, h2, h3⟩ := s.rlv e
  have z : xs = ns.map V.int := by
    obtain ⟨F, q⟩ := s
    exact (h3 F q).ints
  subst z
  exact ⟨p, ns, rfl, .inl (.inl h1), q⟩
/-- isinstance by a built-in class -/
theorem TyX.ofL (s : sat As H) {p : Addr} {ds : List D} (e : Ent As H (.ref p) (.lst ds)) : TyX K H (.ref p) (.type "list") := by
  obtain ⟨xs, h1, _⟩ := s.rlv e
  exact .base (.lst h1)
theorem TyX.ofT (s : sat As H) {p : Addr} {ds : List D} (e : Ent As H (.ref p) (.tup ds)) : TyX K H (.ref p) (.type "tuple") := by
  obtain ⟨xs, h1, _⟩ := s.rtv e
  exact .base (.tup h1)
theorem c_isi {t : Value} {n : String} {k : Bool} (ty : TyX K H x t) (h : PySem.W.kitOne K t (.type n) = some k) : C1 (rIsi K) [x, .ty n] H (.bl k) := fun Q q => ⟨x, .ty n, t, .type n, k, rfl, .ty n, ty, h, q⟩
theorem c_isiC {t : Value} {C : Addr} {k : Bool} (ty : TyX K H x t) (h : PySem.W.kitOne K t (.ref C) = some k) : C1 (rIsi K) [x, .ref C] H (.bl k) := fun Q q => ⟨x, .ref C, t, .ref C, k, rfl, .own C, ty, h, q⟩
end

/-! ### steps: an impure reading's part -/
section
variable {K : PySem.W.Frag} {As : List A} {σ : L2.St} {H : Hp} {ta tb te tc : TE} {t u : TT} {x y z v : V} {r : R2} {P : Prop} {nx bk ct : L2.St → Hp → Prop} {rt : VK} {s1 s2 : TS} {Q : VK}
theorem g_seq (h : s1 ⟨s2 ⟨nx, rt, bk, ct⟩, rt, bk, ct⟩ σ H) : tSeq s1 s2 ⟨nx, rt, bk, ct⟩ σ H := h
theorem g_next (h : nx σ H) : tNext ⟨nx, rt, bk, ct⟩ σ H := h
theorem g_set1 {i : Nat} (e : E1 te σ H v) (k : nx (σ.set i (some v)) H) : tAsg te (gName i) ⟨nx, rt, bk, ct⟩ σ H := e _ k
theorem g_set {i : Nat} (k : te σ H fun x H1 => nx (σ.set i (some x)) H1) : tAsg te (gName i) ⟨nx, rt, bk, ct⟩ σ H := k
theorem g_asg {g : TG} (k : te σ H fun x H1 => g x σ H1 nx) : tAsg te g ⟨nx, rt, bk, ct⟩ σ H := k
theorem g_ret1 (e : E1 te σ H v) (k : rt v H) : tRet te ⟨nx, rt, bk, ct⟩ σ H := e _ k
theorem g_ret (k : te σ H rt) : tRet te ⟨nx, rt, bk, ct⟩ σ H := k
theorem g_retN (k : rt .non H) : tRetN ⟨nx, rt, bk, ct⟩ σ H := k
theorem g_drop (k : te σ H fun _ H1 => nx σ H1) : tDrop te ⟨nx, rt, bk, ct⟩ σ H := k
theorem g_if1 (e : T1 t σ H P) (k1 : P → s1 ⟨nx, rt, bk, ct⟩ σ H) (k2 : ¬ P → s2 ⟨nx, rt, bk, ct⟩ σ H) : tIfS t s1 s2 ⟨nx, rt, bk, ct⟩ σ H := e _ (fun p => by rw [if_pos rfl]; exact k1 p) fun n => by rw [if_neg Bool.false_ne_true]; exact k2 n
theorem g_if (k : t σ H fun b H1 => if b = true then s1 ⟨nx, rt, bk, ct⟩ σ H1 else s2 ⟨nx, rt, bk, ct⟩ σ H1) : tIfS t s1 s2 ⟨nx, rt, bk, ct⟩ σ H := k
theorem g_aug1 {i : Nat} {f : Int → Int → Int} {a b : Int} (hx : σ[i]? = some (some (.int a))) (e : E1 te σ H (.int b)) (k : nx (σ.set i (some (.int (f a b)))) H) : tAug i te (ipI f) ⟨nx, rt, bk, ct⟩ σ H := ⟨.int a, hx, e _ ⟨a, b, rfl, rfl, k⟩⟩
theorem g_brk (k : bk σ H) : tBreak ⟨nx, rt, bk, ct⟩ σ H := k
theorem g_cnt (k : ct σ H) : tCont ⟨nx, rt, bk, ct⟩ σ H := k
/-- a pure part, then on -/
theorem g_e {Q : VK} (e : E1 te σ H v) (k : Q v H) : te σ H Q := e Q k
theorem g_a {ta : TA} {vs : List V} {Q : List V → Hp → Prop} (e : A1 ta σ H vs) (k : Q vs H) : ta σ H Q := e Q k
theorem g_op (k : ta σ H fun x H1 => tb σ H1 fun y H2 => r x y H2 Q) : tOp r ta tb σ H Q := k
theorem g_opl (e : E1 ta σ H x) (k : tb σ H fun y H2 => r x y H2 Q) : tOp r ta tb σ H Q := e _ k
theorem g_un {r : V → Hp → VK → Prop} (k : ta σ H fun x H1 => r x H1 Q) : tUn r ta σ H Q := k
theorem g_r {z : V} (e : R1 r x y H z) (k : Q z H) : r x y H Q := e Q k
theorem g_cb {r : List V → Hp → VK → Prop} {ta : TA} (k : ta σ H fun vs H1 => r vs H1 Q) : tCB r ta σ H Q := k
theorem g_cb1 {r : List V → Hp → VK → Prop} {ta : TA} {vs : List V} (e : A1 ta σ H vs) (k : r vs H Q) : tCB r ta σ H Q := e _ k
theorem g_c {r : List V → Hp → VK → Prop} {vs : List V} {z : V} (e : C1 r vs H z) (k : Q z H) : r vs H Q := e Q k
theorem g_call1 {sp : Sp} {dvs vs : List V} {E : XK} {ta : TA} (e : A1 ta σ H vs) (k : sp (vs ++ dvs) H Q E) : tCall sp dvs E ta σ H Q := e _ k
theorem g_call {sp : Sp} {dvs : List V} {E : XK} {ta : TA} (k : ta σ H fun vs H1 => sp (vs ++ dvs) H1 Q E) : tCall sp dvs E ta σ H Q := k
theorem g_acons {tr : TA} {Q : List V → Hp → Prop} (k : ta σ H fun x H1 => tr σ H1 fun vs H2 => Q (x :: vs) H2) : tCons ta tr σ H Q := k
theorem g_acons1 {tr : TA} {Q : List V → Hp → Prop} (e : E1 ta σ H x) (k : tr σ H fun vs H2 => Q (x :: vs) H2) : tCons ta tr σ H Q := e _ k
theorem g_anil {Q : List V → Hp → Prop} (k : Q [] H) : tNil σ H Q := k
theorem g_test (k : te σ H fun x H' => ∃ k, x = .bl k ∧ Q (.bl k) H') {R : Bool → Hp → Prop} (h : ∀ k H', Q (.bl k) H' → R k H') (mono : ∀ {Q Q' : VK}, (∀ x H, Q x H → Q' x H) → te σ H Q → te σ H Q') : tTest te σ H R := mono (fun x H' ⟨k, e, q⟩ => ⟨k, e, h k H' q⟩) k
theorem g_B {R : Bool → Hp → Prop} (k : te σ H fun x H' => ∃ c, x = .bl c ∧ R c H') : tB te σ H R := k
theorem g_T {R : Bool → Hp → Prop} (k : te σ H fun x H' => ∃ c, x = .bl c ∧ R c H') : tTest te σ H R := k
/-- a list made, a tuple made -/
theorem g_lst {ta : TA} {vs : List V} {ds : List Sat.D} (s : sat As H) (e : A1 ta σ H vs) (n : EntA As H vs ds) (hz : vs.length ≤ sizeLine) (k : ∀ p H1, sat (ol p ds :: As) H1 → Q (.ref p) H1) : tLst ta σ H Q := e _ ⟨hz, fun p hp => k p _ (s.newL hp n)⟩
theorem g_tup {ta : TA} {vs : List V} {ds : List Sat.D} (s : sat As H) (e : A1 ta σ H vs) (n : EntA As H vs ds) (hz : vs.length ≤ sizeLine) (k : ∀ p H1, sat (.rp (.ref p) (.tup ds) :: As) H1 → Q (.ref p) H1) : tTup ta σ H Q := e _ ⟨hz, fun p hp => k p _ (s.newT hp n)⟩
theorem x_lst {vs : List V} {ds : List Sat.D} (s : sat As H) (n : EntA As H vs ds) (hz : vs.length ≤ sizeLine) {Q : VK} (k : ∀ p H1, sat (ol p ds :: As) H1 → Q (.ref p) H1) : vs.length ≤ sizeLine ∧ ∀ p, H p = none → Q (.ref p) (upd H p (.lst vs)) := ⟨hz, fun p hp => k p _ (s.newL hp n)⟩
theorem x_tup {vs : List V} {ds : List Sat.D} (s : sat As H) (n : EntA As H vs ds) (hz : vs.length ≤ sizeLine) {Q : VK} (k : ∀ p H1, sat (.rp (.ref p) (.tup ds) :: As) H1 → Q (.ref p) H1) : vs.length ≤ sizeLine ∧ ∀ p, H p = none → Q (.ref p) (upd H p (.tup vs)) := ⟨hz, fun p hp => k p _ (s.newT hp n)⟩
theorem x_listL (s : sat As H) {p : Addr} {ds : List Sat.D} (e : Ent As H (.ref p) (.lst ds)) (k : ∀ p H1, sat (ol p ds :: As) H1 → Q (.ref p) H1) : rLO K [.ref p] H Q := by
  obtain ⟨xs, h1, h2, h3⟩ := s.rlv e
  exact ⟨p, xs, rfl, .inl (.inl (.inl h1)), fun l hl => k l _ (s.newL hl h3)⟩
theorem x_listT (s : sat As H) {p : Addr} {ds : List Sat.D} (e : Ent As H (.ref p) (.tup ds)) (k : ∀ p H1, sat (ol p ds :: As) H1 → Q (.ref p) H1) : rLO K [.ref p] H Q := by
  obtain ⟨xs, h1, h2, h3⟩ := s.rtv e
  exact ⟨p, xs, rfl, .inr (.inl (.inl h1)), fun l hl => k l _ (s.newL hl h3)⟩
theorem x_listO (s : sat As H) {p : Addr} {ds : List Sat.D} (m : Nat) (e : As[m]? = some (ol p ds)) (k : ∀ p H1, sat (ol p ds :: As) H1 → Q (.ref p) H1) : rLO K [.ref p] H Q := by
  obtain ⟨xs, h1, h2, h3⟩ := s.olv m e
  exact ⟨p, xs, rfl, .inl (.inl (.inl h1)), fun l hl => k l _ (s.newL hl h3)⟩
/-- an owned list's methods -/
theorem tyO (s : sat As H) {p : Addr} {ds : List Sat.D} (m : Nat) (e : As[m]? = some (ol p ds) := by rfl) : tyV K "list" (.ref p) H := by
  obtain ⟨xs, h1, _⟩ := s.olv m e
  exact .inl ⟨rfl, xs, .inl (.inl h1)⟩
theorem x_app (s : sat As H) {p : Addr} {ds : List Sat.D} {d : Sat.D} (m : Nat) (e : As[m]? = some (ol p ds)) (n : Ent As H x d) (hz : ds.length < sizeLine) (k : ∀ H1, sat (As.set m (ol p (ds ++ [d]))) H1 → Q .non H1) : rAppend (.ref p) [x] H Q := by
  obtain ⟨xs, h1, h2, h3⟩ := s.olv m e
  exact ⟨p, xs, x, rfl, rfl, h1, by rw [h2]; exact hz, k _ (s.updL m e (h3.append (.cons n .nil)))⟩
theorem x_clear (s : sat As H) {p : Addr} {ds : List Sat.D} (m : Nat) (e : As[m]? = some (ol p ds)) (k : ∀ H1, sat (As.set m (ol p [])) H1 → Q .non H1) : rClear (.ref p) [] H Q := by
  obtain ⟨xs, h1, h2, h3⟩ := s.olv m e
  exact ⟨p, xs, rfl, rfl, h1, k _ (s.updL m e .nil)⟩
theorem x_rev (s : sat As H) {p : Addr} {ds : List Sat.D} (m : Nat) (e : As[m]? = some (ol p ds)) (k : ∀ H1, sat (As.set m (ol p ds.reverse)) H1 → Q .non H1) : rReverse (.ref p) [] H Q := by
  obtain ⟨xs, h1, h2, h3⟩ := s.olv m e
  exact ⟨p, xs, rfl, rfl, h1, k _ (s.updL m e h3.reverse)⟩
theorem x_extL (s : sat As H) {p b : Addr} {ds es : List Sat.D} (m : Nat) (e : As[m]? = some (ol p ds)) (n : Ent As H (.ref b) (.lst es)) (hz : ds.length + es.length ≤ sizeLine) (k : ∀ H1, sat (As.set m (ol p (ds ++ es))) H1 → Q .non H1) : rExtend (.ref p) [.ref b] H Q := by
  obtain ⟨xs, h1, h2, h3⟩ := s.olv m e
  obtain ⟨ys, k1, k2, k3⟩ := s.rlv n
  exact ⟨p, b, xs, ys, rfl, rfl, h1, k1, by omega, k _ (s.updL m e (h3.append k3))⟩
theorem x_extO (s : sat As H) {p b : Addr} {ds es : List Sat.D} (m j : Nat) (e : As[m]? = some (ol p ds)) (n : As[j]? = some (ol b es)) (hz : ds.length + es.length ≤ sizeLine) (k : ∀ H1, sat (As.set m (ol p (ds ++ es))) H1 → Q .non H1) : rExtend (.ref p) [.ref b] H Q := by
  obtain ⟨xs, h1, h2, h3⟩ := s.olv m e
  obtain ⟨ys, k1, k2, k3⟩ := s.olv j n
  exact ⟨p, b, xs, ys, rfl, rfl, h1, k1, by omega, k _ (s.updL m e (h3.append k3))⟩
theorem x_ins (s : sat As H) {p : Addr} {ds : List Sat.D} {d : Sat.D} {i : Int} (m : Nat) (e : As[m]? = some (ol p ds)) (n : Ent As H x d) (hz : ds.length < sizeLine) (h0 : 0 ≤ i) (h9 : i < 2 ^ 63) (k : ∀ H1, sat (As.set m (ol p (ds.take i.toNat ++ [d] ++ ds.drop i.toNat))) H1 → Q .non H1) : rIns (.ref p) [.int i, x] H Q := by
  obtain ⟨xs, h1, h2, h3⟩ := s.olv m e
  exact ⟨p, xs, i, x, rfl, rfl, h1, by rw [h2]; exact hz, h0, h9, k _ (s.updL m e (((h3.take _).append (.cons n .nil)).append (h3.drop _)))⟩
/-- raw owned lists: store[i] = v -/
theorem x_setP (s : sat As H) {p : Addr} {xs : List V} {i : Int} {j : Nat} (m : Nat) (e : As[m]? = some (pt p (.lst xs))) (h : ixN xs.length i = some j) {R : Hp → Prop} (k : ∀ H1, sat (As.set m (pt p (.lst (xs.set j v)))) H1 → R H1) : rSetL (.ref p) (.int i) v H R := by
  obtain ⟨o, F, h1, h2, _⟩ := s.own m e
  subst h2
  exact ⟨p, xs, i, j, rfl, rfl, h1, h, k _ (s.updP m e)⟩
theorem x_setL (s : sat As H) {p : Addr} {ds : List Sat.D} {d : Sat.D} {i : Int} {j : Nat} (m : Nat) (e : As[m]? = some (ol p ds)) (n : Ent As H v d) (h : ixN ds.length i = some j) {R : Hp → Prop} (k : ∀ H1, sat (As.set m (ol p (ds.set j d))) H1 → R H1) : rSetL (.ref p) (.int i) v H R := by
  obtain ⟨xs, h1, h2, h3⟩ := s.olv m e
  exact ⟨p, xs, i, j, rfl, rfl, h1, by rw [h2]; exact h, k _ (s.updL m e (h3.set n j))⟩
/-! ### loops -/
theorem x_forL {p : Addr} {ds : List Sat.D} {g : TG} {tb : TS} {tl : TE} (s : sat As H) (n : Ent As H (.ref p) (.lst ds)) (e : E1 tl σ H (.ref p)) (Pv : Nat → L2.St → Hp → Prop) (h0 : Pv 0 σ H) (hl : ∀ i σ H, i ≤ ds.length → Pv i σ H → ∃ As, sat As H ∧ Ent As H (.ref p) (.lst ds))
    (hs : ∀ i d x σ H, ds[i]? = some d → Pv i σ H → (∀ {As}, Ent As H (.ref p) (.lst ds) → Ent As H x d) → g x σ H fun σ2 H2 => tb ⟨Pv (i + 1), rt, nx, Pv (i + 1)⟩ σ2 H2) (hd : ∀ σ H, Pv ds.length σ H → nx σ H) : tFor (iList K tl) g tb ⟨nx, rt, bk, ct⟩ σ H := e _ ⟨p, rfl, by
  obtain ⟨xs, h1, _⟩ := s.rlv n
  refine ⟨⟨xs, .inl (.inl h1)⟩, fun i m σ H => m = ds.length - i ∧ i ≤ ds.length ∧ Pv i σ H, ⟨ds.length, by simp, Nat.zero_le _, h0⟩, ?_⟩
  rintro i m σ H ⟨rfl, hi, q⟩
  obtain ⟨As, s, n⟩ := hl i σ H hi q
  obtain ⟨xs, h1, h2, h3⟩ := s.rlv n
  by_cases hlt : i < ds.length
  · have hx : i < xs.length := by omega
    refine .inr ⟨⟨xs, xs[i], .inl (.inl h1), List.getElem?_eq_getElem hx⟩, Pv (i + 1), fun σ' H' p' => ⟨ds.length - (i + 1), by omega, rfl, hlt, p'⟩, fun x H' y => ?_⟩
    obtain ⟨e, y⟩ := y
    subst e
    have ex := y xs (.inl (.inl h1))
    exact hs i ds[i] x σ _ (List.getElem?_eq_getElem hlt) q fun {As} n' F q' => by
      cases n' F q' with
      | lst f1 f2 =>
        have e1 := q'.ex _ _ f1
        rw [h1] at e1
        cases e1
        obtain ⟨z, e2, r⟩ := f2.get (List.getElem?_eq_getElem hlt)
        rw [ex] at e2
        cases e2
        exact r
  · have e : i = ds.length := by omega
    subst e
    exact .inl ⟨⟨xs, .inl (.inl h1), by omega⟩, hd σ H q⟩⟩
theorem x_forR1 {ta : TA} {g : TG} {tb : TS} {n : Int} (e : A1 ta σ H [.int n]) (hn : -(2 ^ 62) ≤ n ∧ n < 2 ^ 62) (Pv : Nat → L2.St → Hp → Prop) (h0 : Pv 0 σ H)
    (hs : ∀ (i : Nat) σ H, (i : Int) < n → Pv i σ H → g (.int (i : Int)) σ H fun σ2 H2 => tb ⟨Pv (i + 1), rt, nx, Pv (i + 1)⟩ σ2 H2) (hd : ∀ σ H, Pv n.toNat σ H → nx σ H) : tFor (iRng1 ta) g tb ⟨nx, rt, bk, ct⟩ σ H :=
  e _ ⟨n, rfl, hn.1, hn.2, for_range (lo := 0) (n := n.toNat) Pv h0 (fun i σ H hi q => by rw [Int.zero_add]; exact hs i σ H (by omega) q) hd⟩
theorem x_forR2 {ta : TA} {g : TG} {tb : TS} {lo n : Int} (e : A1 ta σ H [.int lo, .int n]) (hn : -(2 ^ 62) ≤ lo ∧ lo < 2 ^ 62 ∧ -(2 ^ 62) ≤ n ∧ n < 2 ^ 62) (Pv : Nat → L2.St → Hp → Prop) (h0 : Pv 0 σ H)
    (hs : ∀ (i : Nat) σ H, lo + (i : Int) < n → Pv i σ H → g (.int (lo + (i : Int))) σ H fun σ2 H2 => tb ⟨Pv (i + 1), rt, nx, Pv (i + 1)⟩ σ2 H2) (hd : ∀ σ H, Pv (n - lo).toNat σ H → nx σ H) : tFor (iRng2 ta) g tb ⟨nx, rt, bk, ct⟩ σ H :=
  e _ ⟨lo, n, rfl, hn, for_range (lo := lo) (n := (n - lo).toNat) Pv h0 (fun i σ H hi q => hs i σ H (by omega) q) hd⟩
theorem x_while {t : TT} {tb : TS} (Pv : Nat → L2.St → Hp → Prop) (m0 : Nat) (h0 : Pv m0 σ H) (hs : ∀ m σ H, Pv m σ H → ∃ P, T1 t σ H P ∧ (P → ∃ N : L2.St → Hp → Prop, (∀ σ2 H2, N σ2 H2 → ∃ m', m' < m ∧ Pv m' σ2 H2) ∧ tb ⟨N, rt, nx, N⟩ σ H) ∧ (¬ P → nx σ H)) : tWhile t tb ⟨nx, rt, bk, ct⟩ σ H :=
  ⟨Pv, ⟨m0, h0⟩, fun m σ H q => by
    obtain ⟨P, ht, h1, h2⟩ := hs m σ H q
    exact ht _ (fun p => by rw [if_pos rfl]; exact h1 p) fun n => by rw [if_neg Bool.false_ne_true]; exact h2 n⟩
/-! ### comprehensions: the new list is owned -/
/-- one turn's end: the item is appended to the owned list at place m -/
theorem x_lcE {Dl : Addr} {G : List V → Prop} {ds : List Sat.D} {d : Sat.D} (s : sat As H) (m : Nat) (e : As[m]? = some (ol Dl ds)) (n : Ent As H x d) (hz : ds.length < sizeLine) (k : ∀ acc, sat (As.set m (ol Dl (ds ++ [d]))) (upd H Dl (.lst (acc ++ [x]))) → G acc) : ∃ acc, H Dl = some (.lst acc) ∧ acc.length < sizeLine ∧ G acc := by
  obtain ⟨xs, h1, h2, h3⟩ := s.olv m e
  exact ⟨xs, h1, by rw [h2]; exact hz, k _ (s.updL m e (h3.append (.cons n .nil)))⟩
abbrev LcTurn (g : TG) (tt : TT) (te : TE) (vs : List Nat) (σ : L2.St) (Dl : Addr) (x : V) (H : Hp) (N : Hp → Prop) : Prop :=
  g x (wipe σ vs) H fun σ2 H2 => wipe σ2 vs = wipe σ vs ∧ tt σ2 H2 fun b H3 => if b = true then te σ2 H3 fun y H4 => ∃ acc, H4 Dl = some (.lst acc) ∧ acc.length < sizeLine ∧ N (upd H4 Dl (.lst (acc ++ [y]))) else N H3
theorem x_lcL {p : Addr} {ds : List Sat.D} {g : TG} {tt : TT} {te tl : TE} {vs : List Nat} (s : sat As H) (n : Ent As H (.ref p) (.lst ds)) (e : E1 tl σ H (.ref p)) (Pv : Addr → Nat → Hp → Prop) (h0 : ∀ Dl H1, sat (ol Dl [] :: As) H1 → Pv Dl 0 H1)
    (hl : ∀ Dl i H, i ≤ ds.length → Pv Dl i H → ∃ As, sat As H ∧ Ent As H (.ref p) (.lst ds))
    (hs : ∀ Dl i d x H, ds[i]? = some d → Pv Dl i H → (∀ {As}, Ent As H (.ref p) (.lst ds) → Ent As H x d) → LcTurn g tt te vs σ Dl x H (Pv Dl (i + 1))) (hd : ∀ Dl H, Pv Dl ds.length H → Q (.ref Dl) H) : tLc (iList K tl) g tt te vs σ H Q := e _ ⟨p, rfl, by
  obtain ⟨xs, h1, _⟩ := s.rlv n
  refine ⟨⟨xs, .inl (.inl h1)⟩, fun Dl hD => ⟨fun i m H => m = ds.length - i ∧ i ≤ ds.length ∧ Pv Dl i H, ⟨ds.length, by simp, Nat.zero_le _, h0 Dl _ (s.newL hD .nil)⟩, ?_⟩⟩
  rintro i m H ⟨rfl, hi, q⟩
  obtain ⟨As, s, n⟩ := hl Dl i H hi q
  obtain ⟨xs, h1, h2, h3⟩ := s.rlv n
  by_cases hlt : i < ds.length
  · have hx : i < xs.length := by omega
    refine .inr ⟨⟨xs, xs[i], .inl (.inl h1), List.getElem?_eq_getElem hx⟩, Pv Dl (i + 1), fun H' p' => ⟨ds.length - (i + 1), by omega, rfl, hlt, p'⟩, fun x H' y => ?_⟩
    obtain ⟨e, y⟩ := y
    subst e
    have ex := y xs (.inl (.inl h1))
    exact hs Dl i ds[i] x _ (List.getElem?_eq_getElem hlt) q fun {As} n' F q' => by
      cases n' F q' with
      | lst f1 f2 =>
        have e1 := q'.ex _ _ f1
        rw [h1] at e1
        cases e1
        obtain ⟨z, e2, r⟩ := f2.get (List.getElem?_eq_getElem hlt)
        rw [ex] at e2
        cases e2
        exact r
  · have e : i = ds.length := by omega
    subst e
    exact .inl ⟨⟨xs, .inl (.inl h1), by omega⟩, hd Dl H q⟩⟩
theorem x_lcR1 {ta : TA} {g : TG} {tt : TT} {te : TE} {vs : List Nat} {n : Int} (s : sat As H) (e : A1 ta σ H [.int n]) (hn : -(2 ^ 62) ≤ n ∧ n < 2 ^ 62) (Pv : Addr → Nat → Hp → Prop) (h0 : ∀ Dl H1, sat (ol Dl [] :: As) H1 → Pv Dl 0 H1)
    (hs : ∀ Dl (i : Nat) H, (i : Int) < n → Pv Dl i H → LcTurn g tt te vs σ Dl (.int (i : Int)) H (Pv Dl (i + 1))) (hd : ∀ Dl H, Pv Dl n.toNat H → Q (.ref Dl) H) : tLc (iRng1 ta) g tt te vs σ H Q :=
  e _ ⟨n, rfl, hn.1, hn.2, fun Dl hD => lc_range (lo := 0) (n := n.toNat) (Pv Dl) (h0 Dl _ (s.newL hD .nil)) (fun i H hi q => by rw [Int.zero_add]; exact hs Dl i H (by omega) q) (hd Dl)⟩
theorem x_lcR2 {ta : TA} {g : TG} {tt : TT} {te : TE} {vs : List Nat} {lo n : Int} (s : sat As H) (e : A1 ta σ H [.int lo, .int n]) (hn : -(2 ^ 62) ≤ lo ∧ lo < 2 ^ 62 ∧ -(2 ^ 62) ≤ n ∧ n < 2 ^ 62) (Pv : Addr → Nat → Hp → Prop) (h0 : ∀ Dl H1, sat (ol Dl [] :: As) H1 → Pv Dl 0 H1)
    (hs : ∀ Dl (i : Nat) H, lo + (i : Int) < n → Pv Dl i H → LcTurn g tt te vs σ Dl (.int (lo + (i : Int))) H (Pv Dl (i + 1))) (hd : ∀ Dl H, Pv Dl (n - lo).toNat H → Q (.ref Dl) H) : tLc (iRng2 ta) g tt te vs σ H Q :=
  e _ ⟨lo, n, rfl, hn, fun Dl hD => lc_range (lo := lo) (n := (n - lo).toNat) (Pv Dl) (h0 Dl _ (s.newL hD .nil)) (fun i H hi q => hs Dl i H (by omega) q) (hd Dl)⟩
end
end Sat

set_option Elab.async false
set_option linter.all false
set_option maxRecDepth 100000
set_option maxHeartbeats 1000000
/-! SatC: calls of the text's own defs, in short -/
namespace Sat
open PySem PySem.Spec PyProof.Rows L2
open Evl (Ex)
/-- a def of the module that is called: its promise -/
structure Cal (P : Program) (w : World) (K : PySem.W.Frag) (mg : Str → Option Value) (base : Heap) (CX : CXT) (k : Nat) (x : Str) (ps : List Str) (sp : Sp) where
  f : Addr
  fd : FuncData
  ok : FnOk P w K mg base CX k f fd ps sp
  kp : PySem.W.keepIn K (.ref f) = true
  b : Binds K fd ps []
  g : mg x = some (.ref f)
section
variable {X : Cx} {k j : Nat} {ps ks : List Str} {sp : Sp} {E : XK} {x : Str} {p pos kpos : Pos} {e : Expr} {es : List Expr} {kws : List Keyword} {t tk : TA} {CX : CXT}
theorem pe_fX (c : Cal X.prog X.w X.K X.mg X.base CX k x ps sp) (hr : Room j X.A) (hx : Passes CX X E) (ha : PA X (e :: es) t) (hg : Gl X x := by rfl) (hkj : k ≤ j := by decide) (hdb : (x == ("__debug__" : Str)) = false := by decide)
    (he : starEach (e :: es) X.env = (false, eval e X.env) :: starEach es X.env := by rfl) (hpl : (backTo pos (starEach es X.env)).any (·.1) = false := by rfl) : PE X (.Call (.Name x p) (e :: es) [] pos) (tCall sp [] E t) :=
  pe_call c.ok (hr.mono hkj) hg c.g c.kp c.b .nil hx ha hdb he hpl
theorem pe_f0X (c : Cal X.prog X.w X.K X.mg X.base CX k x ps sp) (hr : Room j X.A) (hx : Passes CX X E) (hg : Gl X x := by rfl) (hkj : k ≤ j := by decide) (hdb : (x == ("__debug__" : Str)) = false := by decide) : PE X (.Call (.Name x p) [] [] pos) (tCall sp [] E tNil) :=
  pe_call0 c.ok (hr.mono hkj) hg c.g c.kp c.b .nil hx hdb
theorem pe_f (c : Cal X.prog X.w X.K X.mg X.base CX0 k x ps sp) (hr : Room j X.A) (ha : PA X (e :: es) t) (hg : Gl X x := by rfl) (hkj : k ≤ j := by decide) (hdb : (x == ("__debug__" : Str)) = false := by decide)
    (he : starEach (e :: es) X.env = (false, eval e X.env) :: starEach es X.env := by rfl) (hpl : (backTo pos (starEach es X.env)).any (·.1) = false := by rfl) : PE X (.Call (.Name x p) (e :: es) [] pos) (tCall sp [] E0 t) :=
  pe_call c.ok (hr.mono hkj) hg c.g c.kp c.b .nil pass0 ha hdb he hpl
theorem pe_f0 (c : Cal X.prog X.w X.K X.mg X.base CX0 k x ps sp) (hr : Room j X.A) (hg : Gl X x := by rfl) (hkj : k ≤ j := by decide) (hdb : (x == ("__debug__" : Str)) = false := by decide) : PE X (.Call (.Name x p) [] [] pos) (tCall sp [] E0 tNil) :=
  pe_call0 c.ok (hr.mono hkj) hg c.g c.kp c.b .nil pass0 hdb
/-! the rules with K by name (within a comprehension's block X.K is not yet K to the sign) -/
variable {K : PySem.W.Frag}
theorem ix_listK (hK : X.K = K) : IxR X (rIxL K) := by subst hK; exact ix_list
theorem ix_seqK (hK : X.K = K) : IxR X (rIx K) := by subst hK; exact ix_seq
theorem ix_tupK (hK : X.K = K) : IxR X (rIxT K) := by subst hK; exact ix_tup
theorem call_lenK (hK : X.K = K) : CallR X (.builtin "len") (rLn K) := by subst hK; exact call_len'
theorem call_listK (hK : X.K = K) : CallR X (.type "list") (rLO K) := by subst hK; exact call_list'
theorem op_inK (hK : X.K = K) : OpR X (compareOp .In) (rIn K false) := by subst hK; exact op_in_seq
theorem op_notInK (hK : X.K = K) : OpR X (compareOp .NotIn) (rIn K true) := by subst hK; exact op_notIn_seq
theorem sl_listK (hK : X.K = K) : SlR X (rSlL K) := by subst hK; exact sl_list
theorem cr_sumK (hK : X.K = K) (hc : X.calm = true) : CallR X (.builtin "sum") (rSum K) := by subst hK; exact cr_sum hc
theorem call_isiK' (hK : X.K = K) : CallR X (.builtin "isinstance") (rIsi K) := by subst hK; exact call_isi
theorem pt_truK {a : Expr} {ta : TE} (hK : X.K = K) (ha : PE X a ta) (he : ∀ whole, isTrue a X.env whole = (do let v ← whole; standAt a.pos; holding [v] (truthy v)) := by intro _; rfl) : PT X a (tTru K ta) := by subst hK; exact pt_tru' ha he
theorem pi_listK {tg iter : Expr} {tl : TE} (hK : X.K = K) (h : PE X iter tl) : PI X tg iter (iList K tl) := by subst hK; exact pi_list h
theorem pi_tupK {tg iter : Expr} {tl : TE} (hK : X.K = K) (h : PE X iter tl) : PI X tg iter (iTup K tl) := by subst hK; exact pi_tup h
/-- keywords alone, in the parameters' order -/
def KAll (K : PySem.W.Frag) (fd : FuncData) (ps : List Str) : Prop := ∀ (s : Shared) (ws : List Value), K.In s.heap → ws.length = ps.length → BindsTo s fd ⟨[], ps.zip ws⟩ (ps.zip ws)
theorem KAll.of {K : PySem.W.Frag} {fd : FuncData} {ps : List Str} (h : ∀ ws : List Value, ws.length = ps.length → bindArgs fd ⟨[], ps.zip ws⟩ = pure (ps.zip ws)) : KAll K fd ps := fun s ws _ hl => .of_eq (h ws hl)
theorem Fun.kall {K : PySem.W.Frag} {x qual : Str} {st : Stmt} {f : Addr} {fd : FuncData} {ps : List Str} (F : Fun K x qual st f fd)
    (h : ∀ (kV doc pm : Value) (an : Option Addr) (cdv ct : Value) (us : List Value), us.length = ps.length → bindArgs (PySem.W.fnOf x qual (defArgs st) (defBody st) (defScope st) .none kV doc pm an cdv ct) ⟨[], ps.zip us⟩ = pure (ps.zip us)) : KAll K fd ps := by
  obtain ⟨oc, od, kV, doc, pm, an, cdv, ct, osl, rfl, lk, hcd⟩ := F.ex
  exact .of (h kV doc pm an cdv ct)
theorem pe_fK (c : Cal X.prog X.w X.K X.mg X.base CX k x ps sp) (hb : KAll X.K c.fd ps) (hr : Room j X.A) (hx : Passes CX X E) (hkw : PK X kws tk) (hg : Gl X x := by rfl) (hkj : k ≤ j := by decide) (hall : (backToKw pos (keywordEach kws X.env)).all (·.1.isSome) = true := by rfl)
    (hks : (backToKw pos (keywordEach kws X.env)).filterMap (·.1) = ps := by rfl) (hdb : (x == ("__debug__" : Str)) = false := by decide)
    (hpl : ((backTo pos (starEach [] X.env)).any (·.1) || (backToKw pos (keywordEach kws X.env)).any (·.1.isNone)) = false := by rfl) : PE X (.Call (.Name x p) [] kws pos) (tCall sp [] E tk) := by
  refine ⟨fun pins s σ H Q I h => ?_⟩
  refine wpAny_Call_Name_kw (ld_glob I hg c.g ?_ hdb)
  refine PySem.W.callWith_KW0 (h₀ := X.base) I.ok.mod.kin c.kp hall ?_ hpl
  refine thn (hkw.run pos pins s σ H _ I h) fun ws s2 ⟨zs, H2, I2, rz, q2⟩ => ⟨I2.kIn, ?_⟩
  rw [hks]
  have q2 : sp (zs ++ []) H2 Q E := q2
  rw [List.append_nil] at q2
  have hl : ws.length = ps.length := by rw [← rz.length]; exact c.ok.len _ _ _ _ q2
  refine wpAny_call (codeAny_mono (c.ok.run X.A X.stack s2 H2 ⟨[], ps.zip ws⟩ ws zs Q E (hr.mono hkj) I2.env0 (hb s2 ws I2.kIn hl) rz q2) fun r s' hq => ?_)
  cases r with
  | error e => exact hx pins σ H2 s2 e s' I2 hq
  | ok fl =>
    cases fl with
    | ret u => exact I2.after hq
    | next => exact False.elim hq
    | brk => exact False.elim hq
    | cont => exact False.elim hq
end
end Sat

set_option Elab.async false
set_option linter.all false
set_option maxRecDepth 100000
set_option maxHeartbeats 1000000
/-! SatV: lists that are read, owned or frozen; the draws' store -/
namespace Sat
open PySem PySem.Spec PyProof.Rows L2
open Evl (Ex)
/-- a list among the atoms, frozen or owned -/
def Vw (As : List A) (a : Addr) (ds : List D) : Prop := (∃ i : Nat, As[i]? = some (A.rp (.ref a) (.lst ds))) ∨ ∃ i : Nat, As[i]? = some (ol a ds)
section
variable {As Fr : List A} {a p : Addr} {ds : List D}
theorem Vw.r (i : Nat) (e : As[i]? = some (.rp (.ref a) (.lst ds)) := by rfl) : Vw As a ds := Or.inl ⟨i, e⟩
theorem Vw.o (i : Nat) (e : As[i]? = some (ol a ds) := by rfl) : Vw As a ds := Or.inr ⟨i, e⟩
theorem Vw.up {x : A} (h : Vw As a ds) : Vw (x :: As) a ds := by
  rcases h with ⟨i, e⟩ | ⟨i, e⟩
  · exact Or.inl ⟨i + 1, e⟩
  · exact Or.inr ⟨i + 1, e⟩
theorem Vw.up2 {x y : A} (h : Vw As a ds) : Vw (x :: y :: As) a ds := h.up.up
theorem Vw.up3 {x y z : A} (h : Vw As a ds) : Vw (x :: y :: z :: As) a ds := h.up.up.up
theorem Vw.up4 {x y z u : A} (h : Vw As a ds) : Vw (x :: y :: z :: u :: As) a ds := h.up.up.up.up
theorem sat.vw {H : Hp} (s : sat As H) (v : Vw As a ds) : ∃ xs, H a = some (.lst xs) ∧ xs.length = ds.length ∧ EntA As H xs ds := by
  rcases v with ⟨i, e⟩ | ⟨i, e⟩
  · exact s.rlv (.at i e)
  · exact s.olv i e
theorem sat.vwI {H : Hp} {ns : List Int} (s : sat As H) (v : Vw As a (ns.map dI)) : H a = some (.lst (ns.map V.int)) := by
  obtain ⟨xs, h1, _, h3⟩ := s.vw v
  obtain ⟨F, q⟩ := s
  rw [(h3 F q).ints] at h1
  exact h1
section
variable {K : PySem.W.Frag} {H : Hp} {σ : L2.St} {ta tb te tl : TE} {x v : V} {i : Int} {d : D} {Q : VK} {nx bk ct : L2.St → Hp → Prop} {rt : VK} {P : Prop}
theorem r_ixV (s : sat As H) (w : Vw As p ds) (h : atI ds i = some (.v v)) : R1 (rIxL K) (.ref p) (.int i) H v := fun Q q => by
  obtain ⟨xs, h1, h2, h3⟩ := s.vw w
  obtain ⟨j, x, e1, e2, e3⟩ := atI_len h2 h
  have z := s.flat (h3.get e1 e2)
  subst z
  exact ⟨p, xs, i, _, rfl, rfl, .inl (.inl h1), e3, q⟩
theorem x_ixV (s : sat As H) (w : Vw As p ds) (h : atI ds i = some d) (k : ∀ x, sat (.rp x d :: As) H → Q x H) : rIxL K (.ref p) (.int i) H Q := by
  obtain ⟨xs, h1, h2, h3⟩ := s.vw w
  obtain ⟨j, x, e1, e2, e3⟩ := atI_len h2 h
  exact ⟨p, xs, i, _, rfl, rfl, .inl (.inl h1), e3, k x (s.rp (h3.get e1 e2))⟩
theorem c_lenV (s : sat As H) (w : Vw As p ds) : C1 (rLn K) [.ref p] H (.int (ds.length : Int)) := fun Q q => by
  obtain ⟨xs, h1, h2, h3⟩ := s.vw w
  exact ⟨p, xs, rfl, .inl (.inl (.inl h1)), by rw [h2]; exact q⟩
theorem c_sumV (s : sat As H) {ns : List Int} (w : Vw As p (ns.map dI)) : C1 (rSum K) [.ref p] H (.int ns.sum) := fun Q q => ⟨p, ns, rfl, .inl (.inl (s.vwI w)), q⟩
theorem t_truV (s : sat As H) (w : Vw As p ds) (h : E1 ta σ H (.ref p)) : T1 (tTru K ta) σ H (ds ≠ []) := fun Q q1 q2 => by
  obtain ⟨xs, e1, e2, _⟩ := s.vw w
  refine h _ ⟨!xs.isEmpty, .inl ⟨xs, .inl (.inl e1), rfl⟩, ?_⟩
  cases xs with
  | nil =>
    have : ds = [] := List.length_eq_zero_iff.mp e2.symm
    exact q2 fun n => n this
  | cons _ _ => exact q1 fun n => by rw [n] at e2; cases e2
theorem x_listV (s : sat As H) (w : Vw As p ds) (k : ∀ p H1, sat (ol p ds :: As) H1 → Q (.ref p) H1) : rLO K [.ref p] H Q := by
  obtain ⟨xs, h1, h2, h3⟩ := s.vw w
  exact ⟨p, xs, rfl, .inl (.inl (.inl h1)), fun l hl => k l _ (s.newL hl h3)⟩
theorem x_extV (s : sat As H) {b : Addr} {es : List Sat.D} (m : Nat) (e : As[m]? = some (ol p ds)) (w : Vw As b es) (hz : ds.length + es.length ≤ sizeLine) (k : ∀ H1, sat (As.set m (ol p (ds ++ es))) H1 → Q .non H1) : rExtend (.ref p) [.ref b] H Q := by
  obtain ⟨xs, h1, h2, h3⟩ := s.olv m e
  obtain ⟨ys, k1, k2, k3⟩ := s.vw w
  exact ⟨p, b, xs, ys, rfl, rfl, h1, k1, by omega, k _ (s.updL m e (h3.append k3))⟩
theorem x_catV (s : sat As H) {b : Addr} {es : List Sat.D} (w : Vw As p ds) (w' : Vw As b es) (hz : ds.length + es.length ≤ sizeLine) (k : ∀ c H1, sat (ol c (ds ++ es) :: As) H1 → Q (.ref c) H1) : rCat (.ref p) (.ref b) H Q := by
  obtain ⟨xs, h1, h2, h3⟩ := s.vw w
  obtain ⟨ys, k1, k2, k3⟩ := s.vw w'
  exact ⟨p, b, xs, ys, rfl, rfl, h1, k1, by omega, fun c hc => k c _ (s.newL hc (h3.append k3))⟩
theorem flat_all : ∀ (ns : List Int), (ns.map V.int).all flatV = true
  | [] => rfl
  | n :: ns => by rw [List.map_cons, List.all_cons, flat_all ns]; rfl
theorem inV_int (n : Int) : ∀ ns : List Int, inV (.int n) (ns.map V.int) = decide (n ∈ ns)
  | [] => rfl
  | m :: ns => by
    have e : eqV (.int m) (.int n) = decide (m = n) := rfl
    unfold inV
    rw [List.map_cons, List.any_cons, e]
    have ih := inV_int n ns
    unfold inV at ih
    rw [ih]
    by_cases h : m = n
    · subst h; simp
    · have h' : n ≠ m := fun z => h z.symm
      simp [h, h']
theorem r_inV {n : Int} {ns : List Int} (s : sat As H) (w : Vw As p (ns.map dI)) : R1 (rIn K false) (.int n) (.ref p) H (.bl (decide (n ∈ ns))) := fun Q q => ⟨p, ns.map V.int, rfl, .inl (.inl (.inl (s.vwI w))), rfl, flat_all ns, by
  show Q (.bl (inV (.int n) (ns.map V.int))) H
  rw [inV_int]; exact q⟩
theorem r_ninV {n : Int} {ns : List Int} (s : sat As H) (w : Vw As p (ns.map dI)) : R1 (rIn K true) (.int n) (.ref p) H (.bl (!decide (n ∈ ns))) := fun Q q => ⟨p, ns.map V.int, rfl, .inl (.inl (.inl (s.vwI w))), rfl, flat_all ns, by
  show Q (.bl (!inV (.int n) (ns.map V.int))) H
  rw [inV_int]; exact q⟩
theorem x_forV {g : TG} {tb : TS} (s : sat As H) (w : Vw As p ds) (e : E1 tl σ H (.ref p)) (Pv : Nat → L2.St → Hp → Prop) (h0 : Pv 0 σ H) (hl : ∀ i σ H, i ≤ ds.length → Pv i σ H → ∃ As, sat As H ∧ Vw As p ds)
    (hs : ∀ i d x σ H, ds[i]? = some d → Pv i σ H → (∀ {As}, sat As H → Vw As p ds → Ent As H x d) → g x σ H fun σ2 H2 => tb ⟨Pv (i + 1), rt, nx, Pv (i + 1)⟩ σ2 H2) (hd : ∀ σ H, Pv ds.length σ H → nx σ H) : tFor (iList K tl) g tb ⟨nx, rt, bk, ct⟩ σ H := e _ ⟨p, rfl, by
  obtain ⟨xs, h1, _⟩ := s.vw w
  refine ⟨⟨xs, .inl (.inl h1)⟩, fun i m σ H => m = ds.length - i ∧ i ≤ ds.length ∧ Pv i σ H, ⟨ds.length, by simp, Nat.zero_le _, h0⟩, ?_⟩
  rintro i m σ H ⟨rfl, hi, q⟩
  obtain ⟨As, s, w⟩ := hl i σ H hi q
  obtain ⟨xs, h1, h2, h3⟩ := s.vw w
  by_cases hlt : i < ds.length
  · have hx : i < xs.length := by omega
    refine .inr ⟨⟨xs, xs[i], .inl (.inl h1), List.getElem?_eq_getElem hx⟩, Pv (i + 1), fun σ' H' p' => ⟨ds.length - (i + 1), by omega, rfl, hlt, p'⟩, fun x H' y => ?_⟩
    obtain ⟨e, y⟩ := y
    subst e
    have ex := y xs (.inl (.inl h1))
    exact hs i ds[i] x σ _ (List.getElem?_eq_getElem hlt) q fun {As} s' w' => by
      obtain ⟨ys, k1, k2, k3⟩ := s'.vw w'
      rw [h1] at k1
      cases k1
      exact k3.get ex (List.getElem?_eq_getElem hlt)
  · have e : i = ds.length := by omega
    subst e
    exact .inl ⟨⟨xs, .inl (.inl h1), by omega⟩, hd σ H q⟩⟩
theorem x_lcV {g : TG} {tt : TT} {vs : List Nat} (s : sat As H) (w : Vw As p ds) (e : E1 tl σ H (.ref p)) (Pv : Addr → Nat → Hp → Prop) (h0 : ∀ Dl H1, sat (ol Dl [] :: As) H1 → Pv Dl 0 H1)
    (hl : ∀ Dl i H, i ≤ ds.length → Pv Dl i H → ∃ As, sat As H ∧ Vw As p ds)
    (hs : ∀ Dl i d x H, ds[i]? = some d → Pv Dl i H → (∀ {As}, sat As H → Vw As p ds → Ent As H x d) → LcTurn g tt te vs σ Dl x H (Pv Dl (i + 1))) (hd : ∀ Dl H, Pv Dl ds.length H → Q (.ref Dl) H) : tLc (iList K tl) g tt te vs σ H Q := e _ ⟨p, rfl, by
  obtain ⟨xs, h1, _⟩ := s.vw w
  refine ⟨⟨xs, .inl (.inl h1)⟩, fun Dl hD => ⟨fun i m H => m = ds.length - i ∧ i ≤ ds.length ∧ Pv Dl i H, ⟨ds.length, by simp, Nat.zero_le _, h0 Dl _ (s.newL hD .nil)⟩, ?_⟩⟩
  rintro i m H ⟨rfl, hi, q⟩
  obtain ⟨As, s, w⟩ := hl Dl i H hi q
  obtain ⟨xs, h1, h2, h3⟩ := s.vw w
  by_cases hlt : i < ds.length
  · have hx : i < xs.length := by omega
    refine .inr ⟨⟨xs, xs[i], .inl (.inl h1), List.getElem?_eq_getElem hx⟩, Pv Dl (i + 1), fun H' p' => ⟨ds.length - (i + 1), by omega, rfl, hlt, p'⟩, fun x H' y => ?_⟩
    obtain ⟨e, y⟩ := y
    subst e
    have ex := y xs (.inl (.inl h1))
    exact hs Dl i ds[i] x _ (List.getElem?_eq_getElem hlt) q fun {As} s' w' => by
      obtain ⟨ys, k1, k2, k3⟩ := s'.vw w'
      rw [h1] at k1
      cases k1
      exact k3.get ex (List.getElem?_eq_getElem hlt)
  · have e : i = ds.length := by omega
    subst e
    exact .inl ⟨⟨xs, .inl (.inl h1), by omega⟩, hd Dl H q⟩⟩
theorem r_div {i j : Int} (h0 : 0 < j) (h1 : j < 1073741824) : R1 (rI CDiv fun i j => .int (i / j)) (.int i) (.int j) H (.int (i / j)) := r_I ⟨h0, h1⟩
theorem r_divW {i j : Int} (h0 : 0 < j) (h1 : j < 2 ^ 250) : R1 (rI CDivW fun i j => .int (i / j)) (.int i) (.int j) H (.int (i / j)) := r_I (wide_div h0 (b := 250) (by omega) (by decide) (by decide))
theorem r_mod {i j : Int} (h0 : 0 < j) : R1 (rI (fun _ j => 0 < j) fun i j => .int (i % j)) (.int i) (.int j) H (.int (i % j)) := r_I h0
theorem r_mulL {i j : Int} (h : -(2 ^ 64) < i ∧ i < 2 ^ 64) : R1 (rI CMul fun i j => .int (i * j)) (.int i) (.int j) H (.int (i * j)) := r_I (.inl h)
theorem r_mulR {i j : Int} (h : -(2 ^ 64) < j ∧ j < 2 ^ 64) : R1 (rI CMul fun i j => .int (i * j)) (.int i) (.int j) H (.int (i * j)) := r_I (.inr h)
theorem r_pow {i j : Int} (h : 0 ≤ j ∧ j ≤ 1000000 ∧ i.natAbs < 2 ^ 64) : R1 (rI CPow fun i j => .int (i ^ j.toNat)) (.int i) (.int j) H (.int (i ^ j.toNat)) := r_I h
theorem r_shl {i j : Int} (h : 0 ≤ j ∧ j ≤ 1000000 ∧ i.natAbs < 2 ^ 64) : R1 (rI CPow fun i j => .int (i * 2 ^ j.toNat)) (.int i) (.int j) H (.int (i * 2 ^ j.toNat)) := r_I h
theorem r_shr {i j : Int} (h : 0 ≤ j) : R1 (rI (fun _ j => 0 ≤ j) fun i j => .int (i / 2 ^ j.toNat)) (.int i) (.int j) H (.int (i / 2 ^ j.toNat)) := r_I h
theorem atI_at {α : Type} {xs : List α} {z : Int} (j : Nat) {v : α} (e : z = (j : Int)) (h : xs[j]? = some v) : atI xs z = some v := by
  rw [e]
  exact atI_nat h
theorem atI_ints {ns : List Int} {z : Int} {n : Int} (h0 : 0 ≤ z) (h : ns[z.toNat]? = some n) : atI (ns.map dI) z = some (.v (.int n)) := atI_at z.toNat (by omega) (by rw [List.getElem?_map, h]; rfl)
theorem getI {ns : List Int} {i : Nat} {d : Sat.D} (h : (ns.map dI)[i]? = some d) : ∃ n, ns[i]? = some n ∧ d = dI n := by
  rw [List.getElem?_map] at h
  cases e : ns[i]? with
  | none => rw [e] at h; cases h
  | some n => rw [e] at h; cases h; exact ⟨n, rfl, rfl⟩
theorem takeS {α : Type} {xs : List α} {i : Nat} {x : α} (h : xs[i]? = some x) : xs.take (i + 1) = xs.take i ++ [x] := by rw [List.take_add_one, h]; rfl
theorem perm_ins {es : List Sat.D} {d : Sat.D} {k : Nat} {fs : List Sat.D} (h : es.Perm fs) : (es.take k ++ [d] ++ es.drop k).Perm (fs ++ [d]) := by
  rw [List.append_assoc]
  refine (List.perm_middle (l₁ := es.take k) (l₂ := es.drop k)).trans ?_
  rw [List.take_append_drop]
  exact ((List.Perm.cons d h)).trans (List.perm_append_singleton d fs).symm
theorem perm_ints {es : List Sat.D} {ns : List Int} (h : es.Perm (ns.map dI)) : ∃ ms : List Int, es = ms.map dI ∧ ms.Perm ns := by
  let g : Sat.D → Int := fun d => match d with | .v (.int i) => i | _ => 0
  have e : (ns.map dI).map g = ns := by rw [List.map_map]; exact List.map_id'' (fun _ => rfl) ns
  have hp := h.map g
  rw [e] at hp
  refine ⟨es.map g, ?_, hp⟩
  have hm : ∀ d ∈ es, (dI ∘ g) d = d := fun d hd => by
    obtain ⟨n, _, rfl⟩ := List.mem_map.mp (h.mem_iff.mp hd)
    rfl
  rw [List.map_map]
  exact (List.map_congr_left hm).trans (List.map_id'' (fun _ => rfl) es) |>.symm
theorem sub_ints {es : List Sat.D} {ns : List Int} (h : es.Sublist (ns.map dI)) : ∃ ms : List Int, es = ms.map dI ∧ ms.Sublist ns := by
  obtain ⟨ms, h1, h2⟩ := List.sublist_map_iff.mp h
  exact ⟨ms, h2, h1⟩
def insI (ms : List Int) (k : Nat) (n : Int) : List Int := ms.take k ++ [n] ++ ms.drop k
theorem ins_ints (ms : List Int) (k : Nat) (n : Int) : (ms.map dI).take k ++ [dI n] ++ (ms.map dI).drop k = (insI ms k n).map dI := by
  unfold insI
  rw [List.map_append, List.map_append, List.map_take, List.map_drop]
  rfl
theorem ins_mem {ms ns : List Int} {k : Nat} {n : Int} (h : ∀ m ∈ ms, m ∈ ns) (hn : n ∈ ns) : ∀ m ∈ insI ms k n, m ∈ ns := fun m hm => by
  unfold insI at hm
  rcases List.mem_append.mp hm with q | q
  · rcases List.mem_append.mp q with q | q
    · exact h m (List.mem_of_mem_take q)
    · rw [List.mem_singleton.mp q]; exact hn
  · exact h m (List.mem_of_mem_drop q)
theorem ins_len {ms : List Int} {k : Nat} {n : Int} : (insI ms k n).length = ms.length + 1 := by
  unfold insI
  rw [List.length_append, List.length_append, List.length_take, List.length_drop, List.length_singleton]
  omega
theorem emod_lo {a b : Int} (h : 0 < b) : 0 ≤ a % b := Int.emod_nonneg _ (by omega)
def rangeI (a b : Int) : List Int := (List.range (b - a).toNat).map fun (i : Nat) => a + (i : Int)
theorem rgV_I (a b : Int) : rgV a b = (rangeI a b).map V.int := by unfold rgV rangeI; rw [List.map_map]; rfl
theorem rangeI_len (a b : Int) : (rangeI a b).length = (b - a).toNat := by unfold rangeI; rw [List.length_map, List.length_range]
theorem mem_rangeI {a b x : Int} : x ∈ rangeI a b ↔ a ≤ x ∧ x < b := by
  unfold rangeI
  rw [List.mem_map]
  constructor
  · rintro ⟨i, hi, rfl⟩
    rw [List.mem_range] at hi
    omega
  · rintro ⟨h0, h1⟩
    exact ⟨(x - a).toNat, by rw [List.mem_range]; omega, by omega⟩
theorem g_listR1 {n : Int} (s : sat As H) (e : E1 ta σ H (.int n)) (hn : 0 ≤ n ∧ n ≤ 100000) (k : ∀ p H1, sat (ol p ((rangeI 0 n).map dI) :: As) H1 → Q (.ref p) H1) : tLstRg (tRg1 ta) σ H Q := e _ ⟨n, rfl, ⟨by omega, by omega, by omega, by omega, by omega⟩, fun p hp => k p _ (by rw [rgV_I]; exact s.newL hp (EntA.ofI _))⟩
theorem g_listR2 {m n : Int} (s : sat As H) (e : E1 ta σ H (.int m)) (e' : E1 tb σ H (.int n)) (hn : -100000 ≤ m ∧ m ≤ 100000 ∧ -100000 ≤ n ∧ n ≤ 100000) (k : ∀ p H1, sat (ol p ((rangeI m n).map dI) :: As) H1 → Q (.ref p) H1) : tLstRg (tRg2 ta tb) σ H Q := e _ (e' _ ⟨m, n, rfl, rfl, ⟨by omega, by omega, by omega, by omega, by omega⟩, fun p hp => k p _ (by rw [rgV_I]; exact s.newL hp (EntA.ofI _))⟩)
/-! the walked thing is impure: first it is evaluated -/
def forLx (K : PySem.W.Frag) (g : TG) (tb : TS) (nx : L2.St → Hp → Prop) (rt : VK) (bk ct : L2.St → Hp → Prop) (σ : L2.St) (x : V) (H : Hp) : Prop := tFor (iList K (tC x)) g tb ⟨nx, rt, bk, ct⟩ σ H
def forRx (g : TG) (tb : TS) (nx : L2.St → Hp → Prop) (rt : VK) (bk ct : L2.St → Hp → Prop) (σ : L2.St) (vs : List V) (H : Hp) : Prop := tFor (iRng1 fun _ H Q => Q vs H) g tb ⟨nx, rt, bk, ct⟩ σ H
def forRRx (g : TG) (tb : TS) (nx : L2.St → Hp → Prop) (rt : VK) (bk ct : L2.St → Hp → Prop) (σ : L2.St) (vs : List V) (H : Hp) : Prop := tFor (iRng2 fun _ H Q => Q vs H) g tb ⟨nx, rt, bk, ct⟩ σ H
theorem g_forL {g : TG} {tb : TS} (k : tl σ H fun x H1 => forLx K g tb nx rt bk ct σ x H1) : tFor (iList K tl) g tb ⟨nx, rt, bk, ct⟩ σ H := k
theorem g_forR1 {g : TG} {tb : TS} {ta : TA} (k : ta σ H fun vs H1 => forRx g tb nx rt bk ct σ vs H1) : tFor (iRng1 ta) g tb ⟨nx, rt, bk, ct⟩ σ H := k
theorem g_forR2 {g : TG} {tb : TS} {ta : TA} (k : ta σ H fun vs H1 => forRRx g tb nx rt bk ct σ vs H1) : tFor (iRng2 ta) g tb ⟨nx, rt, bk, ct⟩ σ H := k
theorem y_forV {g : TG} {tb : TS} (s : sat As H) (w : Vw As p ds) (Pv : Nat → L2.St → Hp → Prop) (h0 : Pv 0 σ H) (hl : ∀ i σ H, i ≤ ds.length → Pv i σ H → ∃ As, sat As H ∧ Vw As p ds)
    (hs : ∀ i d x σ H, ds[i]? = some d → Pv i σ H → (∀ {As}, sat As H → Vw As p ds → Ent As H x d) → g x σ H fun σ2 H2 => tb ⟨Pv (i + 1), rt, nx, Pv (i + 1)⟩ σ2 H2) (hd : ∀ σ H, Pv ds.length σ H → nx σ H) : forLx K g tb nx rt bk ct σ (.ref p) H := x_forV s w e_c Pv h0 hl hs hd
theorem y_forR1 {g : TG} {tb : TS} {n : Int} (hn : -(2 ^ 62) ≤ n ∧ n < 2 ^ 62) (Pv : Nat → L2.St → Hp → Prop) (h0 : Pv 0 σ H)
    (hs : ∀ (i : Nat) σ H, (i : Int) < n → Pv i σ H → g (.int (i : Int)) σ H fun σ2 H2 => tb ⟨Pv (i + 1), rt, nx, Pv (i + 1)⟩ σ2 H2) (hd : ∀ σ H, Pv n.toNat σ H → nx σ H) : forRx g tb nx rt bk ct σ [.int n] H := x_forR1 (fun _ q => q) hn Pv h0 hs hd
theorem y_forR2 {g : TG} {tb : TS} {lo n : Int} (hn : -(2 ^ 62) ≤ lo ∧ lo < 2 ^ 62 ∧ -(2 ^ 62) ≤ n ∧ n < 2 ^ 62) (Pv : Nat → L2.St → Hp → Prop) (h0 : Pv 0 σ H)
    (hs : ∀ (i : Nat) σ H, lo + (i : Int) < n → Pv i σ H → g (.int (lo + (i : Int))) σ H fun σ2 H2 => tb ⟨Pv (i + 1), rt, nx, Pv (i + 1)⟩ σ2 H2) (hd : ∀ σ H, Pv (n - lo).toNat σ H → nx σ H) : forRRx g tb nx rt bk ct σ [.int lo, .int n] H := x_forR2 (fun _ q => q) hn Pv h0 hs hd
def lcLx (K : PySem.W.Frag) (g : TG) (tt : TT) (te : TE) (vs : List Nat) (σ : L2.St) (Q : VK) (x : V) (H : Hp) : Prop := tLc (iList K (tC x)) g tt te vs σ H Q
def lcRx (g : TG) (tt : TT) (te : TE) (vs : List Nat) (σ : L2.St) (Q : VK) (ws : List V) (H : Hp) : Prop := tLc (iRng1 fun _ H Q => Q ws H) g tt te vs σ H Q
theorem g_lcL {g : TG} {tt : TT} {vs : List Nat} (k : tl σ H fun x H1 => lcLx K g tt te vs σ Q x H1) : tLc (iList K tl) g tt te vs σ H Q := k
theorem g_lcR1 {g : TG} {tt : TT} {vs : List Nat} {ta : TA} (k : ta σ H fun ws H1 => lcRx g tt te vs σ Q ws H1) : tLc (iRng1 ta) g tt te vs σ H Q := k
theorem y_lcV {g : TG} {tt : TT} {vs : List Nat} (s : sat As H) (w : Vw As p ds) (Pv : Addr → Nat → Hp → Prop) (h0 : ∀ Dl H1, sat (ol Dl [] :: As) H1 → Pv Dl 0 H1)
    (hl : ∀ Dl i H, i ≤ ds.length → Pv Dl i H → ∃ As, sat As H ∧ Vw As p ds)
    (hs : ∀ Dl i d x H, ds[i]? = some d → Pv Dl i H → (∀ {As}, sat As H → Vw As p ds → Ent As H x d) → LcTurn g tt te vs σ Dl x H (Pv Dl (i + 1))) (hd : ∀ Dl H, Pv Dl ds.length H → Q (.ref Dl) H) : lcLx K g tt te vs σ Q (.ref p) H := x_lcV s w e_c Pv h0 hl hs hd
theorem y_lcR1 {g : TG} {tt : TT} {vs : List Nat} {n : Int} (s : sat As H) (hn : -(2 ^ 62) ≤ n ∧ n < 2 ^ 62) (Pv : Addr → Nat → Hp → Prop) (h0 : ∀ Dl H1, sat (ol Dl [] :: As) H1 → Pv Dl 0 H1)
    (hs : ∀ Dl (i : Nat) H, (i : Int) < n → Pv Dl i H → LcTurn g tt te vs σ Dl (.int (i : Int)) H (Pv Dl (i + 1))) (hd : ∀ Dl H, Pv Dl n.toNat H → Q (.ref Dl) H) : lcRx g tt te vs σ Q [.int n] H := x_lcR1 s (fun _ q => q) hn Pv h0 hs hd
/-! turns of comprehensions -/
theorem l_name {j : Nat} {tt : TT} {vs : List Nat} {Dl : Addr} {N : Hp → Prop} (hw : wipe ((wipe σ vs).set j (some x)) vs = wipe σ vs)
    (k : tt ((wipe σ vs).set j (some x)) H fun b H3 => if b = true then te ((wipe σ vs).set j (some x)) H3 fun y H4 => ∃ acc, H4 Dl = some (.lst acc) ∧ acc.length < sizeLine ∧ N (upd H4 Dl (.lst (acc ++ [y]))) else N H3) : LcTurn (gName j) tt te vs σ Dl x H N := ⟨hw, k⟩
theorem l_if {t : TT} {R R' : Hp → Prop} (e : T1 t σ H P) (k1 : P → R H) (k2 : ¬ P → R' H) : t σ H fun b H3 => if b = true then R H3 else R' H3 := e _ (fun p => by rw [if_pos rfl]; exact k1 p) fun n => by rw [if_neg Bool.false_ne_true]; exact k2 n
theorem l_yes {R R' : Hp → Prop} (k : R H) : tYes σ H fun b H3 => if b = true then R H3 else R' H3 := by
  show if true = true then R H else R' H
  rw [if_pos rfl]; exact k
end
section
variable {K : PySem.W.Frag} {H : Hp} {σ : L2.St} {ta tb te to ti : TE} {x o i v : V} {nx bk ct : L2.St → Hp → Prop} {rt : VK} {s1 s2 : TS} {t : TSet} {Q : L2.St → Hp → Prop}
theorem g_sub (e1 : E1 to σ H o) (e2 : E1 ti σ H i) (k : t o i v H fun H3 => Q σ H3) : gSub to ti t v σ H Q := e1 _ (e2 _ k)
theorem g_cut (Mid : L2.St → Hp → Prop) (h1 : s1 ⟨Mid, rt, bk, ct⟩ σ H) (h2 : ∀ σ' H', Mid σ' H' → s2 ⟨nx, rt, bk, ct⟩ σ' H') : C8.tCut s1 s2 ⟨nx, rt, bk, ct⟩ σ H := ⟨Mid, h1, h2⟩
theorem g_name {j : Nat} (k : Q (σ.set j (some v)) H) : gName j v σ H Q := k
theorem g_bm {T : String} {r : V → List V → Hp → VK → Prop} {tr : TA} {vs : List V} {R : VK} (e1 : E1 to σ H o) (ty : tyV K T o H) (e2 : A1 tr σ H vs) (k : r o vs H R) : tBM K T r to tr σ H R := e1 _ ⟨ty, e2 _ k⟩
theorem g_bm0 {T : String} {r : V → List V → Hp → VK → Prop} {R : VK} (e1 : E1 to σ H o) (ty : tyV K T o H) (k : r o [] H R) : tBM0 K T r to σ H R := e1 _ ⟨ty, k⟩
/-- the object's type first, then impure arguments -/
theorem g_bmI {T : String} {r : V → List V → Hp → VK → Prop} {tr : TA} {R : VK} (e1 : E1 to σ H o) (ty : tyV K T o H) (k : tr σ H fun vs H2 => r o vs H2 R) : tBM K T r to tr σ H R := e1 _ ⟨ty, k⟩
end
section
variable {σ : L2.St} {H : Hp} {ta : TA} {t u : TT} {Q : VK} {R : Bool → Hp → Prop} {b : Bool}
theorem g_lst0 (k : ta σ H fun vs H1 => vs.length ≤ sizeLine ∧ ∀ p, H1 p = none → Q (.ref p) (upd H1 p (.lst vs))) : tLst ta σ H Q := k
theorem g_tup0 (k : ta σ H fun vs H1 => vs.length ≤ sizeLine ∧ ∀ p, H1 p = none → Q (.ref p) (upd H1 p (.tup vs))) : tTup ta σ H Q := k
theorem x_lst0 {As : List A} {vs : List V} {ds : List Sat.D} {G : Addr → Prop} (s : sat As H) (n : EntA As H vs ds) (hz : vs.length ≤ sizeLine) (k : ∀ p, sat (ol p ds :: As) (upd H p (.lst vs)) → G p) : vs.length ≤ sizeLine ∧ ∀ p, H p = none → G p := ⟨hz, fun p hp => k p (s.newL hp n)⟩
theorem g_andV {ta tb : TE} (k : ta σ H fun x H1 => ∃ c, x = .bl c ∧ if c = true then tb σ H1 Q else Q (.bl false) H1) : tAndV ta tb σ H Q := k
theorem g_orV {ta tb : TE} (k : ta σ H fun x H1 => ∃ c, x = .bl c ∧ if c = true then Q (.bl true) H1 else tb σ H1 Q) : tOrV ta tb σ H Q := k
theorem x_lstP {As : List A} {vs : List V} {G : Addr → Prop} (s : sat As H) (hz : vs.length ≤ sizeLine) (k : ∀ p, sat (pt p (.lst vs) :: As) (upd H p (.lst vs)) → G p) : vs.length ≤ sizeLine ∧ ∀ p, H p = none → G p := ⟨hz, fun p hp => k p (s.newP hp)⟩
theorem x_tup0 {As : List A} {vs : List V} {ds : List Sat.D} {G : Addr → Prop} (s : sat As H) (n : EntA As H vs ds) (hz : vs.length ≤ sizeLine) (k : ∀ p, sat (.rp (.ref p) (.tup ds) :: As) (upd H p (.tup vs)) → G p) : vs.length ≤ sizeLine ∧ ∀ p, H p = none → G p := ⟨hz, fun p hp => k p (s.newT hp n)⟩
theorem g_and (k : t σ H fun c H1 => if c = true then u σ H1 R else R false H1) : tAnd t u σ H R := k
theorem g_or (k : t σ H fun c H1 => if c = true then R true H1 else u σ H1 R) : tOr t u σ H R := k
theorem g_not (k : t σ H fun c H1 => R (!c) H1) : tNot t σ H R := k
theorem g_dec {p : Prop} [Decidable p] {G : Bool → Prop} (h1 : p → G true) (h2 : ¬ p → G false) : ∃ c, V.bl (decide p) = .bl c ∧ G c := ⟨_, rfl, by
  by_cases h : p
  · rw [decide_eq_true h]; exact h1 h
  · rw [decide_eq_false h]; exact h2 h⟩
theorem g_ndec {p : Prop} [Decidable p] {G : Bool → Prop} (h1 : ¬ p → G true) (h2 : p → G false) : ∃ c, V.bl (!decide p) = .bl c ∧ G c := ⟨_, rfl, by
  by_cases h : p
  · rw [decide_eq_true h]; exact h2 h
  · rw [decide_eq_false h]; exact h1 h⟩
theorem g_bool {G : Bool → Prop} (h1 : b = true → G true) (h2 : b = false → G false) : ∃ c, V.bl b = .bl c ∧ G c := ⟨b, rfl, by
  cases b with
  | true => exact h1 rfl
  | false => exact h2 rfl⟩
theorem sz (n : Nat) (h : n ≤ 1000) : n ≤ sizeLine := Nat.le_of_lt (small1000 h)
end
/-! all frozen, for a call that gives nothing but a flat thing back -/
theorem sat.all {H : Hp} {xs : List V} {ds : List D} (h : RpA H xs ds) : sat ((xs.zip ds).map (fun p => A.rp p.1 p.2) ++ [.fr H]) H := by
  refine ⟨H, Ex.refl H, fun y hy => ?_, fun i j x y a e1 _ a1 _ => ?_⟩
  · rcases List.mem_append.mp hy with q | q
    · obtain ⟨⟨x, d⟩, hm, rfl⟩ := List.mem_map.mp q
      obtain ⟨i, e⟩ := List.getElem?_of_mem hm
      rw [List.getElem?_zip_eq_some] at e
      obtain ⟨z, e2, r⟩ := h.get e.2
      rw [e.1] at e2
      cases e2
      exact r
    · rw [List.mem_singleton.mp q]
      exact Ex.refl H
  · have q := List.mem_of_getElem? e1
    rcases List.mem_append.mp q with q | q
    · obtain ⟨⟨x, d⟩, hm, rfl⟩ := List.mem_map.mp q
      cases a1
    · rw [List.mem_singleton.mp q] at a1
      cases a1
theorem sat.back {H H' : Hp} {Bs : List A} (h : sat As H) (k : sat Bs H') (i : Nat) (e : Bs[i]? = some (.fr H) := by rfl) : sat As H' := by
  obtain ⟨F, q⟩ := k
  exact h.grow (Ex.trans (q.ok _ (List.mem_of_getElem? e)) q.ex)
/-! an owned thing seen another way -/
theorem sat.see {H : Hp} (h : sat As H) (i : Nat) {φ : Hp → HO → Prop} {m} (e : As[i]? = some (.own a φ m) := by rfl) : ∃ o F, H a = some o ∧ φ F o ∧ satF As H F := by
  obtain ⟨F, h⟩ := h
  obtain ⟨_, o, h1, h2⟩ := h.ok _ (List.mem_of_getElem? e)
  exact ⟨o, F, h1, h2, h⟩
theorem satF.re {H F : Hp} (h : satF As H F) (i : Nat) {φ ψ : Hp → HO → Prop} {m m'} {o : HO} (e : As[i]? = some (.own a φ m)) (ho : H a = some o) (k : ψ F o) : satF (As.set i (.own a ψ m')) H F := by
  have hi : i < As.length := (List.getElem?_eq_some_iff.mp e).1
  have e2 : ∀ (j : Nat) (y : A), (As.set i (.own a ψ m'))[j]? = some y → (j = i ∧ y = .own a ψ m') ∨ (j ≠ i ∧ As[j]? = some y) := fun j y q => by
    by_cases hj : j = i
    · subst hj
      rw [List.getElem?_set_self hi] at q
      exact .inl ⟨rfl, (Option.some.inj q).symm⟩
    · rw [List.getElem?_set_ne (fun z => hj z.symm)] at q
      exact .inr ⟨hj, q⟩
  refine ⟨h.ex, fun y hy => ?_, fun j l y z b p1 p2 a1 a2 => ?_⟩
  · obtain ⟨j, q⟩ := List.getElem?_of_mem hy
    rcases e2 j y q with ⟨_, r⟩ | ⟨hj, r⟩
    · rw [r]
      exact ⟨(h.ok _ (List.mem_of_getElem? e)).1, o, ho, k⟩
    · exact h.ok y (List.mem_of_getElem? r)
  · have to : ∀ (j : Nat) (y : A), (As.set i (.own a ψ m'))[j]? = some y → y.ad = some b → ∃ y', As[j]? = some y' ∧ y'.ad = some b := fun j y q hb => by
      rcases e2 j y q with ⟨hj, r⟩ | ⟨_, r⟩
      · rw [r] at hb
        cases hb
        exact ⟨_, by rw [hj]; exact e, rfl⟩
      · exact ⟨y, r, hb⟩
    obtain ⟨y', r1, b1⟩ := to j y p1 a1
    obtain ⟨z', r2, b2⟩ := to l z p2 a2
    exact h.inj j l y' z' b r1 r2 b1 b2
theorem satF.sat {H F : Hp} (h : satF As H F) : sat As H := ⟨F, h⟩

/-- the store's cells stand among the atoms -/
def Cl (Fr : List A) (c : Addr) : Prop := ∃ ns : List Int, Vw Fr c (ns.map dI)
theorem Cl.up {x : A} {c : Addr} (h : Cl Fr c) : Cl (x :: Fr) c := by obtain ⟨ns, v⟩ := h; exact ⟨ns, v.up⟩
/-! ### the draws' store: its cells at c -/
def stoOk (c : Addr) (o : HO) : Prop := ∃ (a1 a2 a3 a4 a5 : Int), o = .lst [.ref c, .int a1, .int a2, .int a3, .int a4, .int a5] ∧ 0 ≤ a1
abbrev sto (s c : Addr) : A := .own s (fun _ o => stoOk c o) fun _ _ _ _ h => h
theorem sto_open {H : Hp} {s c : Addr} (h : sat (sto s c :: Fr) H) : ∃ a1 a2 a3 a4 a5 : Int, 0 ≤ a1 ∧ sat (pt s (.lst [.ref c, .int a1, .int a2, .int a3, .int a4, .int a5]) :: Fr) H := by
  obtain ⟨o, F, h1, ⟨a1, a2, a3, a4, a5, rfl, h0⟩, q⟩ := h.see 0
  exact ⟨a1, a2, a3, a4, a5, h0, (q.re 0 rfl h1 (ψ := fun _ u => u = .lst [.ref c, .int a1, .int a2, .int a3, .int a4, .int a5]) rfl).sat⟩
theorem sto_close {H : Hp} {s c : Addr} {a1 a2 a3 a4 a5 : Int} (h0 : 0 ≤ a1) (h : sat (pt s (.lst [.ref c, .int a1, .int a2, .int a3, .int a4, .int a5]) :: Fr) H) : sat (sto s c :: Fr) H := by
  obtain ⟨o, F, h1, rfl, q⟩ := h.see 0
  exact (q.re 0 rfl h1 (ψ := fun _ o => stoOk c o) ⟨a1, a2, a3, a4, a5, rfl, h0⟩).sat
end
end Sat

set_option Elab.async false
set_option linter.all false
set_option maxRecDepth 100000
set_option maxHeartbeats 1000000
/-! Masks: the numbers of a mask, plain -/
namespace Mk
open PySem
theorem land_even_odd (q r : Nat) : (2 * q) &&& (2 * r + 1) = 2 * (q &&& r) := by
  apply Nat.eq_of_testBit_eq
  intro i
  cases i with
  | zero => simp [Nat.testBit_and]
  | succ i =>
    rw [Nat.testBit_and, Nat.testBit_succ, Nat.testBit_succ, Nat.testBit_succ, show 2 * q / 2 = q by omega, show (2 * r + 1) / 2 = r by omega, show 2 * (q &&& r) / 2 = q &&& r by omega, Nat.testBit_and]
theorem land_odd_even (q : Nat) : (2 * q + 1) &&& (2 * q) = 2 * q := by
  apply Nat.eq_of_testBit_eq
  intro i
  cases i with
  | zero => simp [Nat.testBit_and]
  | succ i =>
    rw [Nat.testBit_and, Nat.testBit_succ, Nat.testBit_succ, show 2 * q / 2 = q by omega, show (2 * q + 1) / 2 = q by omega, Bool.and_self]
/-- the least bit of m -/
theorem low (m : Nat) (h : 0 < m) : ∃ k, m.testBit k = true ∧ (∀ j, j < k → m.testBit j = false) ∧ (m &&& (m - 1)) + 2 ^ k = m ∧ ∀ j, (m &&& (m - 1)).testBit j = (m.testBit j && decide (j ≠ k)) := by
  induction m using Nat.strongRecOn with
  | _ m ih =>
    by_cases e : m % 2 = 1
    · obtain ⟨q, rfl⟩ : ∃ q, m = 2 * q + 1 := ⟨m / 2, by omega⟩
      refine ⟨0, by simp, fun j hj => absurd hj (Nat.not_lt_zero j), ?_, fun j => ?_⟩
      · rw [Nat.add_sub_cancel, land_odd_even]
      · rw [Nat.add_sub_cancel, land_odd_even]
        cases j with
        | zero => simp
        | succ j =>
          rw [Nat.testBit_succ, Nat.testBit_succ, show 2 * q / 2 = q by omega, show (2 * q + 1) / 2 = q by omega]
          simp
    · obtain ⟨q, rfl⟩ : ∃ q, m = 2 * q := ⟨m / 2, by omega⟩
      obtain ⟨k, h1, h2, h3, h4⟩ := ih q (by omega) (by omega)
      have hm : 2 * q - 1 = 2 * (q - 1) + 1 := by omega
      refine ⟨k + 1, ?_, fun j hj => ?_, ?_, fun j => ?_⟩
      · rw [Nat.testBit_succ, show 2 * q / 2 = q by omega]; exact h1
      · cases j with
        | zero => simp
        | succ j =>
          rw [Nat.testBit_succ, show 2 * q / 2 = q by omega]
          exact h2 j (by omega)
      · rw [hm, land_even_odd, Nat.pow_succ]; omega
      · rw [hm, land_even_odd]
        cases j with
        | zero => simp
        | succ j =>
          rw [Nat.testBit_succ, Nat.testBit_succ, show 2 * (q &&& (q - 1)) / 2 = q &&& (q - 1) by omega, show 2 * q / 2 = q by omega, h4]
          simp
/-- the numbers of a mask -/
def nums (m : Nat) : List Nat := (List.range 64).filter m.testBit
def bits (m : Nat) : List Int := (nums m).map fun (i : Nat) => (i : Int)
theorem mem_nums {m i : Nat} : i ∈ nums m ↔ i < 64 ∧ m.testBit i = true := by
  unfold nums
  rw [List.mem_filter, List.mem_range]
theorem bits_len (m : Nat) : (bits m).length = (nums m).length := List.length_map ..
theorem nums_le (m : Nat) : (nums m).length ≤ 64 := by
  unfold nums
  have := List.length_filter_le m.testBit (List.range 64)
  rw [List.length_range] at this
  exact this
theorem filter_drop {p : Nat → Bool} {k : Nat} (hk : p k = true) : ∀ {l : List Nat}, l.Nodup → k ∈ l → (l.filter p).length = (l.filter fun j => p j && decide (j ≠ k)).length + 1
  | [], _, h => by cases h
  | x :: l, nd, h => by
    have nd' := List.nodup_cons.mp nd
    by_cases e : x = k
    · subst e
      rw [List.filter_cons_of_pos (by exact hk), List.filter_cons_of_neg (by simp)]
      have q : l.filter (fun j => p j && decide (j ≠ x)) = l.filter p := List.filter_congr fun j hj => by
        have : j ≠ x := fun z => nd'.1 (z ▸ hj)
        simp [this]
      rw [q, List.length_cons]
    · have hl : k ∈ l := by
        rcases List.mem_cons.mp h with z | z
        · exact absurd z.symm e
        · exact z
      have ih := filter_drop hk nd'.2 hl
      cases hp : p x with
      | true =>
        rw [List.filter_cons_of_pos (by exact hp), List.filter_cons_of_pos (by simp [hp, e]), List.length_cons, List.length_cons, ih]
      | false =>
        rw [List.filter_cons_of_neg (by simp [hp]), List.filter_cons_of_neg (by simp [hp]), ih]
theorem pop_step {m : Nat} (h : 0 < m) (h2 : m < 2 ^ 64) : (nums m).length = (nums (m &&& (m - 1))).length + 1 := by
  obtain ⟨k, h1, _, _, h4⟩ := low m h
  have hk : k < 64 := by
    rcases Nat.lt_or_ge k 64 with z | z
    · exact z
    · rw [Nat.testBit_lt_two_pow (Nat.lt_of_lt_of_le h2 (Nat.pow_le_pow_right (by omega) z))] at h1; cases h1
  unfold nums
  rw [filter_drop h1 List.nodup_range (List.mem_range.mpr hk)]
  congr 2
  exact List.filter_congr fun j _ => (h4 j).symm
theorem nums_zero : nums 0 = [] := by
  unfold nums
  rw [List.filter_eq_nil_iff]
  intro a _
  simp
theorem nums_pos {m : Nat} (h : 0 < m) (h2 : m < 2 ^ 64) : 0 < (nums m).length := by rw [pop_step h h2]; omega
theorem and_lt {m : Nat} (h : 0 < m) : m &&& (m - 1) < m := Nat.lt_of_le_of_lt Nat.and_le_right (by omega)
/-- the first of them -/
theorem nums_head {m k : Nat} (hk : k < 64) (h1 : m.testBit k = true) (h2 : ∀ j, j < k → m.testBit j = false) : (nums m)[0]? = some k := by
  have e : List.range 64 = List.range k ++ (k :: (List.range (63 - k)).map (fun x => k + (x + 1))) := by
    conv => lhs; rw [show 64 = k + ((63 - k) + 1) by omega]
    rw [List.range_add, List.range_succ_eq_map]
    simp [List.map_map, Function.comp_def]
  unfold nums
  rw [e, List.filter_append, List.filter_eq_nil_iff.mpr (fun j hj => by rw [h2 j (List.mem_range.mp hj)]; decide), List.nil_append, List.filter_cons_of_pos (by exact h1)]
  rfl
theorem intBits_nat (m : Nat) : Builtin.Int.intBits (m : Int) = if m = 0 then 0 else m.log2 + 1 := by
  unfold Builtin.Int.intBits
  by_cases h : m = 0
  · subst h; rfl
  · rw [if_neg h, if_neg (by simpa using h)]
    rfl
theorem intBits_le {m : Nat} (h : m < 2 ^ 64) : Builtin.Int.intBits (m : Int) ≤ 64 := by
  rw [intBits_nat]
  split
  · omega
  · rename_i h0
    have := (Nat.log2_lt h0).mpr h
    omega
theorem intBits_gt {m i : Nat} (h : m.testBit i = true) : i < Builtin.Int.intBits (m : Int) := by
  rw [intBits_nat]
  have h0 : m ≠ 0 := fun z => by subst z; simp at h
  rw [if_neg h0]
  rcases Nat.lt_or_ge i (m.log2 + 1) with z | z
  · exact z
  · have : m < 2 ^ i := Nat.lt_of_lt_of_le ((Nat.log2_lt h0).mp (Nat.lt_succ_self _)) (Nat.pow_le_pow_right (by omega) z)
    rw [Nat.testBit_lt_two_pow this] at h; cases h
theorem intBits_pow (k : Nat) : Builtin.Int.intBits ((2 ^ k : Nat) : Int) = k + 1 := by
  rw [intBits_nat, if_neg (by have := Nat.two_pow_pos k; omega), Nat.log2_two_pow]
/-- the members' list goes over the bits below bit_length alone -/
def numsTo (m n : Nat) : List Nat := (List.range n).filter m.testBit
theorem numsTo_all {m : Nat} (h : m < 2 ^ 64) : numsTo m (Builtin.Int.intBits (m : Int)) = nums m := by
  have hb := intBits_le h
  unfold numsTo nums
  generalize hn : Builtin.Int.intBits (m : Int) = n at hb
  have e : List.range 64 = List.range n ++ (List.range (64 - n)).map (n + ·) := by rw [← List.range_add]; congr 1; omega
  rw [e, List.filter_append]
  have : ((List.range (64 - n)).map (n + ·)).filter m.testBit = [] := by
    rw [List.filter_eq_nil_iff]
    intro a ha hb
    obtain ⟨x, _, rfl⟩ := List.mem_map.mp ha
    have := intBits_gt hb
    omega
  rw [this, List.append_nil]
theorem numsTo_yes {m n : Nat} (h : m.testBit n = true) : numsTo m (n + 1) = numsTo m n ++ [n] := by
  unfold numsTo
  rw [List.range_succ, List.filter_append, List.filter_cons_of_pos (by exact h)]
  rfl
theorem numsTo_no {m n : Nat} (h : m.testBit n = false) : numsTo m (n + 1) = numsTo m n := by
  unfold numsTo
  rw [List.range_succ, List.filter_append, List.filter_cons_of_neg (by rw [h]; decide)]
  exact List.append_nil _
theorem tb_iff (m n : Nat) : m.testBit n = true ↔ m / 2 ^ n % 2 = 1 := by rw [Nat.testBit_eq_decide_div_mod_eq, decide_eq_true_iff]
theorem pow_cast (k : Nat) : (2 : Int) ^ k = ((2 ^ k : Nat) : Int) := by rw [Int.natCast_pow]; rfl
/-- the test of members: (m >> n) & 1 -/
theorem mem_test (m n : Nat) : Builtin.bitAnd ((m : Int) / 2 ^ n) 1 ≠ 0 ↔ m.testBit n = true := by
  rw [PyProof.Rows.bitAnd_m1, tb_iff, pow_cast, ← Int.natCast_ediv]
  omega
theorem law_test (m n : Nat) : (m : Int) / 2 ^ n % 2 = 1 ↔ m.testBit n = true := by
  rw [tb_iff, pow_cast, ← Int.natCast_ediv]
  omega
theorem bitAnd_pred {m : Nat} (h : 0 < m) : Builtin.bitAnd (m : Int) ((m : Int) - 1) = ((m &&& (m - 1) : Nat) : Int) := by
  unfold Builtin.bitAnd
  rw [decide_eq_true (by omega : (0 : Int) ≤ (m : Int)), decide_eq_true (by omega : (0 : Int) ≤ (m : Int) - 1)]
  show ((((m : Int).toNat) &&& ((m : Int) - 1).toNat : Nat) : Int) = _
  rw [Int.toNat_natCast, show ((m : Int) - 1).toNat = m - 1 by omega]
theorem bitAnd_neg {m : Nat} (h : 0 < m) : Builtin.bitAnd (m : Int) (-(m : Int)) = ((m - (m &&& (m - 1)) : Nat) : Int) := by
  unfold Builtin.bitAnd
  rw [decide_eq_true (by omega : (0 : Int) ≤ (m : Int)), decide_eq_false (by omega : ¬ (0 : Int) ≤ -(m : Int))]
  show (m : Int) - ((((m : Int).toNat) &&& (Builtin.bitNot (-(m : Int))).toNat : Nat) : Int) = _
  rw [Int.toNat_natCast, show (Builtin.bitNot (-(m : Int))).toNat = m - 1 by unfold Builtin.bitNot; omega]
  have := and_lt h
  omega
/-- the mask of a list of numbers -/
def maskOf (ns : List Int) : Nat := ns.foldl (fun m n => m ||| 2 ^ n.toNat) 0
theorem maskOf_snoc (ns : List Int) (n : Int) : maskOf (ns ++ [n]) = maskOf ns ||| 2 ^ n.toNat := by unfold maskOf; rw [List.foldl_append]; rfl
theorem tb_fold (j : Nat) : ∀ (ns : List Int) (m : Nat), (ns.foldl (fun m n => m ||| 2 ^ n.toNat) m).testBit j = (m.testBit j || ns.any fun n => decide (n.toNat = j))
  | [], m => by simp
  | n :: ns, m => by
    rw [List.foldl_cons, tb_fold j ns, Nat.testBit_or, Nat.testBit_two_pow, List.any_cons, Bool.or_assoc]
theorem tb_maskOf (ns : List Int) (j : Nat) : (maskOf ns).testBit j = ns.any fun n => decide (n.toNat = j) := by
  unfold maskOf
  rw [tb_fold, Nat.zero_testBit, Bool.false_or]
theorem tb_maskOf_mem {ns : List Int} (h : ∀ n ∈ ns, 0 ≤ n) (j : Nat) : (maskOf ns).testBit j = true ↔ (j : Int) ∈ ns := by
  rw [tb_maskOf, List.any_eq_true]
  constructor
  · rintro ⟨n, hn, e⟩
    have e := of_decide_eq_true e
    have := h n hn
    have : n = (j : Int) := by omega
    rw [← this]; exact hn
  · intro hj
    exact ⟨_, hj, by simp⟩
theorem maskOf_lt {ns : List Int} (h : ∀ n ∈ ns, 0 ≤ n ∧ n < 64) : maskOf ns < 2 ^ 64 := by
  apply Nat.lt_pow_two_of_testBit
  intro i hi
  cases e : (maskOf ns).testBit i with
  | false => rfl
  | true =>
    have := (tb_maskOf_mem (fun n hn => (h n hn).1) i).mp e
    have := (h _ this).2
    omega
theorem maskOf_perm {ns ms : List Int} (h : ns.Perm ms) : maskOf ns = maskOf ms := by
  apply Nat.eq_of_testBit_eq
  intro i
  rw [tb_maskOf, tb_maskOf]
  exact h.any_eq
/-- a number is the sum of its bits -/
def sumTo (m n : Nat) : Nat := ((List.range n).map fun j => if m.testBit j then 2 ^ j else 0).sum
theorem sumTo_eq (m : Nat) : ∀ n, sumTo m n = m % 2 ^ n
  | 0 => by simp [sumTo, Nat.mod_one]
  | n + 1 => by
    have ih := sumTo_eq m n
    unfold sumTo at ih ⊢
    rw [List.range_succ, List.map_append, List.sum_append, ih]
    have hm : m % 2 ^ (n + 1) = m % 2 ^ n + 2 ^ n * (m / 2 ^ n % 2) := by rw [Nat.pow_succ, Nat.mod_mul]
    rw [hm, List.map_singleton, List.sum_singleton]
    by_cases e : m.testBit n = true
    · rw [if_pos e, (tb_iff m n).mp e, Nat.mul_one]
    · rw [if_neg e]
      have h2 : ¬ m / 2 ^ n % 2 = 1 := fun z => e ((tb_iff m n).mpr z)
      have h3 : m / 2 ^ n % 2 = 0 := by omega
      rw [h3, Nat.mul_zero]
theorem sum_nums {m : Nat} (h : m < 2 ^ 64) : ((nums m).map fun (j : Nat) => (2 : Int) ^ j).sum = (m : Int) := by
  have e : ∀ l : List Nat, ((l.filter m.testBit).map fun (j : Nat) => (2 : Int) ^ j).sum = (((l.map fun j => if m.testBit j then 2 ^ j else 0).sum : Nat) : Int) := fun l => by
    induction l with
    | nil => rfl
    | cons x l ih =>
      rw [List.map_cons, List.sum_cons, Int.natCast_add, ← ih]
      cases hx : m.testBit x with
      | true => rw [List.filter_cons_of_pos (by exact hx), List.map_cons, List.sum_cons, if_pos rfl, pow_cast]
      | false => rw [List.filter_cons_of_neg (by rw [hx]; decide), if_neg Bool.false_ne_true]; simp
  unfold nums
  rw [e]
  have := sumTo_eq m 64
  unfold sumTo at this
  rw [this, Nat.mod_eq_of_lt h]
/-- the powers of 2 -/
def pows (n : Nat) : List Int := (List.range n).map fun (i : Nat) => (2 : Int) ^ i
theorem pows_succ (n : Nat) : pows (n + 1) = pows n ++ [(2 : Int) ^ n] := by unfold pows; rw [List.range_succ, List.map_append]; rfl
theorem pows_len (n : Nat) : (pows n).length = n := by unfold pows; rw [List.length_map, List.length_range]
theorem pows_get {n i : Nat} (h : i < n) : (pows n)[i]? = some ((2 : Int) ^ i) := by
  unfold pows
  rw [List.getElem?_map, List.getElem?_range h]
  rfl
end Mk

set_option Elab.async false
set_option linter.all false
set_option maxRecDepth 100000
set_option maxHeartbeats 1000000
/-! Same: what the laws' comparing def asks of data -/
namespace Sat
open PySem PySem.Spec PyProof.Rows L2
open Evl (Ex)
/-- data that may be compared -/
inductive okD : D → Prop
  | non : okD (.v .non)
  | bl (b : Bool) : okD (.v (.bl b))
  | int (i : Int) : okD (.v (.int i))
  | str (s : Str) : okD (.v (.str s))
  | lst {ds : List D} : (∀ d ∈ ds, okD d) → okD (.lst ds)
  | tup {ds : List D} : (∀ d ∈ ds, okD d) → okD (.tup ds)
def tyN : D → String
  | .lst _ => "list"
  | .tup _ => "tuple"
  | .v .non => "NoneType"
  | .v (.bl _) => "bool"
  | .v (.int _) => "int"
  | .v (.str _) => "str"
  | _ => ""
def isiS (t n : String) : Bool := t == n || (t == "bool" && n == "int")
def isi (d : D) (n : String) : Bool := isiS (tyN d) n
theorem kitS : ∀ t ∈ ["list", "tuple", "NoneType", "bool", "int", "str"], ∀ n ∈ ["list", "tuple", "bool", "int", "str"], kitB t n = some (isiS t n) := by decide +kernel
theorem tyN_mem {d : D} (h : okD d) : tyN d ∈ ["list", "tuple", "NoneType", "bool", "int", "str"] := by cases h <;> simp [tyN]
def kids : D → List D
  | .lst ds => ds
  | .tup ds => ds
  | _ => []
def lev (d : D) : Nat → List D
  | 0 => [d]
  | n + 1 => (lev d n).flatMap kids
theorem lev_ok {d : D} (h : okD d) : ∀ n, ∀ e ∈ lev d n, okD e
  | 0, e, he => by rw [List.mem_singleton.mp he]; exact h
  | n + 1, e, he => by
    obtain ⟨f, h1, h2⟩ := List.mem_flatMap.mp he
    cases lev_ok h n f h1 with
    | lst k => exact k e h2
    | tup k => exact k e h2
    | non => cases h2
    | bl => cases h2
    | int => cases h2
    | str => cases h2
section
variable {K : PySem.W.Frag} {As : List A} {H : Hp} {σ : L2.St} {x y v : V} {d : D}
theorem kit_isi {K : PySem.W.Frag} (h : okD d) {n : String} (hn : n ∈ ["list", "tuple", "bool", "int", "str"]) : PySem.W.kitOne K (.type (tyN d)) (.type n) = some (isi d n) := kit_ty (kitS _ (tyN_mem h) n hn)
theorem ty_of (s : sat As H) (e : Ent As H x d) (h : okD d) : TyX K H x (.type (tyN d)) := by
  cases h with
  | non => obtain rfl := s.flat e; exact .base .non
  | bl b => obtain rfl := s.flat e; exact .base (.bl b)
  | int i => obtain rfl := s.flat e; exact .base (.int i)
  | str z => obtain rfl := s.flat e; exact .base (.str z)
  | lst k =>
    cases s.of e with
    | lst h1 h2 => exact .base (.lst h1)
  | tup k =>
    cases s.of e with
    | tup h1 h2 => exact .base (.tup h1)
theorem e_isi {i : Nat} {n : String} (s : sat As H) (e : Ent As H x d) (h : okD d) (hv : σ[i]? = some (some x)) (hn : n ∈ ["list", "tuple", "bool", "int", "str"] := by decide) : E1 (tCB (rIsi K) (tCons (tVar i) (tCons (tC (.ty n)) tNil))) σ H (.bl (isi d n)) :=
  e_cb (e_cons (e_var hv) (e_cons e_c e_nil)) (c_isi (ty_of s e h) (kit_isi h hn))
theorem e_isiT {i : Nat} {n : String} {b : Bool} (s : sat As H) (e : Ent As H x d) (h : okD d) (hb : isiS (tyN d) n = b) (hv : σ[i]? = some (some x) := by rfl) (hn : n ∈ ["list", "tuple", "bool", "int", "str"] := by decide) : E1 (tCB (rIsi K) (tCons (tVar i) (tCons (tC (.ty n)) tNil))) σ H (.bl b) :=
  e_is (e_isi s e h hv hn) (by rw [← hb]; rfl)
theorem s_ll : isiS "list" "list" = true := by decide
theorem s_lt : isiS "list" "tuple" = false := by decide
theorem s_tl : isiS "tuple" "list" = false := by decide
theorem s_tt : isiS "tuple" "tuple" = true := by decide
theorem s_nl : isiS "NoneType" "list" = false := by decide
theorem s_nt : isiS "NoneType" "tuple" = false := by decide
theorem s_bl : isiS "bool" "list" = false := by decide
theorem s_bt : isiS "bool" "tuple" = false := by decide
theorem s_bb : isiS "bool" "bool" = true := by decide
theorem s_bi : isiS "bool" "int" = true := by decide
theorem s_il : isiS "int" "list" = false := by decide
theorem s_it : isiS "int" "tuple" = false := by decide
theorem s_ib : isiS "int" "bool" = false := by decide
theorem s_ii : isiS "int" "int" = true := by decide
theorem s_sl : isiS "str" "list" = false := by decide
theorem s_st : isiS "str" "tuple" = false := by decide
theorem s_sb : isiS "str" "bool" = false := by decide
theorem s_si : isiS "str" "int" = false := by decide
theorem s_ss : isiS "str" "str" = true := by decide
def prs (es : List D) : List D := es.map fun e => .tup [e, e]
theorem prs_len (es : List D) : (prs es).length = es.length := List.length_map ..
theorem prs_app (es fs : List D) : prs (es ++ fs) = prs es ++ prs fs := List.map_append
theorem prs_get {es : List D} {j : Nat} {p : D} (h : (prs es)[j]? = some p) : ∃ e, es[j]? = some e ∧ p = .tup [e, e] := by
  unfold prs at h
  rw [List.getElem?_map] at h
  cases q : es[j]? with
  | none => rw [q] at h; cases h
  | some e => rw [q] at h; cases h; exact ⟨e, rfl, rfl⟩
theorem flat_take_le {es : List D} (j : Nat) : ((es.take j).flatMap kids).length ≤ (es.flatMap kids).length := by
  have e : es.flatMap kids = (es.take j).flatMap kids ++ (es.drop j).flatMap kids := by rw [← List.flatMap_append, List.take_append_drop]
  rw [e, List.length_append]
  omega
theorem flat_snoc {es : List D} {j : Nat} {e : D} (h : es[j]? = some e) : (es.take (j + 1)).flatMap kids = (es.take j).flatMap kids ++ kids e := by
  rw [takeS h, List.flatMap_append]
  simp
theorem lev_le {d : D} {n : Nat} (h : lev d n = []) : ∀ {i : Nat}, n ≤ i → lev d i = []
  | 0, hi => by
    have : n = 0 := by omega
    subst this; exact h
  | i + 1, hi => by
    by_cases e : n = i + 1
    · rw [← e]; exact h
    · show (lev d i).flatMap kids = []
      rw [lev_le h (by omega)]
      rfl
theorem refL (s : sat As H) {ds : List D} (e : Ent As H x (.lst ds)) : ∃ a, x = .ref a := by
  cases s.of e with
  | lst _ _ => exact ⟨_, rfl⟩
theorem refT (s : sat As H) {ds : List D} (e : Ent As H x (.tup ds)) : ∃ a, x = .ref a := by
  cases s.of e with
  | tup _ _ => exact ⟨_, rfl⟩
/-- a, b = a pair -/
theorem g_pair {i j : Nat} {d1 d2 : D} {Q : L2.St → Hp → Prop} (s : sat As H) (e : Ent As H v (.tup [d1, d2])) (k : ∀ x y, sat (.rp x d1 :: .rp y d2 :: As) H → Q ((σ.set i (some x)).set j (some y)) H) : gTup K 2 (gCons (gName i) (gCons (gName j) gNil)) v σ H Q := by
  obtain ⟨a, rfl⟩ := refT s e
  obtain ⟨xs, h1, h2, h3⟩ := s.rtv e
  obtain ⟨x, y, rfl⟩ : ∃ x y, xs = [x, y] := by
    cases xs with
    | nil => cases h2
    | cons x xs =>
      cases xs with
      | nil => cases h2
      | cons y xs =>
        cases xs with
        | nil => exact ⟨x, y, rfl⟩
        | cons _ _ => cases h2
  have ex : Ent As H x d1 := h3.get (i := 0) rfl rfl
  have ey : Ent As H y d2 := h3.get (i := 1) rfl rfl
  have s1 := s.rp ey
  have s2 := s1.rp (x := x) (d := d1) (fun F q => ex F ⟨q.ex, fun z hz => q.ok z (List.mem_cons_of_mem _ hz), fun i j x y a e1 e2 a1 a2 => by
    have := q.inj (i + 1) (j + 1) x y a (by rw [List.getElem?_cons_succ]; exact e1) (by rw [List.getElem?_cons_succ]; exact e2) a1 a2
    omega⟩)
  exact ⟨a, [x, y], rfl, .inl (.inl h1), rfl, x, [y], rfl, y, [], rfl, rfl, k x y s2⟩
/-! how data of a few levels are bounded -/
theorem lev_flat {v : V} : lev (.v v) 1 = [] := rfl
theorem lev_flat_le {v : V} (k : Nat) : (lev (.v v) k).length ≤ 100000 := by
  cases k with
  | zero => show 1 ≤ 100000; omega
  | succ k => rw [lev_le (n := 1) rfl (by omega)]; exact Nat.zero_le _
theorem kids_flat : ∀ {es : List D}, (∀ e ∈ es, kids e = []) → es.flatMap kids = []
  | [], _ => rfl
  | e :: es, h => by
    rw [List.flatMap_cons, h e (List.mem_cons_self ..), kids_flat fun f hf => h f (List.mem_cons_of_mem _ hf)]
    rfl
theorem lev_ints {ns : List Int} : lev (dIs ns) 2 = [] := by
  show (([dIs ns] : List D).flatMap kids).flatMap kids = []
  rw [show ([dIs ns] : List D).flatMap kids = ns.map dI by simp [kids]]
  exact kids_flat fun e he => by
    obtain ⟨n, _, rfl⟩ := List.mem_map.mp he
    rfl
theorem lev_ints_le {ns : List Int} (h : ns.length ≤ 100000) (k : Nat) : (lev (dIs ns) k).length ≤ 100000 := by
  match k with
  | 0 => show 1 ≤ 100000; omega
  | 1 =>
    show (([dIs ns] : List D).flatMap kids).length ≤ 100000
    rw [show ([dIs ns] : List D).flatMap kids = ns.map dI by simp [kids], List.length_map]
    exact h
  | k + 2 => rw [lev_le lev_ints (by omega)]; exact Nat.zero_le _
theorem ok_ints {ns : List Int} : okD (dIs ns) := .lst fun d hd => by
  obtain ⟨n, _, rfl⟩ := List.mem_map.mp hd
  exact .int n
theorem vw_rp {a : Addr} {ds : List D} (s : sat As H) (w : Vw As a ds) : Rp H (.ref a) (.lst ds) := by
  obtain ⟨xs, h1, h2, h3⟩ := s.vw w
  obtain ⟨F, q⟩ := s
  exact .lst h1 ((h3 F q).mono q.ex)
end
end Sat

set_option Elab.async false
set_option linter.all false
set_option maxRecDepth 100000
set_option maxHeartbeats 1000000
/-! ListRev: list(reversed(xs)) -/
namespace LRv
open PySem PySem.Spec PyProof.Rows
section
variable {prog : Program} {w : World} {A : Around} {E : Value → Shared → Prop} {s : Shared}
theorem ext_rev {R : Result → Shared → Prop} {it l S : Addr} {items : Array Value} {c₀ : Nat} {res : Value} (hh : A.handled = none) (hit : s.heap.IsRevIter it l ((items.size : Int) - 1)) (hl : s.heap.IsList l items) (hne : l ≠ it) (hn : items.size ≤ sizeLine)
    (hS : s.heap.get? S = some { cls := .type "list", data := .seq #[] c₀ }) (hSi : S ≠ it) (hSl : S ≠ l)
    (hR : ∀ h' tk acc' c', (∀ b o, b ≠ S → b ≠ it → s.heap.get? b = some o → h'.get? b = some o) → h'.get? S = some { cls := .type "list", dict := none, data := .seq acc' c', slots := #[] } →
      ItemsOf (fun i v => items[items.size - 1 - i]? = some v) acc' items.size → R (.ok (.ret res)) { s with heap := h', toks := tk }) :
    wpAny (model prog w) A.in1 (Builtin.List.listExtendWith (.ref S) (.ref it) res)
      (fun fin s' => match fin with | .done f => R (.ok f) s' | .again c' => c'.quiet = true ∧ codeAny (model prog w) A c' R s') (fun e s' => R (.error e) s') s := by
  have W := (Walks.listRev (prog := prog) (w := w) (A := A.in1) hh it l hne items).toS
  have hSf : S ∉ [it, l] := by simp only [List.mem_cons, List.not_mem_nil, or_false, not_or]; exact ⟨hSi, hSl⟩
  have hT : s.TypeIs (.ref it) "list_reverseiterator" := Heap.IsRevIter.typeIs hit
  have h1 : Builtin.List.listSameRef (.ref S) (.ref it) = false := by simp [Builtin.List.listSameRef, hSi]
  unfold Builtin.List.listExtendWith
  refine wpAny_bind (wpAny_typeOf hT ?_)
  rw [if_neg (by rw [h1]; decide)]
  refine wpAny_bind (wpAny_pyIter_revIter hit ?_)
  refine wpAny_bind (wpAny_holding ?_)
  unfold Builtin.List.listLengthHint
  refine wpAny_bind (wpAny_specialOf hT RT.nolen_lri ?_)
  show wpAny _ A.in1 (specialOf (Value.ref it) (Str.ofString "__length_hint__") >>= _) _ _ _
  refine wpAny_bind (wpAny_specialOf hT RT.hint_lri ?_)
  generalize hid : ("list_reverseiterator.__length_hint__" : String) = id0
  wp_delta
  rw [show splitId id0 = some ("list_reverseiterator", "__length_hint__") from by subst hid; decide +kernel]
  subst hid
  refine wpAny_bind (wpAny_isInstance (b := true) hT (by rw [isSubtype_type]; kernel_rfl) ?_)
  refine wpAny_pure ?_
  rw [if_neg (by decide)]
  have e0 : ((items.size : Nat) : Int) - 1 - ((0 : Nat) : Int) = (items.size : Int) - 1 := by omega
  refine wpAny_pure ⟨plainId_quiet F.plain_extend_loop _, codeAny_extend_loopS W hn _ hSf _ items.size 0 _ _ _ rfl (Nat.zero_le _) ⟨Nat.zero_le _, by rw [e0]; exact hit, hl⟩ hS (ItemsOf.nil _) fun s' acc' c' hm hS' hacc => ?_⟩
  rw [Moved.eq_with hm]
  refine hR s'.heap s'.toks acc' c' (fun b o hb hb2 e => hm.heap b o (fun hmem => ?_) e) hS' hacc
  rcases List.mem_cons.mp hmem with e' | hmem
  · exact hb e'
  · exact hb2 (List.mem_singleton.mp hmem)
theorem init_rev {R : Result → Shared → Prop} {it l S : Addr} {items : Array Value} (hh : A.handled = none) (hit : s.heap.IsRevIter it l ((items.size : Int) - 1)) (hl : s.heap.IsList l items) (hne : l ≠ it) (hn : items.size ≤ sizeLine)
    (hS : s.heap.get? S = some { cls := .type "list", data := .seq #[] }) (hSi : S ≠ it) (hSl : S ≠ l)
    (hR : ∀ h' tk acc' c', (∀ b o, b ≠ S → b ≠ it → s.heap.get? b = some o → h'.get? b = some o) → h'.get? S = some { cls := .type "list", dict := none, data := .seq acc' c', slots := #[] } →
      ItemsOf (fun i v => items[items.size - 1 - i]? = some v) acc' items.size → R (.ok (.ret .none)) { s with heap := h', toks := tk }) :
    wpAny (model prog w) A.in1 (Builtin.«list.__init__» ⟨[.ref S, .ref it], []⟩)
      (fun fin s' => match fin with | .done f => R (.ok f) s' | .again c' => c'.quiet = true ∧ codeAny (model prog w) A c' R s') (fun e s' => R (.error e) s') s := by
  show wpAny _ _ (do let old ← Builtin.List.listItems (.ref S); Builtin.List.listUpdate (.ref S) (fun _ => #[]); letGo old.toList.reverse; Builtin.List.listExtendWith (.ref S) (.ref it) .none) _ _ s
  refine wpAny_bind ?_
  unfold Builtin.List.listItems
  refine wpAny_bind (wpAny_seqItems hS rfl (wpAny_pure ?_))
  show wpAny _ _ (updateSeq S (fun _ => #[]) >>= fun _ => letGo (#[] : Array Value).toList.reverse >>= fun _ => Builtin.List.listExtendWith (.ref S) (.ref it) .none) _ _ s
  refine wpAny_bind (wpAny_updateSeq hS rfl ?_)
  have hS₂ := Heap.get?_update_self (Obj.mapSeq (fun _ => (#[] : Array Value))) hS rfl
  have oth : ∀ b o, b ≠ S → s.heap.get? b = some o → (s.heap.update S (Obj.mapSeq (fun _ => (#[] : Array Value)))).get? b = some o :=
    fun b o hb e => (Heap.get?_update_other _ _ (Ne.symm hb)).trans e
  refine wpAny_bind (wpAny_letGo ?_)
  obtain ⟨o1, n1, m1⟩ := id hit
  obtain ⟨o2, n2, m2⟩ := id hl
  refine ext_rev hh ⟨o1, oth _ _ (Ne.symm hSi) n1, m1⟩ ⟨o2, oth _ _ (Ne.symm hSl) n2, m2⟩ hne hn hS₂ hSi hSl fun h' tk acc' c' hk hS' hacc => ?_
  exact hR h' tk acc' c' (fun b o hb hb2 e => hk b o hb hb2 (oth b o hb e)) hS' hacc
theorem call_list_rev {Q : Value → Shared → Prop} {it l : Addr} {items : Array Value} (hh : A.handled = none) (hit : s.heap.IsRevIter it l ((items.size : Int) - 1)) (hl : s.heap.IsList l items) (hne : l ≠ it) (hn : items.size ≤ sizeLine)
    (hQ : ∀ h' tk acc' c', (∀ b o, b ≠ it → s.heap.get? b = some o → h'.get? b = some o) → h'.get? s.heap.objs.size = some { cls := .type "list", dict := none, data := .seq acc' c', slots := #[] } →
      ItemsOf (fun i v => items[items.size - 1 - i]? = some v) acc' items.size → Q (.ref s.heap.objs.size) { s with heap := h', toks := tk }) :
    wpAny (model prog w) A (call (.type "list") [.ref it]) Q E s := by
  obtain ⟨o1, n1, m1⟩ := id hit
  obtain ⟨o2, n2, m2⟩ := id hl
  refine callType_codes (Q₁ := fun obj s₁ => obj = .ref s.heap.objs.size ∧ s₁ = { s with heap := s.heap.push { cls := .type "list", data := .seq #[] } }) F.called_list (F.typeCall_list_1 _) F.entry_list_init
    (code_list_new _ ⟨rfl, rfl⟩) fun obj s₁ h₁ => ?_
  obtain ⟨rfl, rfl⟩ := h₁
  have hS : (s.heap.push { cls := .type "list", data := .seq #[] }).get? s.heap.objs.size = some { cls := .type "list", data := .seq #[] } := Heap.get?_push_size _ rfl
  refine ⟨⟨_, hS, rfl⟩, F.args_list_init_2 _ _, init_rev (A := A.in1) hh (it := it) (l := l) (items := items) ⟨o1, Heap.get?_push_of_some _ n1, m1⟩ ⟨o2, Heap.get?_push_of_some _ n2, m2⟩ hne hn hS (Nat.ne_of_gt (Heap.lt_size n1)) (Nat.ne_of_gt (Heap.lt_size n2)) fun h' tk acc' c' hk hS' hacc => ?_⟩
  exact ⟨rfl, hQ h' tk acc' c' (fun b o hb e => hk b o (Nat.ne_of_lt (Heap.lt_size e)) hb (Heap.get?_push_of_some _ e)) hS' hacc⟩
end
end LRv
namespace Sat
open PySem PySem.Spec PyProof.Rows L2
open Evl (Ex)
def tLstRev (K : PySem.W.Frag) (te : TE) : TE := fun σ H Q => te σ H fun v H1 => ∃ (a : Addr) (xs : List V), v = .ref a ∧ SqL K H1 a xs ∧ ∀ q, H1 q = none → Q (.ref q) (upd H1 q (.lst xs.reverse))
theorem pe_listRev {X : Cx} {e : Expr} {te : TE} {p p2 pos pos2 : Pos} (hc : X.calm = true) (hg : Gl X "list") (hm : X.mg "list" = none) (hg2 : Gl X "reversed") (hm2 : X.mg "reversed" = none) (he : PE X e te)
    (hs : starEach [e] X.env = (false, eval e X.env) :: starEach [] X.env := by rfl)
    (hs2 : starEach [.Call (.Name "reversed" p2) [e] [] pos2] X.env = (false, eval (.Call (.Name "reversed" p2) [e] [] pos2) X.env) :: starEach [] X.env := by rfl) :
    PE X (.Call (.Name "list" p) [.Call (.Name "reversed" p2) [e] [] pos2] [] pos) (tLstRev X.K te) := by
  refine ⟨fun pins s σ H Q I h => ?_⟩
  refine Call_ (ld_blt I hg hm boot_list (PyProof.Rows.callWith_type1 (args_cons (Call_ (ld_blt I hg2 hm2 PyProof.Rows.boot_reversed (PyProof.Rows.callWith_type1 (args_cons (thn (he.run pins s σ H _ I h) fun u s1 ⟨v, H1, I1, r1, q1⟩ => args_nil ?_) hs) hs rfl))) hs2) hs2 rfl))
  obtain ⟨a, xs, ev, hq, q⟩ := q1
  subst ev
  obtain rfl : u = Value.ref a := r1
  obtain ⟨its, rv, p', hz⟩ := I1.list hq
  refine call_reversed_list p'.isList (args_nil ?_)
  have k0 : ∀ b o, s1.heap.get? b = some o → (s1.heap.push (revObj a ((its.toArray.size : Int) - 1))).get? b = some o := fun b o e => Heap.get?_push_of_some _ e
  have I2 : Inv X pins σ H1 { s1 with heap := s1.heap.push (revObj a ((its.toArray.size : Int) - 1)) } := I1.kept (t' := s1.toks) k0
  obtain ⟨f0, f1, f2, f3, f4, f5⟩ := I1.fpOk (H' := H1) (b := s1.heap.objs.size) (Nat.le_refl _) (I1.hok.fresh (Nat.le_refl _))
  have hl := p'.isList
  obtain ⟨ol, hol, _⟩ := id hl
  have hne : a ≠ s1.heap.objs.size := Nat.ne_of_lt (Heap.lt_size hol)
  have hn : its.toArray.size ≤ sizeLine := by rw [List.size_toArray, ← rv.length]; exact hz
  refine LRv.call_list_rev (s := { s1 with heap := s1.heap.push (revObj a ((its.toArray.size : Int) - 1)) }) (I1.ok.hd hc) ⟨_, Heap.get?_push_size _ rfl, rfl, rfl⟩ (hl.push _) hne hn fun h' tk acc c' hk hS' hi => ?_
  have hnone : H1 (s1.heap.push (revObj a ((its.toArray.size : Int) - 1))).objs.size = none := I2.hok.fresh (Nat.le_refl _)
  have hSi : s1.heap.objs.size ≠ (s1.heap.push (revObj a ((its.toArray.size : Int) - 1))).objs.size := by rw [Heap.size_push]; omega
  have I3 : Inv X pins σ (upd H1 (s1.heap.push (revObj a ((its.toArray.size : Int) - 1))).objs.size (.lst xs.reverse)) { s1 with heap := (s1.heap.push (revObj a ((its.toArray.size : Int) - 1))).push { cls := .type "list", dict := none, data := .seq acc c', slots := #[] }, toks := tk } :=
    I2.laid (t' := tk) (fun b o e => Heap.get?_push_of_some _ e) (Nat.le_refl _) (show ObjOk X.prog X.w _ _ _ (.lst xs.reverse) from ⟨by rw [List.length_reverse]; exact hz, acc.toList, c', RT.vals_rev rv hi, by rw [Array.toArray_toList]; exact Heap.get?_push_size _ rfl⟩)
  refine ⟨.ref (s1.heap.push (revObj a ((its.toArray.size : Int) - 1))).objs.size, _, I3.turned (h' := h') (t' := tk) (fun b o hb e => ?_) (by rw [upd_ne hSi]; exact f0) f1 f3 f4 f5, rfl, q _ hnone⟩
  by_cases hbS : b = (s1.heap.push (revObj a ((its.toArray.size : Int) - 1))).objs.size
  · subst hbS
    rw [Heap.get?_push_size _ rfl] at e
    cases e
    exact hS'
  · exact hk b o hb (by rw [Heap.get?_push_ne _ _ _ hbS] at e; exact e)
section
variable {K : PySem.W.Frag} {As : List A} {a : Addr} {ds : List Sat.D} {σ : L2.St} {H : Hp} {te : TE} {Q : VK}
theorem g_listRev (s : sat As H) (w : Vw As a ds) (e : E1 te σ H (.ref a)) (k : ∀ p H1, sat (ol p ds.reverse :: As) H1 → Q (.ref p) H1) : tLstRev K te σ H Q := by
  obtain ⟨xs, h1, h2, h3⟩ := s.vw w
  exact e _ ⟨a, xs, rfl, .inl (.inl h1), fun q hq => k q _ (s.newL hq h3.reverse)⟩
end
end Sat

set_option Elab.async false
set_option linter.all false
set_option maxRecDepth 100000
set_option maxHeartbeats 4000000
namespace Law
open PySem PySem.Spec PyProof.Rows L2 Sat
open Evl (Ex)
def topS (i : Nat) : Stmt := PySem.Challenge.pw_fewreaders_k00_masks_of_numbers.main.body.getD i (.Pass ⟨0, 0, 0, 0⟩)
abbrev s_mask_of : Stmt := topS 1
theorem sc_mask_of : FnScope ["numbers", "mask", "number"] ["numbers"] (defScope s_mask_of) := ⟨rfl, rfl, rfl, by decide +kernel, rfl, by decide +kernel, by decide +kernel⟩
abbrev s_members : Stmt := topS 2
theorem sc_members : FnScope ["mask", "number"] ["mask"] (defScope s_members) := ⟨rfl, rfl, rfl, by decide +kernel, rfl, by decide +kernel, by decide +kernel⟩
abbrev s_count_bits : Stmt := topS 3
theorem sc_count_bits : FnScope ["mask", "count"] ["mask"] (defScope s_count_bits) := ⟨rfl, rfl, rfl, by decide +kernel, rfl, by decide +kernel, by decide +kernel⟩
abbrev s_lowest : Stmt := topS 4
theorem sc_lowest : FnScope ["mask"] ["mask"] (defScope s_lowest) := ⟨rfl, rfl, rfl, by decide +kernel, rfl, by decide +kernel, by decide +kernel⟩
abbrev s_law_store : Stmt := topS 6
theorem sc_law_store : FnScope ["script", "cells", "cell"] ["script"] (defScope s_law_store) := ⟨rfl, rfl, rfl, by decide +kernel, rfl, by decide +kernel, by decide +kernel⟩
abbrev s_law_take : Stmt := topS 7
theorem sc_law_take : FnScope ["store", "many", "size", "cells", "prime", "cell", "value", "state", "low", "high", "twice"] ["store", "many"] (defScope s_law_take) := ⟨rfl, rfl, rfl, by decide +kernel, rfl, by decide +kernel, by decide +kernel⟩
abbrev s_law_pick : Stmt := topS 8
theorem sc_law_pick : FnScope ["store", "items"] ["store", "items"] (defScope s_law_pick) := ⟨rfl, rfl, rfl, by decide +kernel, rfl, by decide +kernel, by decide +kernel⟩
abbrev s_law_between : Stmt := topS 9
theorem sc_law_between : FnScope ["store", "low", "high", "sort"] ["store", "low", "high"] (defScope s_law_between) := ⟨rfl, rfl, rfl, by decide +kernel, rfl, by decide +kernel, by decide +kernel⟩
abbrev s_law_size : Stmt := topS 10
theorem sc_law_size : FnScope ["store", "least", "most", "sort"] ["store", "least", "most"] (defScope s_law_size) := ⟨rfl, rfl, rfl, by decide +kernel, rfl, by decide +kernel, by decide +kernel⟩
abbrev s_law_mixed : Stmt := topS 11
theorem sc_law_mixed : FnScope ["store", "items", "sort", "row", "item", "place"] ["store", "items"] (defScope s_law_mixed) := ⟨rfl, rfl, rfl, by decide +kernel, rfl, by decide +kernel, by decide +kernel⟩
abbrev s_law_some : Stmt := topS 12
theorem sc_law_some : FnScope ["store", "items", "sort", "row", "item"] ["store", "items"] (defScope s_law_some) := ⟨rfl, rfl, rfl, by decide +kernel, rfl, by decide +kernel, by decide +kernel⟩
abbrev s_law_loose : Stmt := topS 13
theorem sc_law_loose : FnScope ["store", "items", "row", "step", "item"] ["store", "items"] (defScope s_law_loose) := ⟨rfl, rfl, rfl, by decide +kernel, rfl, by decide +kernel, by decide +kernel⟩
abbrev s_law_numbers : Stmt := topS 14
theorem sc_law_numbers : FnScope ["store", "many", "top", "row", "step"] ["store", "many", "top"] (defScope s_law_numbers) := ⟨rfl, rfl, rfl, by decide +kernel, rfl, by decide +kernel, by decide +kernel⟩
abbrev s_law_is_number : Stmt := topS 15
theorem sc_law_is_number : FnScope ["value"] ["value"] (defScope s_law_is_number) := ⟨rfl, rfl, rfl, by decide +kernel, rfl, by decide +kernel, by decide +kernel⟩
abbrev s_law_same : Stmt := topS 16
theorem sc_law_same : FnScope ["actual", "expected", "left", "step", "longer", "one", "two", "at"] ["actual", "expected"] (defScope s_law_same) := ⟨rfl, rfl, rfl, by decide +kernel, rfl, by decide +kernel, by decide +kernel⟩
abbrev s_law_powers : Stmt := topS 17
theorem sc_law_powers : FnScope ["powers", "step"] [] (defScope s_law_powers) := ⟨rfl, rfl, rfl, by decide +kernel, rfl, by decide +kernel, by decide +kernel⟩
abbrev s_law_drawn_row : Stmt := topS 18
theorem sc_law_drawn_row : FnScope ["store", "sort", "top"] ["store"] (defScope s_law_drawn_row) := ⟨rfl, rfl, rfl, by decide +kernel, rfl, by decide +kernel, by decide +kernel⟩
abbrev s_law_drawn_whole : Stmt := topS 19
theorem sc_law_drawn_whole : FnScope ["store", "powers", "sort", "whole", "at"] ["store", "powers"] (defScope s_law_drawn_whole) := ⟨rfl, rfl, rfl, by decide +kernel, rfl, by decide +kernel, by decide +kernel⟩
abbrev s_law_whole_right : Stmt := topS 20
theorem sc_law_whole_right : FnScope ["whole", "powers", "named", "rising", "least", "due", "told", "first", "at"] ["whole", "powers", "named"] (defScope s_law_whole_right) := ⟨rfl, rfl, rfl, by decide +kernel, rfl, by decide +kernel, by decide +kernel⟩
abbrev s_law_row_right : Stmt := topS 21
theorem sc_law_row_right : FnScope ["row", "powers", "named", "due", "handed", "told", "row_back", "at"] ["row", "powers", "named"] (defScope s_law_row_right) := ⟨rfl, rfl, rfl, by decide +kernel, rfl, by decide +kernel, by decide +kernel⟩
abbrev s_law : Stmt := topS 22
theorem sc_law : FnScope ["script", "store", "powers", "one", "two", "whole", "named"] ["script"] (defScope s_law) := ⟨rfl, rfl, rfl, by decide +kernel, rfl, by decide +kernel, by decide +kernel⟩
structure Tx (K : PySem.W.Frag) (mg : Str → Option Value) : Prop where
  m_range : mg "range" = none
  m_int : mg "int" = none
  m_len : mg "len" = none
  m_max : mg "max" = none
  m_abs : mg "abs" = none
  m_min : mg "min" = none
  m_list : mg "list" = none
  m_isinstance : mg "isinstance" = none
  m_bool : mg "bool" = none
  m_tuple : mg "tuple" = none
  m_str : mg "str" = none
  m_sum : mg "sum" = none
  m_reversed : mg "reversed" = none

def sp_law_take : Sp := fun vs H Q _ => ∃ (s c : Addr) (many : Int) (Fr : List A), vs = [.ref s, .int many] ∧ many < 2 ^ 200 ∧ Cl Fr c ∧ sat (sto s c :: Fr) H ∧
  ∀ r H', 0 ≤ r → r < max many 1 → sat (sto s c :: Fr) H' → Q (.int r) H'
theorem sp_law_take_len {vs H Q E} (h : sp_law_take vs H Q E) : vs.length = 2 := by obtain ⟨_, _, _, _, rfl, _⟩ := h; rfl
def sp_law_pick : Sp := fun vs H Q _ => ∃ (s c a : Addr) (Fr : List A) (ns : List Int), vs = [.ref s, .ref a] ∧ Vw Fr a (ns.map dI) ∧ 0 < ns.length ∧ ns.length ≤ 100000 ∧ Cl Fr c ∧ sat (sto s c :: Fr) H ∧
  ∀ n H', n ∈ ns → sat (sto s c :: Fr) H' → Q (.int n) H'
theorem sp_law_pick_len {vs H Q E} (h : sp_law_pick vs H Q E) : vs.length = 2 := by obtain ⟨_, _, _, _, _, rfl, _⟩ := h; rfl
def sp_law_between : Sp := fun vs H Q _ => ∃ (s c : Addr) (lo hi : Int) (Fr : List A), vs = [.ref s, .int lo, .int hi] ∧ lo ≤ hi ∧ hi - lo < 2 ^ 150 ∧ Cl Fr c ∧ sat (sto s c :: Fr) H ∧
  ∀ r H', lo ≤ r → r ≤ hi → sat (sto s c :: Fr) H' → Q (.int r) H'
theorem sp_law_between_len {vs H Q E} (h : sp_law_between vs H Q E) : vs.length = 3 := by obtain ⟨_, _, _, _, _, rfl, _⟩ := h; rfl
def sp_law_size : Sp := fun vs H Q _ => ∃ (s c : Addr) (lo hi : Int) (Fr : List A), vs = [.ref s, .int lo, .int hi] ∧ lo ≤ hi ∧ hi - lo < 2 ^ 150 ∧ Cl Fr c ∧ sat (sto s c :: Fr) H ∧
  ∀ r H', lo ≤ r → r ≤ hi → sat (sto s c :: Fr) H' → Q (.int r) H'
theorem sp_law_size_len {vs H Q E} (h : sp_law_size vs H Q E) : vs.length = 3 := by obtain ⟨_, _, _, _, _, rfl, _⟩ := h; rfl
def sp_law_mixed : Sp := fun vs H Q _ => ∃ (s c a : Addr) (Fr : List A) (ds : List Sat.D), vs = [.ref s, .ref a] ∧ Vw Fr a ds ∧ ds.length ≤ 100000 ∧ Cl Fr c ∧ sat (sto s c :: Fr) H ∧
  ∀ p es H', es.Perm ds → sat (sto s c :: ol p es :: Fr) H' → Q (.ref p) H'
theorem sp_law_mixed_len {vs H Q E} (h : sp_law_mixed vs H Q E) : vs.length = 2 := by obtain ⟨_, _, _, _, _, rfl, _⟩ := h; rfl
def sp_law_some : Sp := fun vs H Q _ => ∃ (s c a : Addr) (Fr : List A) (ds : List Sat.D), vs = [.ref s, .ref a] ∧ Vw Fr a ds ∧ ds.length ≤ 100000 ∧ Cl Fr c ∧ sat (sto s c :: Fr) H ∧
  ∀ p es H', es.Sublist ds → sat (sto s c :: ol p es :: Fr) H' → Q (.ref p) H'
theorem sp_law_some_len {vs H Q E} (h : sp_law_some vs H Q E) : vs.length = 2 := by obtain ⟨_, _, _, _, _, rfl, _⟩ := h; rfl
def sp_law_loose : Sp := fun vs H Q _ => ∃ (s c a : Addr) (Fr : List A) (ns : List Int), vs = [.ref s, .ref a] ∧ Vw Fr a (ns.map dI) ∧ ns.length ≤ 90000 ∧ Cl Fr c ∧ sat (sto s c :: Fr) H ∧
  ∀ p (ms : List Int) H', (∀ m ∈ ms, m ∈ ns) → ms.length ≤ ns.length + 2 → sat (sto s c :: ol p (ms.map dI) :: Fr) H' → Q (.ref p) H'
theorem sp_law_loose_len {vs H Q E} (h : sp_law_loose vs H Q E) : vs.length = 2 := by obtain ⟨_, _, _, _, _, rfl, _⟩ := h; rfl
def sp_law_numbers : Sp := fun vs H Q _ => ∃ (s c : Addr) (many top : Int) (Fr : List A), vs = [.ref s, .int many, .int top] ∧ -90000 ≤ many ∧ many ≤ 90000 ∧ 1 ≤ top ∧ top ≤ 90000 ∧ Cl Fr c ∧ sat (sto s c :: Fr) H ∧
  ∀ p (ms : List Int) H', (∀ m ∈ ms, 0 ≤ m ∧ m < top) → ms.length ≤ many.toNat → sat (sto s c :: ol p (ms.map dI) :: Fr) H' → Q (.ref p) H'
theorem sp_law_numbers_len {vs H Q E} (h : sp_law_numbers vs H Q E) : vs.length = 3 := by obtain ⟨_, _, _, _, _, rfl, _⟩ := h; rfl
def sp_law_drawn_row : Sp := fun vs H Q _ => ∃ (s c : Addr) (Fr : List A), vs = [.ref s] ∧ Cl Fr c ∧ sat (sto s c :: Fr) H ∧
  ∀ p (ms : List Int) H', (∀ m ∈ ms, 0 ≤ m ∧ m < 64) → ms.length ≤ 400 → sat (sto s c :: ol p (ms.map dI) :: Fr) H' → Q (.ref p) H'
theorem sp_law_drawn_row_len {vs H Q E} (h : sp_law_drawn_row vs H Q E) : vs.length = 1 := by obtain ⟨_, _, _, rfl, _⟩ := h; rfl
def sp_mask_of : Sp := fun vs H Q _ => ∃ (a : Addr) (Fr : List A) (ns : List Int), vs = [.ref a] ∧ Vw Fr a (ns.map dI) ∧ (∀ n ∈ ns, 0 ≤ n ∧ n < 64) ∧ sat Fr H ∧ ∀ H', sat Fr H' → Q (.int (Mk.maskOf ns : Nat)) H'
theorem sp_mask_of_len {vs H Q E} (h : sp_mask_of vs H Q E) : vs.length = 1 := by obtain ⟨_, _, _, rfl, _⟩ := h; rfl
def sp_members : Sp := fun vs H Q _ => ∃ (m : Nat) (Fr : List A), vs = [.int (m : Int)] ∧ m < 2 ^ 64 ∧ sat Fr H ∧ ∀ p H', sat (ol p ((Mk.bits m).map dI) :: Fr) H' → Q (.ref p) H'
theorem sp_members_len {vs H Q E} (h : sp_members vs H Q E) : vs.length = 1 := by obtain ⟨_, _, rfl, _⟩ := h; rfl
def sp_count_bits : Sp := fun vs H Q _ => ∃ (m : Nat) (Fr : List A), vs = [.int (m : Int)] ∧ m < 2 ^ 64 ∧ sat Fr H ∧ ∀ H', sat Fr H' → Q (.int ((Mk.nums m).length : Nat)) H'
theorem sp_count_bits_len {vs H Q E} (h : sp_count_bits vs H Q E) : vs.length = 1 := by obtain ⟨_, _, rfl, _⟩ := h; rfl
def sp_law_is_number : Sp := fun vs H Q _ => ∃ (i : Int) (Fr : List A), vs = [.int i] ∧ sat Fr H ∧ ∀ H', sat Fr H' → Q (.bl true) H'
theorem sp_law_is_number_len {vs H Q E} (h : sp_law_is_number vs H Q E) : vs.length = 1 := by obtain ⟨_, _, rfl, _⟩ := h; rfl
def sp_law_same : Sp := fun vs H Q _ => ∃ (x y : V) (d : Sat.D) (Fr : List A) (n : Nat), vs = [x, y] ∧ okD d ∧ n < 64 ∧ lev d n = [] ∧ (∀ k, (lev d k).length ≤ 100000) ∧ sat (.rp x d :: .rp y d :: Fr) H ∧
  ∀ H', sat (.rp x d :: .rp y d :: Fr) H' → Q (.bl true) H'
theorem sp_law_same_len {vs H Q E} (h : sp_law_same vs H Q E) : vs.length = 2 := by obtain ⟨_, _, _, _, _, rfl, _⟩ := h; rfl
def leastV (m : Nat) : V := match (Mk.nums m)[0]? with | none => .non | some (k : Nat) => .int (k : Int)
def dueD (m : Nat) : Sat.D := .lst [dIs (Mk.bits m), dI ((Mk.nums m).length : Nat), .v (leastV m)]
theorem leastV_ok (m : Nat) : okD (.v (leastV m)) := by
  unfold leastV
  split
  · exact .non
  · exact .int _
theorem dueD_ok (m : Nat) : okD (dueD m) := .lst fun d hd => by
  rcases List.mem_cons.mp hd with rfl | hd
  · exact ok_ints
  · rcases List.mem_cons.mp hd with rfl | hd
    · exact .int _
    · rw [List.mem_singleton.mp hd]; exact leastV_ok m
theorem dueD_lev1 (m : Nat) : lev (dueD m) 1 = [dIs (Mk.bits m), dI ((Mk.nums m).length : Nat), .v (leastV m)] := by
  show ([dueD m] : List Sat.D).flatMap kids = _
  simp [kids, dueD]
theorem dueD_lev2 (m : Nat) : lev (dueD m) 2 = (Mk.bits m).map dI := by
  show (lev (dueD m) 1).flatMap kids = _
  rw [dueD_lev1]
  simp [kids]
theorem dueD_lev (m : Nat) : lev (dueD m) 3 = [] := by
  show (lev (dueD m) 2).flatMap kids = _
  rw [dueD_lev2]
  exact kids_flat fun e he => by
    obtain ⟨n, _, rfl⟩ := List.mem_map.mp he
    rfl
theorem dueD_le (m : Nat) (k : Nat) : (lev (dueD m) k).length ≤ 100000 := by
  match k with
  | 0 => show 1 ≤ 100000; omega
  | 1 => rw [dueD_lev1]; show 3 ≤ 100000; omega
  | 2 =>
    rw [dueD_lev2, List.length_map, Mk.bits_len]
    have := Mk.nums_le m
    omega
  | k + 3 => rw [lev_le (dueD_lev m) (by omega)]; exact Nat.zero_le _
theorem told_rp {As : List A} {H : Hp} {m : Nat} {t r : Addr} {n : Int} (s : sat As H) (i j : Nat) (hn : n = ((Mk.nums m).length : Nat)) (e1 : As[i]? = some (pt t (.lst [.ref r, .int n, leastV m])) := by rfl) (e2 : As[j]? = some (ol r ((Mk.bits m).map dI)) := by rfl) : Rp H (.ref t) (dueD m) := by
  subst hn
  obtain ⟨o, _, h1, rfl, _⟩ := s.own i e1
  exact .lst h1 (.cons (vw_rp s (.o j e2)) (.cons (.v _) (.cons (.v _) .nil)))
theorem same_any {As : List A} {H : Hp} {x y : V} {d : Sat.D} {n : Nat} {Q : VK} {E : XK} (s : sat As H) (r1 : Rp H x d) (r2 : Rp H y d) (ok : okD d) (hn : n < 64) (hl : lev d n = []) (hz : ∀ k, (lev d k).length ≤ 100000) (k : ∀ H', sat As H' → Q (.bl true) H') : sp_law_same [x, y] H Q E :=
  ⟨x, y, d, [.fr H], n, rfl, ok, hn, hl, hz, sat.all (.cons r1 (.cons r2 .nil)), fun H' h' => k H' (s.back h' 2)⟩
theorem same_int {As : List A} {H : Hp} {i : Int} {Q : VK} {E : XK} (s : sat As H) (k : ∀ H', sat As H' → Q (.bl true) H') : sp_law_same [.int i, .int i] H Q E := same_any s (.v _) (.v _) (.int i) (by decide : 1 < 64) lev_flat lev_flat_le k
theorem same_ints {As : List A} {H : Hp} {a b : Addr} {ns : List Int} {Q : VK} {E : XK} (s : sat As H) (w : Vw As a (ns.map dI)) (w' : Vw As b (ns.map dI)) (hl : ns.length ≤ 100000) (k : ∀ H', sat As H' → Q (.bl true) H') : sp_law_same [.ref a, .ref b] H Q E := same_any s (vw_rp s w) (vw_rp s w') ok_ints (by decide : 2 < 64) lev_ints (lev_ints_le hl) k
theorem bits_get {m k : Nat} (h : (Mk.nums m)[0]? = some k) : atI ((Mk.bits m).map dI) 0 = some (.v (.int (k : Int))) := atI_at 0 rfl (by unfold Mk.bits; rw [List.getElem?_map, List.getElem?_map, h]; rfl)
def sp_lowest : Sp := fun vs H Q _ => ∃ (m : Nat) (Fr : List A), vs = [.int (m : Int)] ∧ m < 2 ^ 64 ∧ sat Fr H ∧ ∀ H', sat Fr H' → Q (leastV m) H'
theorem sp_lowest_len {vs H Q E} (h : sp_lowest vs H Q E) : vs.length = 1 := by obtain ⟨_, _, rfl, _⟩ := h; rfl
def sp_law_store (K : PySem.W.Frag) : Sp := fun vs H Q _ => ∃ (a : Addr) (ns : List Int), vs = [.ref a] ∧ SqL K H a (ns.map V.int) ∧ ns.length ≤ 63 ∧
  ∀ s c H', sat [sto s c, ol c (ns.map dI)] H' → Q (.ref s) H'
theorem sp_law_store_len {K : PySem.W.Frag} {vs H Q E} (h : sp_law_store K vs H Q E) : vs.length = 1 := by obtain ⟨_, _, rfl, _⟩ := h; rfl
def sp_law_powers : Sp := fun vs H Q _ => ∃ (Fr : List A), vs = [] ∧ sat Fr H ∧ ∀ p H', sat (ol p ((Mk.pows 64).map dI) :: Fr) H' → Q (.ref p) H'
theorem sp_law_powers_len {vs H Q E} (h : sp_law_powers vs H Q E) : vs.length = 0 := by obtain ⟨_, rfl, _⟩ := h; rfl
def sp_law_drawn_whole : Sp := fun vs H Q _ => ∃ (s c a : Addr) (Fr : List A), vs = [.ref s, .ref a] ∧ Vw Fr a ((Mk.pows 64).map dI) ∧ Cl Fr c ∧ sat (sto s c :: Fr) H ∧
  ∀ (r : Nat) H', r < 2 ^ 64 → sat (sto s c :: Fr) H' → Q (.int (r : Int)) H'
theorem sp_law_drawn_whole_len {vs H Q E} (h : sp_law_drawn_whole vs H Q E) : vs.length = 2 := by obtain ⟨_, _, _, _, rfl, _⟩ := h; rfl
def sp_law_whole_right : Sp := fun vs H Q _ => ∃ (m : Nat) (a : Addr) (b : Bool) (Fr : List A), vs = [.int (m : Int), .ref a, .bl b] ∧ m < 2 ^ 64 ∧ Vw Fr a ((Mk.pows 64).map dI) ∧ sat Fr H ∧ ∀ H', sat Fr H' → Q (.bl true) H'
theorem sp_law_whole_right_len {vs H Q E} (h : sp_law_whole_right vs H Q E) : vs.length = 3 := by obtain ⟨_, _, _, _, rfl, _⟩ := h; rfl
def sp_law_row_right : Sp := fun vs H Q _ => ∃ (r a : Addr) (b : Bool) (ns : List Int) (Fr : List A), vs = [.ref r, .ref a, .bl b] ∧ Vw Fr r (ns.map dI) ∧ (∀ n ∈ ns, 0 ≤ n ∧ n < 64) ∧ ns.length ≤ 400 ∧ Vw Fr a ((Mk.pows 64).map dI) ∧ sat Fr H ∧ ∀ H', sat Fr H' → Q (.bl true) H'
theorem sp_law_row_right_len {vs H Q E} (h : sp_law_row_right vs H Q E) : vs.length = 3 := by obtain ⟨_, _, _, _, _, rfl, _⟩ := h; rfl
def sp_law (K : PySem.W.Frag) : Sp := fun vs H Q _ => ∃ (a : Addr) (ns : List Int), vs = [.ref a] ∧ SqL K H a (ns.map V.int) ∧ ns.length ≤ 63 ∧ ∀ H', Q (.bl true) H'
theorem sp_law_len {K : PySem.W.Frag} {vs H Q E} (h : sp_law K vs H Q E) : vs.length = 1 := by obtain ⟨_, _, rfl, _⟩ := h; rfl
theorem leastV_zero : leastV 0 = .non := by unfold leastV; rw [Mk.nums_zero]; rfl
theorem leastV_low {m k : Nat} (hm : m < 2 ^ 64) (h1 : m.testBit k = true) (h2 : ∀ j, j < k → m.testBit j = false) : leastV m = .int (k : Int) := by
  unfold leastV
  rw [Mk.nums_head (Nat.lt_of_lt_of_le (Mk.intBits_gt h1) (Mk.intBits_le hm)) h1 h2]

end Law

namespace Law
open PySem PySem.Spec PyProof.Rows L2 Sat
open Evl (Ex)
theorem ok_mask_of {P : Program} {w : World} {K : PySem.W.Frag} {mg : Str → Option Value} {base : Heap} (T : Tx K mg) {f : Addr} {fd : FuncData} (F : Fun K "mask_of" "mask_of" s_mask_of f fd) : FnOk P w K mg base CX0 1 f fd ["numbers"] (sp_mask_of) := by
  have nd := sc_mask_of.nd
  refine F.ok sc_mask_of (fun vs H Q E h => ?_) (fun cdv A outer s H vs Q E hr h => ?_)
  · exact sp_mask_of_len h
  · refine ⟨_, (pss_cons (ps_set (i := 1) nd rfl (.inl rfl) pe_int)
    (pss_cons (ps_for PassesOwn.never rfl (pi_list (pv 0)) (pg_name (i := 2) nd rfl (.inl rfl))
    (pss_one (ps_set (i := 1) nd rfl (.inl rfl) (pe_op op_or (pv 1) (pe_op op_shl pe_int (pv 2))))))
    (pss_one (ps_ret (pv 1))))), ?_⟩
    obtain ⟨a, Fr, ns, rfl, vi, hb, h, q⟩ := h
    refine g_seq (g_set1 e_c ?_)
    refine g_seq ?_
    refine x_forV h vi (e_var rfl) (fun i σ H => ∃ (y2 : Option V), σ = [some (.ref a), some (.int (Mk.maskOf (ns.take i) : Nat)), y2] ∧ sat (Fr) H) ⟨_, rfl, h⟩ (fun _ _ _ _ ⟨_, _, h⟩ => ⟨_, h, vi⟩) ?_ ?_
    · rintro i d x σ H hd ⟨y2, rfl, h⟩ hx
      refine g_name ?_
      obtain ⟨n, hn, rfl⟩ := getI hd
      obtain rfl := h.flat (hx h vi)
      have hnb := hb n (List.mem_of_getElem? hn)
      refine g_set1 (e_op (e_var rfl) (e_op e_c (e_var rfl) (r_shl ⟨by omega, by omega, by decide⟩)) r_I0) ?_
      have e : Builtin.bitOr (Mk.maskOf (ns.take i) : Nat) (1 * 2 ^ n.toNat) = (Mk.maskOf (ns.take (i + 1)) : Nat) := by
        rw [takeS hn, Mk.maskOf_snoc, Int.one_mul, Mk.pow_cast, bitOr_nn (Int.natCast_nonneg _) (Int.natCast_nonneg _), Int.toNat_natCast, Int.toNat_natCast]
      exact ⟨_, by rw [← e]; rfl, h⟩
    rintro σ H ⟨y2, rfl, h⟩
    rw [List.length_map, List.take_length]
    refine g_ret1 (e_var rfl) ?_
    exact q _ h

end Law

namespace Law
open PySem PySem.Spec PyProof.Rows L2 Sat
open Evl (Ex)
theorem ok_members {P : Program} {w : World} {K : PySem.W.Frag} {mg : Str → Option Value} {base : Heap} (T : Tx K mg) {f : Addr} {fd : FuncData} (F : Fun K "members" "members" s_members f fd) : FnOk P w K mg base CX0 1 f fd ["mask"] (sp_members) := by
  have nd := sc_members.nd
  refine F.ok sc_members (fun vs H Q E h => ?_) (fun cdv A outer s H vs Q E hr h => ?_)
  · exact sp_members_len h
  · refine ⟨_, (pss_one (ps_ret (pe_lc (own := [("number", 1)]) (by rfl) nd (pi_range1 rfl T.m_range (pa_cons (pe_bits (pv 0)) pa_nil)) (blkOk_by (own := [("number", 1)]) (N := ["mask", "number"]) (sc := defScope s_members) (by decide +kernel)) (fun _ _ _ _ _ => (pg_name (i := 1) nd rfl (.inl rfl))) (fun _ _ _ _ _ => pts_one (pt_truK (K := K) rfl (pe_op op_and (pe_op op_shr (pv 0) (pv 1)) pe_int))) (fun _ _ _ _ _ => (pv 1))))), ?_⟩
    obtain ⟨m, Fr, rfl, hm, h, q⟩ := h
    have hb := Mk.intBits_le hm
    refine g_ret ?_
    refine x_lcR1 h (e_cons (e_bits (e_var rfl)) e_nil) ⟨by omega, by omega⟩ (fun Dl i H => sat (ol Dl ((Mk.numsTo m i).map fun (j : Nat) => dI (j : Int)) :: Fr) H) (fun Dl H1 h => h) ?_ ?_
    · rintro Dl i H hi h
      refine l_name rfl ?_
      refine l_if (t_truI (e_op (e_op (e_var rfl) (e_var rfl) (r_shr (by omega))) e_c r_I0)) (fun c => ?_) (fun c => ?_)
      · refine g_e (e_var rfl) ?_
        refine x_lcE (d := dI (i : Int)) h 0 rfl Ent.v (by rw [List.length_map, sizeLine_eq]; have := List.length_filter_le m.testBit (List.range i); rw [List.length_range] at this; unfold Mk.numsTo; omega) fun H1 h2 => ?_
        refine (show sat (ol Dl ((Mk.numsTo m (i + 1)).map fun (j : Nat) => dI (j : Int)) :: Fr) _ from ?_)
        rw [Mk.numsTo_yes ((Mk.mem_test m i).mp c), List.map_append]
        exact h2
      · refine (show sat (ol Dl ((Mk.numsTo m (i + 1)).map fun (j : Nat) => dI (j : Int)) :: Fr) _ from ?_)
        rw [Mk.numsTo_no (Bool.eq_false_iff.mpr fun z => c ((Mk.mem_test m i).mpr z))]
        exact h
    rintro Dl H h
    rw [Int.toNat_natCast, Mk.numsTo_all hm] at h
    have h : sat (ol Dl ((Mk.bits m).map dI) :: Fr) H := by unfold Mk.bits; rw [List.map_map]; exact h
    exact q _ _ h

end Law

namespace Law
open PySem PySem.Spec PyProof.Rows L2 Sat
open Evl (Ex)
theorem ok_count_bits {P : Program} {w : World} {K : PySem.W.Frag} {mg : Str → Option Value} {base : Heap} (T : Tx K mg) {f : Addr} {fd : FuncData} (F : Fun K "count_bits" "count_bits" s_count_bits f fd) : FnOk P w K mg base CX0 1 f fd ["mask"] (sp_count_bits) := by
  have nd := sc_count_bits.nd
  refine F.ok sc_count_bits (fun vs H Q E h => ?_) (fun cdv A outer s H vs Q E hr h => ?_)
  · exact sp_count_bits_len h
  · refine ⟨_, (pss_cons (ps_set (i := 1) nd rfl (.inl rfl) pe_int)
    (pss_cons (ps_while PassesOwn.never (pt_tru' (pv 0))
    (pss_cons (ps_set (i := 0) nd rfl (.inl rfl) (pe_op op_and (pv 0) (pe_op op_sub (pv 0) pe_int)))
    (pss_one (ps_aug (i := 1) nd rfl (.inl rfl) pe_int ip_add))))
    (pss_one (ps_ret (pv 1))))), ?_⟩
    obtain ⟨m, Fr, rfl, hm, h, q⟩ := h
    refine g_seq (g_set1 e_c ?_)
    refine g_seq ?_
    refine x_while (fun k σ H => ∃ c : Nat, σ = [some (.int (k : Int)), some (.int (c : Int))] ∧ c + (Mk.nums k).length = (Mk.nums m).length ∧ k < 2 ^ 64 ∧ sat Fr H) m ⟨0, rfl, by omega, hm, h⟩ ?_
    rintro k σ H ⟨c, rfl, e, hk, h⟩
    refine ⟨_, t_truI (e_var rfl), fun c0 => ⟨fun σ2 H2 => ∃ c : Nat, σ2 = [some (.int ((k &&& (k - 1) : Nat) : Int)), some (.int (c : Int))] ∧ c + (Mk.nums (k &&& (k - 1))).length = (Mk.nums m).length ∧ sat Fr H2, fun σ2 H2 hN => ?_, ?_⟩, fun c0 => ?_⟩
    · obtain ⟨c, e1, e2, h⟩ := hN
      have hl := Mk.and_lt (m := k) (by omega)
      exact ⟨_, hl, c, e1, e2, by omega, h⟩
    · have k0 : 0 < k := by omega
      refine g_seq (g_set1 (e_op (e_var rfl) (e_op (e_var rfl) e_c r_I0) r_I0) ?_)
      refine g_aug1 rfl e_c ?_
      have p1 := Mk.pop_step k0 hk
      exact ⟨c + 1, by rw [Mk.bitAnd_pred k0]; rfl, by omega, h⟩
    · have k0 : k = 0 := by omega
      subst k0
      rw [Mk.nums_zero] at e
      have e' : c = (Mk.nums m).length := by simpa using e
      subst e'
      exact g_ret1 (e_var rfl) (q _ h)

end Law

namespace Law
open PySem PySem.Spec PyProof.Rows L2 Sat
open Evl (Ex)
theorem ok_lowest {P : Program} {w : World} {K : PySem.W.Frag} {mg : Str → Option Value} {base : Heap} (T : Tx K mg) {f : Addr} {fd : FuncData} (F : Fun K "lowest" "lowest" s_lowest f fd) : FnOk P w K mg base CX0 1 f fd ["mask"] (sp_lowest) := by
  have nd := sc_lowest.nd
  refine F.ok sc_lowest (fun vs H Q E h => ?_) (fun cdv A outer s H vs Q E hr h => ?_)
  · exact sp_lowest_len h
  · refine ⟨_, (pss_cons (ps_if (pt_not (pt_tru' (pv 0)))
    (pss_one (ps_ret pe_non))
    pss_nil)
    (pss_one (ps_ret (pe_op op_sub (pe_bits (pe_op op_and (pv 0) (pe_un un_neg (pv 0)))) pe_int)))), ?_⟩
    obtain ⟨m, Fr, rfl, hm, h, q⟩ := h
    refine g_seq (g_if1 (t_not (t_truI (e_var rfl))) (fun c => ?_) (fun c => ?_))
    · have m0 : m = 0 := by omega
      subst m0
      rw [leastV_zero] at q
      exact g_ret1 e_c (q _ h)
    · have m0 : 0 < m := by omega
      obtain ⟨k, h1, h2, h3, _⟩ := Mk.low m m0
      rw [leastV_low hm h1 h2] at q
      refine g_next (g_ret1 (e_op (e_bits (e_op (e_var rfl) (e_un (e_var rfl) u_I) r_I0)) e_c r_I0) ?_)
      have e3 : m - (m &&& (m - 1)) = 2 ^ k := Nat.sub_eq_of_eq_add (by rw [Nat.add_comm]; exact h3.symm)
      rw [Mk.bitAnd_neg m0, e3, Mk.intBits_pow, show ((k + 1 : Nat) : Int) - 1 = (k : Int) by omega]
      exact q _ h

end Law

namespace Law
open PySem PySem.Spec PyProof.Rows L2 Sat
open Evl (Ex)
theorem ok_law_store {P : Program} {w : World} {K : PySem.W.Frag} {mg : Str → Option Value} {base : Heap} (T : Tx K mg) {f : Addr} {fd : FuncData} (F : Fun K "_law_store" "_law_store" s_law_store f fd) : FnOk P w K mg base CX0 1 f fd ["script"] (sp_law_store K) := by
  have nd := sc_law_store.nd
  refine F.ok sc_law_store (fun vs H Q E h => ?_) (fun cdv A outer s H vs Q E hr h => ?_)
  · exact sp_law_store_len h
  · refine ⟨_, (pss_cons (ps_setLc (i := 1) (own := [("cell", 2)]) (by rfl) nd rfl rfl (sw_true rfl rfl rfl (by decide +kernel)) (pi_list (pv 0)) (blkOk_by (own := [("cell", 2)]) (N := ["script", "cells", "cell"]) (sc := defScope s_law_store) (by decide +kernel)) (fun _ _ _ _ _ => (pg_name (i := 2) nd rfl (.inl rfl))) (fun _ _ _ _ _ => pts_nil) (fun _ _ _ _ _ => (pe_callTy call_int1' (by rfl) T.m_int (by decide +kernel) (pa_cons (pv 2) pa_nil))))
    (pss_one (ps_ret (pe_lst (pa_cons (pv 1) (pa_cons pe_int (pa_cons pe_int (pa_cons pe_int (pa_cons (pe_op op_add pe_int (pe_callB call_len' (by rfl) T.m_len (by decide +kernel) (pa_cons (pv 1) pa_nil))) (pa_cons pe_int pa_nil)))))))))), ?_⟩
    obtain ⟨a, ns, rfl, hS, hl, q⟩ := h
    have h0 : sat [.fr H] H := sat.all .nil
    refine g_seq (g_set ?_)
    refine ⟨_, rfl, a, rfl, ⟨_, hS⟩, fun D hD => lc_list (xs := ns.map V.int) (fun i H' => sat [ol D ((ns.take i).map dI), .fr H] H') (h0.newL hD EntA.nil) (fun i H' _ h => ?_) (fun i x H' hx h => ?_) (fun H' h => ?_)⟩
    · obtain ⟨F, hf⟩ := h
      exact Evl.ex_l (Ex.trans (hf.ok _ (List.mem_of_getElem? (i := 1) rfl)) hf.ex) hS
    · rw [List.getElem?_map] at hx
      cases e : ns[i]? with
      | none => rw [e] at hx; cases hx
      | some n =>
        rw [e] at hx
        cases hx
        have hi := (List.getElem?_eq_some_iff.mp e).1
        refine l_name rfl (l_yes (g_cb1 (e_cons (e_var rfl) e_nil) (g_c c_int1 ?_)))
        refine x_lcE (d := dI n) h 0 rfl Ent.v (by rw [List.length_map, List.length_take, sizeLine_eq]; omega) fun acc h => ?_
        refine (show sat [ol D ((ns.take (i + 1)).map dI), .fr H] _ from ?_)
        rw [takeS e, List.map_append]
        exact h
    · rw [List.length_map, List.take_length] at h
      refine g_ret (g_lst0 ?_)
      refine g_a (e_cons (e_var rfl) (e_cons e_c (e_cons e_c (e_cons e_c (e_cons (e_op e_c (e_cb (e_cons (e_var rfl) e_nil) (c_lenV h (.o 0))) r_I0) (e_cons e_c e_nil)))))) ?_
      refine x_lstP h (sz 6 (by decide)) fun p h => ?_
      exact q p D _ (sto_close (by decide) (h.pick [0, 1] 3))

end Law

namespace Law
open PySem PySem.Spec PyProof.Rows L2 Sat
open Evl (Ex)
theorem ok_law_take {P : Program} {w : World} {K : PySem.W.Frag} {mg : Str → Option Value} {base : Heap} (T : Tx K mg) {f : Addr} {fd : FuncData} (F : Fun K "_law_take" "_law_take" s_law_take f fd) : FnOk P w K mg base CX0 1 f fd ["store", "many"] (sp_law_take) := by
  have nd := sc_law_take.nd
  refine F.ok sc_law_take (fun vs H Q E h => ?_) (fun cdv A outer s H vs Q E hr h => ?_)
  · exact sp_law_take_len h
  · refine ⟨_, (pss_cons (ps_set (i := 2) nd rfl (.inl rfl) (pe_callB (call_max2' rfl) (by rfl) T.m_max (by decide +kernel) (pa_cons pe_int (pa_cons (pv 1) pa_nil))))
    (pss_cons (ps_set (i := 3) nd rfl (.inl rfl) (pe_ix ix_list (pv 0) pe_int (fun _ _ => rfl)))
    (pss_cons (ps_set (i := 4) nd rfl (.inl rfl) pe_int)
    (pss_cons (ps_asg (pe_op op_add (pe_ix ix_list (pv 0) pe_int (fun _ _ => rfl)) pe_int) (pg_sub (pv 0) pe_int set_list))
    (C8.pss_cut (ps_if (PW.pt (pw_and (pt_cmpR op_eq (pe_ix ix_list (pv 0) pe_int (fun _ _ => rfl)) pe_int (nomark _)) (pw_and (pt_cmpR op_eq (pe_ix ix_list (pv 0) pe_int (fun _ _ => rfl)) pe_int (nomark _)) (pw_and1 (pt_cmpR op_lt (pe_ix ix_list (pv 0) pe_int (fun _ _ => rfl)) (pe_callB call_len' (by rfl) T.m_len (by decide +kernel) (pa_cons (pv 3) pa_nil)) (nomark _))))))
    (pss_cons (ps_set (i := 5) nd rfl (.inl rfl) (pe_callTy call_int1' (by rfl) T.m_int (by decide +kernel) (pa_cons (pe_ix ix_list (pv 3) (pe_ix ix_list (pv 0) pe_int (fun _ _ => rfl)) (fun _ _ => rfl)) pa_nil)))
    (pss_cons (ps_asg (pe_op op_add (pe_ix ix_list (pv 0) pe_int (fun _ _ => rfl)) pe_int) (pg_sub (pv 0) pe_int set_list))
    (pss_cons (ps_asg (pe_op op_mod (pe_callTy call_int1' (by rfl) T.m_int (by decide +kernel) (pa_cons (pe_op op_add (pe_op op_add (pe_op op_mul (pe_ix ix_list (pv 0) pe_int (fun _ _ => rfl)) pe_int) (pe_op op_mul (pv 5) pe_int)) pe_int) pa_nil)) (pv 4)) (pg_sub (pv 0) pe_int set_list))
    (pss_one (ps_if (pt_cmpR op_ge (pe_callB call_abs' (by rfl) T.m_abs (by decide +kernel) (pa_cons (pv 5) pa_nil)) (pe_op op_pow pe_int pe_int) (nomark _))
    (pss_one (ps_asg (pe_callB call_abs' (by rfl) T.m_abs (by decide +kernel) (pa_cons (pv 5) pa_nil)) (pg_sub (pv 0) pe_int set_list)))
    (pss_one (ps_asg pe_int (pg_sub (pv 0) pe_int set_list))))))))
    pss_nil)
    (pss_cons (ps_if (pt_cmpR op_gt (pe_ix ix_list (pv 0) pe_int (fun _ _ => rfl)) pe_int (nomark _))
    (pss_cons (ps_set (i := 6) nd rfl (.inl rfl) (pe_callTy call_int1' (by rfl) T.m_int (by decide +kernel) (pa_cons (pe_ix ix_list (pv 0) pe_int (fun _ _ => rfl)) pa_nil)))
    (pss_cons (ps_asg (pe_op op_fdivW (pv 6) (pv 2)) (pg_sub (pv 0) pe_int set_list))
    (pss_one (ps_ret (pe_op op_mod (pv 6) (pv 2))))))
    pss_nil)
    (C8.pss_cut (ps_if (pt_cmpR op_gt (pe_ix ix_list (pv 0) pe_int (fun _ _ => rfl)) pe_int (nomark _))
    (pss_one (ps_asg (pe_op op_sub (pe_ix ix_list (pv 0) pe_int (fun _ _ => rfl)) pe_int) (pg_sub (pv 0) pe_int set_list)))
    pss_nil)
    (pss_cons (ps_set (i := 7) nd rfl (.inl rfl) (pe_op op_mod (pe_callTy call_int1' (by rfl) T.m_int (by decide +kernel) (pa_cons (pe_op op_add (pe_op op_add (pe_op op_mul (pe_ix ix_list (pv 0) pe_int (fun _ _ => rfl)) pe_int) (pe_op op_mul (pe_ix ix_list (pv 0) pe_int (fun _ _ => rfl)) pe_int)) pe_int) pa_nil)) (pv 4)))
    (pss_cons (ps_asg (pv 7) (pg_sub (pv 0) pe_int set_list))
    (pss_cons (ps_set (i := 8) nd rfl (.inl rfl) (pe_op op_mod (pe_callTy call_int1' (by rfl) T.m_int (by decide +kernel) (pa_cons (pv 7) pa_nil)) pe_int))
    (pss_cons (ps_set (i := 9) nd rfl (.inl rfl) (pe_op op_fdiv (pv 7) pe_int))
    (pss_cons (ps_set (i := 10) nd rfl (.inl rfl) (pe_op op_mod (pe_callTy call_int1' (by rfl) T.m_int (by decide +kernel) (pa_cons (pe_op op_add (pe_op op_mul (pv 8) pe_int) (pe_op op_mul (pv 9) (pe_op op_add (pv 8) pe_int))) pa_nil)) (pv 4)))
    (pss_one (ps_ret (pe_op op_mod (pe_callTy call_int1' (by rfl) T.m_int (by decide +kernel) (pa_cons (pe_op op_fdiv (pv 10) pe_int) pa_nil)) (pv 2)))))))))))))))), ?_⟩
    obtain ⟨s, c, many, Fr, rfl, hm, ⟨ns, vc⟩, h0, q⟩ := h
    obtain ⟨a1, a2, a3, a4, a5, p1, h⟩ := sto_open h0
    refine g_seq (g_set1 (e_cb (e_cons e_c (e_cons (e_var rfl) e_nil)) c_max2) ?_)
    refine g_seq (g_set1 (e_op (e_var rfl) e_c (r_ixP h 0 rfl)) ?_)
    refine g_seq (g_set1 e_c ?_)
    refine g_seq (g_asg (g_e (e_op (e_op (e_var rfl) e_c (r_ixP h 0 rfl)) e_c r_I0) (g_sub (e_var rfl) e_c (x_setP h 0 rfl rfl fun H1 h => ?_))))
    have h : sat (pt s (.lst [.ref c, .int a1, .int a2, .int a3, .int a4, .int (a5 + 1)]) :: Fr) H1 := h
    generalize hsz : (if many > 1 then many else 1) = size
    have hs0 : 0 < size := by rw [← hsz]; split <;> omega
    have hs1 : size < 2 ^ 200 := by rw [← hsz]; split <;> omega
    have hs2 : size = max many 1 := by rw [← hsz]; split <;> omega
    refine g_cut (fun σ H => ∃ a1 a2 a3 a4 a5 y5, 0 ≤ a1 ∧ σ = [some (.ref s), some (.int many), some (.int size), some (.ref c), some (.int 2305843009213693951), y5, none, none, none, none, none] ∧ sat (pt s (.lst [.ref c, .int a1, .int a2, .int a3, .int a4, .int a5]) :: Fr) H) ?_ ?_
    · refine g_if1 (t_and (t_eqI (e_op (e_var rfl) e_c (r_ixP h 0 rfl)) e_c) fun _ => t_and (t_eqI (e_op (e_var rfl) e_c (r_ixP h 0 rfl)) e_c) fun _ => t_I (e_op (e_var rfl) e_c (r_ixP h 0 rfl)) (e_cb (e_cons (e_var rfl) e_nil) (c_lenV h vc.up))) (fun hc => ?_) (fun _ => ?_)
      · obtain ⟨_, _, hc⟩ := hc
        have hc : a1 < ((ns.map dI).length : Int) := hc
        rw [List.length_map] at hc
        obtain ⟨n, hn⟩ : ∃ n, ns[a1.toNat]? = some n := ⟨_, List.getElem?_eq_getElem (by omega)⟩
        have hd : atI (ns.map dI) a1 = some (.v (.int n)) := atI_ints p1 hn
        refine g_seq (g_set1 (e_cb (e_cons (e_op (e_var rfl) (e_op (e_var rfl) e_c (r_ixP h 0 rfl)) (r_ixV h vc.up hd)) e_nil) c_int1) ?_)
        refine g_seq (g_asg (g_e (e_op (e_op (e_var rfl) e_c (r_ixP h 0 rfl)) e_c r_I0) (g_sub (e_var rfl) e_c (x_setP h 0 rfl rfl fun H1 h => ?_))))
        refine g_seq (g_asg (g_e (e_op (e_cb (e_cons (e_op (e_op (e_op (e_op (e_var rfl) e_c (r_ixP h 0 rfl)) e_c (r_mulR ⟨by decide, by decide⟩)) (e_op (e_var rfl) e_c (r_mulR ⟨by decide, by decide⟩)) r_I0) e_c r_I0) e_nil) c_int1) (e_var rfl) (r_mod (by decide))) (g_sub (e_var rfl) e_c (x_setP h 0 rfl rfl fun H1 h => ?_))))
        refine g_if1 (t_I (e_cb (e_cons (e_var rfl) e_nil) c_abs) (e_op e_c e_c (r_pow ⟨by decide, by decide, by decide⟩))) (fun _ => ?_) (fun _ => ?_)
        · refine g_asg (g_e (e_cb (e_cons (e_var rfl) e_nil) c_abs) (g_sub (e_var rfl) e_c (x_setP h 0 rfl rfl fun H1 h => ?_)))
          exact ⟨_, _, _, _, _, _, by omega, rfl, h⟩
        · refine g_asg (g_e e_c (g_sub (e_var rfl) e_c (x_setP h 0 rfl rfl fun H1 h => ?_)))
          exact ⟨_, _, _, _, _, _, by omega, rfl, h⟩
      · exact g_next ⟨_, _, _, _, _, _, p1, rfl, h⟩
    · rintro σ H ⟨a1, a2, a3, a4, a5, y5, p1, rfl, h⟩
      refine g_seq (g_if1 (t_I (e_op (e_var rfl) e_c (r_ixP h 0 rfl)) e_c) (fun _ => ?_) (fun _ => ?_))
      · refine g_seq (g_set1 (e_cb (e_cons (e_op (e_var rfl) e_c (r_ixP h 0 rfl)) e_nil) c_int1) ?_)
        refine g_seq (g_asg (g_e (e_op (e_var rfl) (e_var rfl) (r_divW hs0 (by omega))) (g_sub (e_var rfl) e_c (x_setP h 0 rfl rfl fun H1 h => ?_))))
        refine g_ret1 (e_op (e_var rfl) (e_var rfl) (r_mod hs0)) (q _ _ (emod_lo hs0) ?_ (sto_close p1 h))
        rw [← hs2]
        exact Int.emod_lt_of_pos _ hs0
      · refine g_next (g_cut (fun σ H => ∃ a1 a2 a3 a4 a5, 0 ≤ a1 ∧ σ = [some (.ref s), some (.int many), some (.int size), some (.ref c), some (.int 2305843009213693951), y5, none, none, none, none, none] ∧ sat (pt s (.lst [.ref c, .int a1, .int a2, .int a3, .int a4, .int a5]) :: Fr) H) ?_ ?_)
        · refine g_if1 (t_I (e_op (e_var rfl) e_c (r_ixP h 0 rfl)) e_c) (fun _ => ?_) (fun _ => ?_)
          · refine g_asg (g_e (e_op (e_op (e_var rfl) e_c (r_ixP h 0 rfl)) e_c r_I0) (g_sub (e_var rfl) e_c (x_setP h 0 rfl rfl fun H1 h => ?_)))
            exact ⟨_, _, _, _, _, p1, rfl, h⟩
          · exact g_next ⟨_, _, _, _, _, p1, rfl, h⟩
        · rintro σ H ⟨a1, a2, a3, a4, a5, p1, rfl, h⟩
          refine g_seq (g_set1 (e_op (e_cb (e_cons (e_op (e_op (e_op (e_op (e_var rfl) e_c (r_ixP h 0 rfl)) e_c (r_mulR ⟨by decide, by decide⟩)) (e_op (e_op (e_var rfl) e_c (r_ixP h 0 rfl)) e_c (r_mulR ⟨by decide, by decide⟩)) r_I0) e_c r_I0) e_nil) c_int1) (e_var rfl) (r_mod (by decide))) ?_)
          refine g_seq (g_asg (g_e (e_var rfl) (g_sub (e_var rfl) e_c (x_setP h 0 rfl rfl fun H1 h => ?_))))
          generalize (a4 * 1181783497276652981 + a5 * 69621 + 11) % 2305843009213693951 = state at h ⊢
          have l0 : 0 ≤ state % 1000003 := Int.emod_nonneg _ (by decide)
          have l1 : state % 1000003 < 1000003 := Int.emod_lt_of_pos _ (by decide)
          refine g_seq (g_set1 (e_op (e_cb (e_cons (e_var rfl) e_nil) c_int1) e_c (r_mod (by decide))) ?_)
          refine g_seq (g_set1 (e_op (e_var rfl) e_c (r_div (by decide) (by decide))) ?_)
          refine g_seq (g_set1 (e_op (e_cb (e_cons (e_op (e_op (e_var rfl) e_c (r_mulR ⟨by decide, by decide⟩)) (e_op (e_var rfl) (e_op (e_var rfl) e_c r_I0) (r_mulR ⟨by omega, by omega⟩)) r_I0) e_nil) c_int1) (e_var rfl) (r_mod (by decide))) ?_)
          refine g_ret1 (e_op (e_cb (e_cons (e_op (e_var rfl) e_c (r_div (by decide) (by decide))) e_nil) c_int1) (e_var rfl) (r_mod hs0)) (q _ _ (emod_lo hs0) ?_ (sto_close p1 h))
          rw [← hs2]
          exact Int.emod_lt_of_pos _ hs0

end Law

namespace Law
open PySem PySem.Spec PyProof.Rows L2 Sat
open Evl (Ex)
theorem ok_law_is_number {P : Program} {w : World} {K : PySem.W.Frag} {mg : Str → Option Value} {base : Heap} (T : Tx K mg) {f : Addr} {fd : FuncData} (F : Fun K "_law_is_number" "_law_is_number" s_law_is_number f fd) : FnOk P w K mg base CX0 1 f fd ["value"] (sp_law_is_number) := by
  have nd := sc_law_is_number.nd
  refine F.ok sc_law_is_number (fun vs H Q E h => ?_) (fun cdv A outer s H vs Q E hr h => ?_)
  · exact sp_law_is_number_len h
  · refine ⟨_, (pss_one (ps_ret (pe_and (pe_callB call_isi (by rfl) T.m_isinstance (by decide +kernel) (pa_cons (pv 0) (pa_cons (pe_bltn (v := .ty "int") (u := .type "int") (by rfl) T.m_int (by decide +kernel) rfl) pa_nil))) (pe_one (pe_not (pe_callB call_isi (by rfl) T.m_isinstance (by decide +kernel) (pa_cons (pv 0) (pa_cons (pe_bltn (v := .ty "bool") (u := .type "bool") (by rfl) T.m_bool (by decide +kernel) rfl) pa_nil)))))))), ?_⟩
    obtain ⟨i, Fr, rfl, h, q⟩ := h
    have h1 := h.rp (x := .int i) Ent.v
    exact g_ret1 (e_andV (e_isiT h1 (.at 0) (.int i) s_ii) fun _ => e_notV (e_isiT h1 (.at 0) (.int i) s_ib)) (q _ h)

end Law

namespace Law
open PySem PySem.Spec PyProof.Rows L2 Sat
open Evl (Ex)
theorem ok_law_powers {P : Program} {w : World} {K : PySem.W.Frag} {mg : Str → Option Value} {base : Heap} (T : Tx K mg) {f : Addr} {fd : FuncData} (F : Fun K "_law_powers" "_law_powers" s_law_powers f fd) : FnOk P w K mg base CX0 1 f fd [] (sp_law_powers) := by
  have nd := sc_law_powers.nd
  refine F.ok sc_law_powers (fun vs H Q E h => ?_) (fun cdv A outer s H vs Q E hr h => ?_)
  · exact sp_law_powers_len h
  · refine ⟨_, (pss_cons (ps_set (i := 0) nd rfl (.inl rfl) (pe_lst (pa_cons pe_int pa_nil)))
    (pss_cons (ps_for PassesOwn.never rfl (pi_range1 rfl T.m_range (pa_cons pe_int pa_nil)) (pg_name (i := 1) nd rfl (.inl rfl))
    (pss_one (ps_expr (pe_bm PySem.F.plainAttrs_list PySem.F.slot_list_append PySem.F.type_list_append mt_append (pv 0) (pa_cons (pe_op op_mul pe_int (pe_ix ix_list (pv 0) (pe_un un_neg pe_int) (fun _ _ => rfl))) pa_nil)))))
    (pss_one (ps_ret (pv 0))))), ?_⟩
    obtain ⟨Fr, rfl, h, q⟩ := h
    refine g_seq (g_set ?_)
    refine g_lst0 ?_
    refine g_acons ?_
    refine g_e e_c ?_
    refine g_anil ?_
    refine x_lst0 (ds := [dI 1]) h (EntA.cons Ent.v EntA.nil) (sz 1 (by decide)) fun p1 h3 => ?_
    refine g_seq ?_
    refine x_forR1 (e_cons e_c e_nil) ⟨by omega, by omega⟩ (fun i σ H => ∃ (y1 : Option V), σ = [some (.ref p1), y1] ∧ sat (ol p1 ((Mk.pows (i + 1)).map dI) :: Fr) H) ⟨_, rfl, h3⟩ ?_ ?_
    · rintro i σ H hi ⟨y1, rfl, h⟩
      have hg : atI ((Mk.pows (i + 1)).map dI) (-1) = some (.v (.int ((2 : Int) ^ i))) := by rw [Mk.pows_succ, List.map_append]; exact atI_last _ _
      have hz : ((Mk.pows (i + 1)).map dI).length < sizeLine := by rw [List.length_map, Mk.pows_len, sizeLine_eq]; omega
      refine g_name ?_
      refine g_drop ?_
      refine g_bm (e_var rfl) (tyO h 0) (e_cons (e_op e_c (e_op (e_var rfl) (e_un e_c u_I) (r_ixV h (.o 0) hg)) (r_mulL ⟨by decide, by decide⟩)) e_nil) (x_app (d := dI (2 * 2 ^ i)) h 0 rfl Ent.v (by assumption) fun H4 h5 => ?_)
      have h5 : sat (ol p1 (((Mk.pows (i + 1)).map dI) ++ [dI (2 * 2 ^ i)]) :: Fr) _ := h5
      refine ⟨_, rfl, ?_⟩
      rw [Mk.pows_succ (i + 1), List.map_append, Int.pow_succ, Int.mul_comm]
      exact h5
    rintro σ H ⟨y1, rfl, h⟩
    refine g_ret1 (e_var rfl) ?_
    exact q _ _ h

end Law

namespace Law
open PySem PySem.Spec PyProof.Rows L2 Sat
open Evl (Ex)
theorem ok_law_pick {P : Program} {w : World} {K : PySem.W.Frag} {mg : Str → Option Value} {base : Heap} (T : Tx K mg) (G_law_take : Cal P w K mg base CX0 1 "_law_take" ["store", "many"] (sp_law_take)) {f : Addr} {fd : FuncData} (F : Fun K "_law_pick" "_law_pick" s_law_pick f fd) : FnOk P w K mg base CX0 2 f fd ["store", "items"] (sp_law_pick) := by
  have nd := sc_law_pick.nd
  refine F.ok sc_law_pick (fun vs H Q E h => ?_) (fun cdv A outer s H vs Q E hr h => ?_)
  · exact sp_law_pick_len h
  · refine ⟨_, (pss_one (ps_ret (pe_ix ix_list (pv 1) (pe_f G_law_take hr (pa_cons (pv 0) (pa_cons (pe_callB call_len' (by rfl) T.m_len (by decide +kernel) (pa_cons (pv 1) pa_nil)) pa_nil))) (fun _ _ => rfl)))), ?_⟩
    obtain ⟨s, c, a, Fr, ns, rfl, vi, l0, l1, cl, h, q⟩ := h
    refine g_ret ?_
    refine g_op ?_
    refine g_e (e_var rfl) ?_
    refine g_call1 (e_cons (e_var rfl) (e_cons (e_cb (e_cons (e_var rfl) e_nil) (c_lenV h (vi.up))) e_nil)) ?_
    refine ⟨_, _, _, _, rfl, by rw [List.length_map]; omega, cl, h, fun r1 H4 p2 q3 h5 => ?_⟩
    rw [List.length_map] at q3
    obtain ⟨n, hn⟩ : ∃ n, ns[(r1).toNat]? = some n := ⟨_, List.getElem?_eq_getElem (by omega)⟩
    refine g_r (r_ixV h5 (vi.up) (atI_ints p2 hn)) ?_
    exact q n _ (List.mem_of_getElem? hn) h5

end Law

namespace Law
open PySem PySem.Spec PyProof.Rows L2 Sat
open Evl (Ex)
theorem ok_law_between {P : Program} {w : World} {K : PySem.W.Frag} {mg : Str → Option Value} {base : Heap} (T : Tx K mg) (G_law_take : Cal P w K mg base CX0 1 "_law_take" ["store", "many"] (sp_law_take)) {f : Addr} {fd : FuncData} (F : Fun K "_law_between" "_law_between" s_law_between f fd) : FnOk P w K mg base CX0 2 f fd ["store", "low", "high"] (sp_law_between) := by
  have nd := sc_law_between.nd
  refine F.ok sc_law_between (fun vs H Q E h => ?_) (fun cdv A outer s H vs Q E hr h => ?_)
  · exact sp_law_between_len h
  · refine ⟨_, (pss_cons (ps_set (i := 3) nd rfl (.inl rfl) (pe_f G_law_take hr (pa_cons (pv 0) (pa_cons pe_int pa_nil))))
    (pss_cons (ps_if (pt_cmpR op_eq (pv 3) pe_int (nomark _))
    (pss_one (ps_ret (pv 1)))
    pss_nil)
    (pss_cons (ps_if (pt_cmpR op_eq (pv 3) pe_int (nomark _))
    (pss_one (ps_ret (pv 2)))
    pss_nil)
    (pss_one (ps_ret (pe_op op_add (pv 1) (pe_f G_law_take hr (pa_cons (pv 0) (pa_cons (pe_op op_add (pe_op op_sub (pv 2) (pv 1)) pe_int) pa_nil))))))))), ?_⟩
    obtain ⟨s, c, lo, hi, Fr, rfl, l0, l1, cl, h, q⟩ := h
    refine g_seq (g_set ?_)
    refine g_call1 (e_cons (e_var rfl) (e_cons e_c e_nil)) ?_
    refine ⟨_, _, _, _, rfl, by omega, cl, h, fun r1 H4 p2 q3 h5 => ?_⟩
    refine g_seq ?_
    refine g_if1 (t_eqI (e_var rfl) e_c) (fun c6 => ?_) (fun c6 => ?_)
    · refine g_ret1 (e_var rfl) ?_
      exact q _ _ (by omega) (by omega) h5
    · refine g_next ?_
      refine g_seq ?_
      refine g_if1 (t_eqI (e_var rfl) e_c) (fun c7 => ?_) (fun c7 => ?_)
      · refine g_ret1 (e_var rfl) ?_
        exact q _ _ (by omega) (by omega) h5
      · refine g_next ?_
        refine g_ret ?_
        refine g_op ?_
        refine g_e (e_var rfl) ?_
        refine g_call1 (e_cons (e_var rfl) (e_cons (e_op (e_op (e_var rfl) (e_var rfl) r_I0) e_c r_I0) e_nil)) ?_
        refine ⟨_, _, _, _, rfl, by omega, cl, h5, fun r8 H11 p9 q10 h12 => ?_⟩
        refine g_r r_I0 ?_
        exact q _ _ (by omega) (by omega) h12

end Law

namespace Law
open PySem PySem.Spec PyProof.Rows L2 Sat
open Evl (Ex)
theorem ok_law_size {P : Program} {w : World} {K : PySem.W.Frag} {mg : Str → Option Value} {base : Heap} (T : Tx K mg) (G_law_take : Cal P w K mg base CX0 1 "_law_take" ["store", "many"] (sp_law_take)) {f : Addr} {fd : FuncData} (F : Fun K "_law_size" "_law_size" s_law_size f fd) : FnOk P w K mg base CX0 2 f fd ["store", "least", "most"] (sp_law_size) := by
  have nd := sc_law_size.nd
  refine F.ok sc_law_size (fun vs H Q E h => ?_) (fun cdv A outer s H vs Q E hr h => ?_)
  · exact sp_law_size_len h
  · refine ⟨_, (pss_cons (ps_set (i := 3) nd rfl (.inl rfl) (pe_f G_law_take hr (pa_cons (pv 0) (pa_cons pe_int pa_nil))))
    (pss_cons (ps_if (pt_cmpR op_eq (pv 3) pe_int (nomark _))
    (pss_one (ps_ret (pv 1)))
    pss_nil)
    (pss_cons (ps_if (pt_cmpR op_eq (pv 3) pe_int (nomark _))
    (pss_one (ps_ret (pe_callB (call_min2' rfl) (by rfl) T.m_min (by decide +kernel) (pa_cons (pv 2) (pa_cons (pe_op op_add (pv 1) pe_int) pa_nil)))))
    pss_nil)
    (pss_cons (ps_if (pt_cmpR op_eq (pv 3) pe_int (nomark _))
    (pss_one (ps_ret (pv 2)))
    pss_nil)
    (pss_cons (ps_if (pt_cmpR op_eq (pv 3) pe_int (nomark _))
    (pss_one (ps_ret (pe_op op_add (pv 1) (pe_f G_law_take hr (pa_cons (pv 0) (pa_cons (pe_op op_add (pe_op op_sub (pv 2) (pv 1)) pe_int) pa_nil))))))
    pss_nil)
    (pss_one (ps_ret (pe_op op_add (pv 1) (pe_f G_law_take hr (pa_cons (pv 0) (pa_cons (pe_op op_add (pe_callB (call_min2' rfl) (by rfl) T.m_min (by decide +kernel) (pa_cons (pe_op op_sub (pv 2) (pv 1)) (pa_cons pe_int pa_nil))) pe_int) pa_nil))))))))))), ?_⟩
    obtain ⟨s, c, lo, hi, Fr, rfl, l0, l1, cl, h, q⟩ := h
    refine g_seq (g_set ?_)
    refine g_call1 (e_cons (e_var rfl) (e_cons e_c e_nil)) ?_
    refine ⟨_, _, _, _, rfl, by omega, cl, h, fun r1 H4 p2 q3 h5 => ?_⟩
    refine g_seq ?_
    refine g_if1 (t_eqI (e_var rfl) e_c) (fun c6 => ?_) (fun c6 => ?_)
    · refine g_ret1 (e_var rfl) ?_
      exact q _ _ (by first | omega | (split <;> omega)) (by first | omega | (split <;> omega)) h5
    · refine g_next ?_
      refine g_seq ?_
      refine g_if1 (t_eqI (e_var rfl) e_c) (fun c7 => ?_) (fun c7 => ?_)
      · refine g_ret1 (e_cb (e_cons (e_var rfl) (e_cons (e_op (e_var rfl) e_c r_I0) e_nil)) c_min2) ?_
        exact q _ _ (by first | omega | (split <;> omega)) (by first | omega | (split <;> omega)) h5
      · refine g_next ?_
        refine g_seq ?_
        refine g_if1 (t_eqI (e_var rfl) e_c) (fun c8 => ?_) (fun c8 => ?_)
        · refine g_ret1 (e_var rfl) ?_
          exact q _ _ (by first | omega | (split <;> omega)) (by first | omega | (split <;> omega)) h5
        · refine g_next ?_
          refine g_seq ?_
          refine g_if1 (t_eqI (e_var rfl) e_c) (fun c9 => ?_) (fun c9 => ?_)
          · refine g_ret ?_
            refine g_op ?_
            refine g_e (e_var rfl) ?_
            refine g_call1 (e_cons (e_var rfl) (e_cons (e_op (e_op (e_var rfl) (e_var rfl) r_I0) e_c r_I0) e_nil)) ?_
            refine ⟨_, _, _, _, rfl, by omega, cl, h5, fun r10 H13 p11 q12 h14 => ?_⟩
            refine g_r r_I0 ?_
            exact q _ _ (by first | omega | (split <;> omega)) (by first | omega | (split <;> omega)) h14
          · refine g_next ?_
            refine g_ret ?_
            refine g_op ?_
            refine g_e (e_var rfl) ?_
            refine g_call1 (e_cons (e_var rfl) (e_cons (e_op (e_cb (e_cons (e_op (e_var rfl) (e_var rfl) r_I0) (e_cons e_c e_nil)) c_min2) e_c r_I0) e_nil)) ?_
            refine ⟨_, _, _, _, rfl, by split <;> omega, cl, h5, fun r15 H18 p16 q17 h19 => ?_⟩
            refine g_r r_I0 ?_
            exact q _ _ (by first | omega | (split <;> omega)) (by first | omega | (split <;> omega)) h19

end Law

namespace Law
open PySem PySem.Spec PyProof.Rows L2 Sat
open Evl (Ex)
theorem ok_law_mixed {P : Program} {w : World} {K : PySem.W.Frag} {mg : Str → Option Value} {base : Heap} (T : Tx K mg) (G_law_take : Cal P w K mg base CX0 1 "_law_take" ["store", "many"] (sp_law_take)) {f : Addr} {fd : FuncData} (F : Fun K "_law_mixed" "_law_mixed" s_law_mixed f fd) : FnOk P w K mg base CX0 2 f fd ["store", "items"] (sp_law_mixed) := by
  have nd := sc_law_mixed.nd
  refine F.ok sc_law_mixed (fun vs H Q E h => ?_) (fun cdv A outer s H vs Q E hr h => ?_)
  · exact sp_law_mixed_len h
  · refine ⟨_, (pss_cons (ps_set (i := 2) nd rfl (.inl rfl) (pe_f G_law_take hr (pa_cons (pv 0) (pa_cons pe_int pa_nil))))
    (pss_cons (ps_set (i := 3) nd rfl (.inl rfl) (pe_lst pa_nil))
    (pss_cons (ps_for PassesOwn.never rfl (pi_list (pv 1)) (pg_name (i := 4) nd rfl (.inl rfl))
    (pss_cons (ps_set (i := 5) nd rfl (.inl rfl) (pe_callB call_len' (by rfl) T.m_len (by decide +kernel) (pa_cons (pv 3) pa_nil)))
    (C8.pss_cut (ps_if (pt_cmpR op_eq (pv 2) pe_int (nomark _))
    (pss_one (ps_set (i := 5) nd rfl (.inl rfl) pe_int))
    pss_nil)
    (C8.pss_cut (ps_if (pt_cmpR op_gt (pv 2) pe_int (nomark _))
    (pss_one (ps_set (i := 5) nd rfl (.inl rfl) (pe_f G_law_take hr (pa_cons (pv 0) (pa_cons (pe_op op_add (pe_callB call_len' (by rfl) T.m_len (by decide +kernel) (pa_cons (pv 3) pa_nil)) pe_int) pa_nil)))))
    pss_nil)
    (pss_one (ps_expr (pe_bm PySem.F.plainAttrs_list PySem.F.slot_list_insert PySem.F.type_list_insert mt_insert' (pv 3) (pa_cons (pv 5) (pa_cons (pv 4) pa_nil)))))))))
    (pss_one (ps_ret (pv 3)))))), ?_⟩
    obtain ⟨s, c, a, Fr, ds, rfl, vi, l1, cl, h, q⟩ := h
    refine g_seq (g_set ?_)
    refine g_call1 (e_cons (e_var rfl) (e_cons e_c e_nil)) ?_
    refine ⟨_, _, _, _, rfl, by omega, cl, h, fun r1 H4 p2 q3 h5 => ?_⟩
    refine g_seq (g_set ?_)
    refine g_lst0 ?_
    refine g_anil ?_
    refine x_lst0 (ds := []) h5 EntA.nil (sz 0 (by decide)) fun p6 h8 => ?_
    have h9 := h8.pick [1, 0] 2
    have h9 : sat (sto s c :: ol p6 [] :: Fr) _ := h9
    refine g_seq ?_
    refine x_forV h9 (vi.up.up) (e_var rfl) (fun i σ H => ∃ (es : List Sat.D) (y4 : Option V) (y5 : Option V), σ = [some (.ref s), some (.ref a), some (.int r1), some (.ref p6), y4, y5] ∧ (es.Perm (ds.take i)) ∧ sat (sto s c :: ol p6 es :: Fr) H) ⟨[], _, _, rfl, .nil, h9⟩ (fun _ _ _ _ ⟨_, _, _, _, _, h⟩ => ⟨_, h, vi.up.up⟩) ?_ ?_
    · rintro i d x σ H hd ⟨es, y4, y5, rfl, hp, h⟩ hx
      have le := hp.length_eq
      rw [List.length_take] at le
      refine g_name ?_
      have h10 := h.rp (hx h (vi.up.up))
      have h11 := h10.pick [1, 0, 2] 3
      have h11 : sat (sto s c :: .rp x d :: ol p6 es :: Fr) _ := h11
      refine g_seq (g_set1 (e_cb (e_cons (e_var rfl) e_nil) (c_lenV h11 (.o 2))) ?_)
      refine g_cut (fun σ H => ∃ (k : Int), σ = [some (.ref s), some (.ref a), some (.int r1), some (.ref p6), some x, some (.int k)] ∧ (0 ≤ k) ∧ (k ≤ es.length) ∧ sat (sto s c :: .rp x d :: ol p6 es :: Fr) H) ?_ ?_
      · refine g_if1 (t_eqI (e_var rfl) e_c) (fun c12 => ?_) (fun c12 => ?_)
        · refine g_set1 e_c ?_
          exact ⟨_, rfl, by omega, by omega, h11⟩
        · refine g_next ?_
          exact ⟨_, rfl, by omega, by omega, h11⟩
      rintro σ H ⟨k, rfl, k0, k1, h⟩
      refine g_cut (fun σ H => ∃ (k : Int), σ = [some (.ref s), some (.ref a), some (.int r1), some (.ref p6), some x, some (.int k)] ∧ (0 ≤ k) ∧ (k ≤ es.length) ∧ sat (sto s c :: .rp x d :: ol p6 es :: Fr) H) ?_ ?_
      · refine g_if1 (t_I (e_var rfl) e_c) (fun c13 => ?_) (fun c13 => ?_)
        · refine g_set ?_
          refine g_call1 (e_cons (e_var rfl) (e_cons (e_op (e_cb (e_cons (e_var rfl) e_nil) (c_lenV h (.o 2))) e_c r_I0) e_nil)) ?_
          refine ⟨_, _, _, _, rfl, by omega, cl.up.up, h, fun r14 H17 p15 q16 h18 => ?_⟩
          exact ⟨_, rfl, by omega, by omega, h18⟩
        · refine g_next ?_
          exact ⟨_, rfl, by omega, by omega, h⟩
      rintro σ H ⟨k, rfl, k0, k1, h⟩
      refine g_drop ?_
      refine g_bm (e_var rfl) (tyO h 2) (e_cons (e_var rfl) (e_cons (e_var rfl) e_nil)) (x_ins (d := d) h 2 rfl (.at 1) (by rw [sizeLine_eq]; omega) (by omega) (by omega) fun H19 h20 => ?_)
      have h20 : sat (sto s c :: .rp x d :: ol p6 (es.take (k).toNat ++ [d] ++ es.drop (k).toNat) :: Fr) _ := h20
      refine ⟨_, _, _, rfl, ?_, (h20.pick [0, 2] 3)⟩
      rw [takeS hd]
      exact perm_ins hp
    rintro σ H ⟨es, y4, y5, rfl, hp, h⟩
    rw [List.take_length] at hp
    refine g_ret1 (e_var rfl) ?_
    exact q _ _ _ hp h

end Law

namespace Law
open PySem PySem.Spec PyProof.Rows L2 Sat
open Evl (Ex)
theorem ok_law_some {P : Program} {w : World} {K : PySem.W.Frag} {mg : Str → Option Value} {base : Heap} (T : Tx K mg) (G_law_take : Cal P w K mg base CX0 1 "_law_take" ["store", "many"] (sp_law_take)) {f : Addr} {fd : FuncData} (F : Fun K "_law_some" "_law_some" s_law_some f fd) : FnOk P w K mg base CX0 2 f fd ["store", "items"] (sp_law_some) := by
  have nd := sc_law_some.nd
  refine F.ok sc_law_some (fun vs H Q E h => ?_) (fun cdv A outer s H vs Q E hr h => ?_)
  · exact sp_law_some_len h
  · refine ⟨_, (pss_cons (ps_set (i := 2) nd rfl (.inl rfl) (pe_f G_law_take hr (pa_cons (pv 0) (pa_cons pe_int pa_nil))))
    (pss_cons (ps_set (i := 3) nd rfl (.inl rfl) (pe_callTy call_list' (by rfl) T.m_list (by decide +kernel) (pa_cons (pv 1) pa_nil)))
    (pss_cons (ps_if (PW.pt (pw_or (pt_cmpR op_eq (pv 2) pe_int (nomark _)) (pw_or1 (pt_cmpR op_eq (pe_callB call_len' (by rfl) T.m_len (by decide +kernel) (pa_cons (pv 3) pa_nil)) pe_int (nomark _)))))
    (pss_one (ps_ret (pe_lst pa_nil)))
    pss_nil)
    (pss_cons (ps_if (pt_cmpR op_eq (pv 2) pe_int (nomark _))
    (pss_one (ps_ret (pv 3)))
    pss_nil)
    (pss_cons (ps_if (pt_cmpR op_eq (pv 2) pe_int (nomark _))
    (pss_one (ps_ret (pe_lst (pa_cons (pe_ix ix_list (pv 3) (pe_f G_law_take hr (pa_cons (pv 0) (pa_cons (pe_callB call_len' (by rfl) T.m_len (by decide +kernel) (pa_cons (pv 3) pa_nil)) pa_nil))) (fun _ _ => rfl)) pa_nil))))
    pss_nil)
    (pss_one (ps_ret (pe_lc (own := [("item", 4)]) (by rfl) nd (pi_list (pv 3)) (blkOk_by (own := [("item", 4)]) (N := ["store", "items", "sort", "row", "item"]) (sc := defScope s_law_some) (by decide +kernel)) (fun _ _ _ _ _ => (pg_name (i := 4) nd rfl (.inl rfl))) (fun _ _ _ _ _ => pts_one (pt_cmpR op_eq (pe_f G_law_take hr (pa_cons (pv 0) (pa_cons pe_int pa_nil))) pe_int (nomark _))) (fun _ _ _ _ _ => (pv 4)))))))))), ?_⟩
    obtain ⟨s, c, a, Fr, ds, rfl, vi, l1, cl, h, q⟩ := h
    refine g_seq (g_set ?_)
    refine g_call1 (e_cons (e_var rfl) (e_cons e_c e_nil)) ?_
    refine ⟨_, _, _, _, rfl, by omega, cl, h, fun r1 H4 p2 q3 h5 => ?_⟩
    refine g_seq (g_set ?_)
    refine g_cb1 (e_cons (e_var rfl) e_nil) ?_
    refine x_listV h5 (vi.up) fun p6 H7 h8 => ?_
    have h9 := h8.pick [1, 0] 2
    have h9 : sat (sto s c :: ol p6 ds :: Fr) _ := h9
    refine g_seq ?_
    refine g_if1 (t_or (t_eqI (e_var rfl) e_c) fun _ => (t_eqI (e_cb (e_cons (e_var rfl) e_nil) (c_lenV h9 (.o 1))) e_c)) (fun c10 => ?_) (fun c10 => ?_)
    · refine g_ret ?_
      refine g_lst0 ?_
      refine g_anil ?_
      refine x_lst0 (ds := []) h9 EntA.nil (sz 0 (by decide)) fun p11 h13 => ?_
      have h14 := h13.pick [1, 0, 2] 3
      have h14 : sat (sto s c :: ol p11 [] :: ol p6 ds :: Fr) _ := h14
      exact q _ _ _ (List.nil_sublist _) (h14.pick [0, 1] 3)
    · refine g_next ?_
      refine g_seq ?_
      refine g_if1 (t_eqI (e_var rfl) e_c) (fun c15 => ?_) (fun c15 => ?_)
      · refine g_ret1 (e_var rfl) ?_
        exact q _ _ _ (List.Sublist.refl _) h9
      · refine g_next ?_
        refine g_seq ?_
        refine g_if1 (t_eqI (e_var rfl) e_c) (fun c16 => ?_) (fun c16 => ?_)
        · refine g_ret ?_
          refine g_lst0 ?_
          refine g_acons ?_
          refine g_op ?_
          refine g_e (e_var rfl) ?_
          refine g_call1 (e_cons (e_var rfl) (e_cons (e_cb (e_cons (e_var rfl) e_nil) (c_lenV h9 (.o 1))) e_nil)) ?_
          refine ⟨_, _, _, _, rfl, by omega, cl.up, h9, fun r17 H20 p18 q19 h21 => ?_⟩
          obtain ⟨d, hd⟩ : ∃ d, ds[(r17).toNat]? = some d := ⟨_, List.getElem?_eq_getElem (by omega)⟩
          refine x_ixV (d := d) h21 (.o 1) (atI_at (r17).toNat (by omega) hd) fun x22 h23 => ?_
          have h24 := h23.pick [1, 0, 2] 3
          have h24 : sat (sto s c :: .rp x22 d :: ol p6 ds :: Fr) _ := h24
          refine g_anil ?_
          refine x_lst0 (ds := [d]) h24 (EntA.cons (.at 1) EntA.nil) (sz 1 (by decide)) fun p25 h27 => ?_
          have h28 := h27.pick [1, 0, 2, 3] 4
          have h28 : sat (sto s c :: ol p25 [d] :: .rp x22 d :: ol p6 ds :: Fr) _ := h28
          exact q _ _ _ (List.singleton_sublist.mpr (List.mem_of_getElem? hd)) (h28.pick [0, 1] 4)
        · refine g_next ?_
          refine g_ret ?_
          refine x_lcV h9 (.o 1) (e_var rfl) (fun Dl i H => ∃ (es : List Sat.D), (es.Sublist (ds.take i)) ∧ sat (sto s c :: ol Dl es :: ol p6 ds :: Fr) H) (fun Dl H1 h => ⟨[], .slnil, (h.pick [1, 0, 2] 3)⟩) (fun _ _ _ _ ⟨_, _, h⟩ => ⟨_, h, (.o 2)⟩) ?_ ?_
          · rintro Dl i d x H hd ⟨es, hs, h⟩ hx
            have le := hs.length_le
            rw [List.length_take] at le
            refine l_name rfl ?_
            have h29 := h.rp (hx h (.o 2))
            have h30 := h29.pick [1, 0, 2, 3] 4
            have h30 : sat (sto s c :: .rp x d :: ol Dl es :: ol p6 ds :: Fr) _ := h30
            refine g_T ?_
            refine g_op ?_
            refine g_call1 (e_cons (e_var rfl) (e_cons e_c e_nil)) ?_
            refine ⟨_, _, _, _, rfl, by omega, cl.up.up.up, h30, fun r31 H34 p32 q33 h35 => ?_⟩
            refine g_e e_c ?_
            refine g_r r_eqI ?_
            refine g_dec (fun c => ?_) (fun c => ?_)
            · refine iteT ?_
              refine g_e (e_var rfl) ?_
              refine x_lcE (d := d) h35 2 rfl (.at 1) (by rw [sizeLine_eq]; omega) fun H36 h37 => ?_
              exact ⟨_, by rw [takeS hd]; exact hs.append (List.Sublist.refl _), (h37.pick [0, 2, 3] 4)⟩
            · refine iteF ?_
              exact ⟨_, by rw [takeS hd]; exact hs.trans (List.sublist_append_left _ _), (h35.pick [0, 2, 3] 4)⟩
          rintro Dl H ⟨es, hs, h⟩
          rw [List.take_length] at hs
          exact q _ _ _ hs (h.pick [0, 1] 3)

end Law

namespace Law
open PySem PySem.Spec PyProof.Rows L2 Sat
open Evl (Ex)
theorem ok_law_same {P : Program} {w : World} {K : PySem.W.Frag} {mg : Str → Option Value} {base : Heap} (T : Tx K mg) (G_law_is_number : Cal P w K mg base CX0 1 "_law_is_number" ["value"] (sp_law_is_number)) {f : Addr} {fd : FuncData} (F : Fun K "_law_same" "_law_same" s_law_same f fd) : FnOk P w K mg base CX0 2 f fd ["actual", "expected"] (sp_law_same) := by
  have nd := sc_law_same.nd
  refine F.ok sc_law_same (fun vs H Q E h => ?_) (fun cdv A outer s H vs Q E hr h => ?_)
  · exact sp_law_same_len h
  · refine ⟨_, (pss_cons (ps_set (i := 2) nd rfl (.inl rfl) (pe_lst (pa_cons (pe_tup (pa_cons (pv 0) (pa_cons (pv 1) pa_nil))) pa_nil)))
    (pss_cons (ps_for PassesOwn.never rfl (pi_range1 rfl T.m_range (pa_cons pe_int pa_nil)) (pg_name (i := 3) nd rfl (.inl rfl))
    (pss_cons (ps_if (pt_cmpR op_eq (pe_callB call_len' (by rfl) T.m_len (by decide +kernel) (pa_cons (pv 2) pa_nil)) pe_int (nomark _))
    (pss_one (ps_ret pe_bl))
    pss_nil)
    (pss_cons (ps_set (i := 4) nd rfl (.inl rfl) (pe_lst pa_nil))
    (pss_cons (ps_for PassesOwn.never rfl (pi_list (pv 2)) (pg_tup rfl (pgs_cons (pg_name (i := 5) nd rfl (.inr rfl)) (pgs_cons (pg_name (i := 6) nd rfl (.inr rfl)) pgs_nil)))
    (pss_one (ps_if (PW.pt (pw_or (pt_val (pe_callB call_isi (by rfl) T.m_isinstance (by decide +kernel) (pa_cons (pv 6) (pa_cons (pe_bltn (v := .ty "list") (u := .type "list") (by rfl) T.m_list (by decide +kernel) rfl) pa_nil)))) (pw_or1 (pt_val (pe_callB call_isi (by rfl) T.m_isinstance (by decide +kernel) (pa_cons (pv 6) (pa_cons (pe_bltn (v := .ty "tuple") (u := .type "tuple") (by rfl) T.m_tuple (by decide +kernel) rfl) pa_nil)))))))
    (pss_cons (ps_if (PW.pt (pw_and (pt_val (pe_callB call_isi (by rfl) T.m_isinstance (by decide +kernel) (pa_cons (pv 6) (pa_cons (pe_bltn (v := .ty "list") (u := .type "list") (by rfl) T.m_list (by decide +kernel) rfl) pa_nil)))) (pw_and1 (pt_not (pt_val (pe_callB call_isi (by rfl) T.m_isinstance (by decide +kernel) (pa_cons (pv 5) (pa_cons (pe_bltn (v := .ty "list") (u := .type "list") (by rfl) T.m_list (by decide +kernel) rfl) pa_nil))))))))
    (pss_one (ps_ret pe_bl))
    pss_nil)
    (pss_cons (ps_if (PW.pt (pw_and (pt_val (pe_callB call_isi (by rfl) T.m_isinstance (by decide +kernel) (pa_cons (pv 6) (pa_cons (pe_bltn (v := .ty "tuple") (u := .type "tuple") (by rfl) T.m_tuple (by decide +kernel) rfl) pa_nil)))) (pw_and1 (pt_not (pt_val (pe_callB call_isi (by rfl) T.m_isinstance (by decide +kernel) (pa_cons (pv 5) (pa_cons (pe_bltn (v := .ty "tuple") (u := .type "tuple") (by rfl) T.m_tuple (by decide +kernel) rfl) pa_nil))))))))
    (pss_one (ps_ret pe_bl))
    pss_nil)
    (pss_cons (ps_if (pt_cmpR op_ne (pe_callB call_len' (by rfl) T.m_len (by decide +kernel) (pa_cons (pv 5) pa_nil)) (pe_callB call_len' (by rfl) T.m_len (by decide +kernel) (pa_cons (pv 6) pa_nil)) (nomark _))
    (pss_one (ps_ret pe_bl))
    pss_nil)
    (pss_one (ps_expr (pe_bm PySem.F.plainAttrs_list PySem.F.slot_list_extend PySem.F.type_list_extend mt_extend (pv 4) (pa_cons (pe_lc (own := [("at", 7)]) (by rfl) nd (pi_range1 rfl T.m_range (pa_cons (pe_callB call_len' (by rfl) T.m_len (by decide +kernel) (pa_cons (pv 6) pa_nil)) pa_nil)) (blkOk_by (own := [("at", 7)]) (N := ["actual", "expected", "left", "step", "longer", "one", "two", "at"]) (sc := defScope s_law_same) (by decide +kernel)) (fun _ _ _ _ _ => (pg_name (i := 7) nd rfl (.inl rfl))) (fun _ _ _ _ _ => pts_nil) (fun _ _ _ _ _ => (pe_tup (pa_cons (pe_ix (ix_seqK (K := K) rfl) (pv 5) (pv 7) (fun _ _ => rfl)) (pa_cons (pe_ix (ix_seqK (K := K) rfl) (pv 6) (pv 7) (fun _ _ => rfl)) pa_nil))))) pa_nil)))))))
    (pss_one (ps_if (pt_cmpR op_isN' (pv 6) pe_non (nomark _))
    (pss_one (ps_if (pt_cmpR op_notN' (pv 5) pe_non (nomark _))
    (pss_one (ps_ret pe_bl))
    pss_nil))
    (pss_one (ps_if (pt_val (pe_callB call_isi (by rfl) T.m_isinstance (by decide +kernel) (pa_cons (pv 6) (pa_cons (pe_bltn (v := .ty "bool") (u := .type "bool") (by rfl) T.m_bool (by decide +kernel) rfl) pa_nil))))
    (pss_one (ps_if (PW.pt (pw_or (pt_not (pt_val (pe_callB call_isi (by rfl) T.m_isinstance (by decide +kernel) (pa_cons (pv 5) (pa_cons (pe_bltn (v := .ty "bool") (u := .type "bool") (by rfl) T.m_bool (by decide +kernel) rfl) pa_nil))))) (pw_or1 (pt_cmpR op_ne (pv 5) (pv 6) (nomark _)))))
    (pss_one (ps_ret pe_bl))
    pss_nil))
    (pss_one (ps_if (pt_val (pe_callB call_isi (by rfl) T.m_isinstance (by decide +kernel) (pa_cons (pv 6) (pa_cons (pe_bltn (v := .ty "int") (u := .type "int") (by rfl) T.m_int (by decide +kernel) rfl) pa_nil))))
    (pss_one (ps_if (PW.pt (pw_or (pt_not (pt_val (pe_f G_law_is_number hr (pa_cons (pv 5) pa_nil)))) (pw_or1 (pt_cmpR op_ne (pv 5) (pv 6) (nomark _)))))
    (pss_one (ps_ret pe_bl))
    pss_nil))
    (pss_one (ps_if (PW.pt (pw_or (pt_not (pt_val (pe_callB call_isi (by rfl) T.m_isinstance (by decide +kernel) (pa_cons (pv 5) (pa_cons (pe_bltn (v := .ty "str") (u := .type "str") (by rfl) T.m_str (by decide +kernel) rfl) pa_nil))))) (pw_or1 (pt_cmpR op_ne (pv 5) (pv 6) (nomark _)))))
    (pss_one (ps_ret pe_bl))
    pss_nil)))))))))))
    (pss_one (ps_set (i := 2) nd rfl (.inl rfl) (pe_callTy call_list' (by rfl) T.m_list (by decide +kernel) (pa_cons (pv 4) pa_nil))))))))
    (pss_one (ps_ret pe_bl)))), ?_⟩
    obtain ⟨x, y, d, Fr, n, rfl, hd, hn, hl, hz, h, q⟩ := h
    refine g_seq (g_set (g_lst0 (g_acons ?_)))
    refine g_tup h (e_cons (e_var rfl) (e_cons (e_var rfl) e_nil)) (EntA.cons (.at 0) (EntA.cons (.at 1) EntA.nil)) (sz 2 (by decide)) fun t H1 h => ?_
    refine g_anil ?_
    refine x_lst0 (ds := [.tup [d, d]]) h (EntA.cons (.at 0) EntA.nil) (sz 1 (by decide)) fun lf h => ?_
    have h := h.pick [0, 2, 3] 4
    have h : sat (ol lf (prs (lev d 0)) :: .rp x d :: .rp y d :: Fr) _ := h
    refine g_seq ?_
    refine x_forR1 (e_cons e_c e_nil) ⟨by decide, by decide⟩ (fun i σ H => ∃ (lf : Addr) (y3 y4 y5 y6 y7 : Option V), σ = [some x, some y, some (.ref lf), y3, y4, y5, y6, y7] ∧ i ≤ n ∧ sat (ol lf (prs (lev d i)) :: .rp x d :: .rp y d :: Fr) H) ⟨lf, _, _, _, _, _, rfl, Nat.zero_le _, h⟩ ?_ ?_
    · rintro i σ H hi ⟨lf, y3, y4, y5, y6, y7, rfl, hin, h⟩
      refine g_name ?_
      refine g_seq (g_if1 (t_eqI (e_cb (e_cons (e_var rfl) e_nil) (c_lenV h (.o 0))) e_c) (fun c => ?_) (fun c => ?_))
      · exact g_ret1 e_c (q _ (h.pick [1, 2] 3))
      · have c : ¬ (((prs (lev d i)).length : Nat) : Int) = 0 := c
        rw [prs_len] at c
        have hin' : i < n := by
          rcases Nat.lt_or_ge i n with z | z
          · exact z
          · rw [lev_le hl z] at c
            exact absurd rfl c
        refine g_next ?_
        refine g_seq (g_set (g_lst0 (g_anil (x_lst0 (ds := []) h EntA.nil (sz 0 (by decide)) fun lg h => ?_))))
        refine g_seq ?_
        refine x_forV h (.o 1) (e_var rfl) (fun j σ H => ∃ (y5 y6 y7 : Option V), σ = [some x, some y, some (.ref lf), some (.int (i : Int)), some (.ref lg), y5, y6, y7] ∧ sat (ol lg (prs (((lev d i).take j).flatMap kids)) :: ol lf (prs (lev d i)) :: .rp x d :: .rp y d :: Fr) H) ⟨_, _, _, rfl, h⟩ (fun _ _ _ _ ⟨_, _, _, _, h⟩ => ⟨_, h, .o 1⟩) ?_ ?_
        · rintro j p v σ H hp ⟨y5, y6, y7, rfl, h⟩ hx
          obtain ⟨e, he, rfl⟩ := prs_get hp
          have oke := lev_ok hd i e (List.mem_of_getElem? he)
          have step := flat_snoc he
          have hle1 := flat_take_le (es := lev d i) j
          have hle2 := flat_take_le (es := lev d i) (j + 1)
          have hle3 : ((lev d i).flatMap kids).length ≤ 100000 := hz (i + 1)
          rw [step, List.length_append] at hle2
          refine g_pair h (hx h (.o 1)) fun a b h => ?_
          have flat : kids e = [] → ∀ {σ : L2.St} {H : Hp}, (∃ (y5 y6 y7 : Option V), σ = [some x, some y, some (.ref lf), some (.int (i : Int)), some (.ref lg), y5, y6, y7]) → sat (.rp a e :: .rp b e :: ol lg (prs (((lev d i).take j).flatMap kids)) :: ol lf (prs (lev d i)) :: .rp x d :: .rp y d :: Fr) H →
              ∃ (y5 y6 y7 : Option V), σ = [some x, some y, some (.ref lf), some (.int (i : Int)), some (.ref lg), y5, y6, y7] ∧ sat (ol lg (prs (((lev d i).take (j + 1)).flatMap kids)) :: ol lf (prs (lev d i)) :: .rp x d :: .rp y d :: Fr) H := fun z σ H ⟨y5, y6, y7, e1⟩ h => by
            refine ⟨y5, y6, y7, e1, ?_⟩
            rw [step, z, List.append_nil]
            exact h.pick [2, 3, 4, 5] 6
          cases oke with
          | non =>
            obtain rfl := h.flat (.at 0)
            obtain rfl := h.flat (.at 1)
            refine g_if1 (t_or (t_val (e_isiT h (.at 1) .non s_nl)) fun _ => t_val (e_isiT h (.at 1) .non s_nt)) (fun c => c.elim (fun z => nomatch z) fun z => nomatch z) fun _ => ?_
            refine g_if1 (t_isN (e_var rfl)) (fun _ => g_if1 (t_notN (e_var rfl)) (fun c => (c rfl).elim) fun _ => g_next ?_) fun c => (c rfl).elim
            exact flat rfl ⟨_, _, _, rfl⟩ h
          | bl k =>
            obtain rfl := h.flat (.at 0)
            obtain rfl := h.flat (.at 1)
            refine g_if1 (t_or (t_val (e_isiT h (.at 1) (.bl k) s_bl)) fun _ => t_val (e_isiT h (.at 1) (.bl k) s_bt)) (fun c => c.elim (fun z => nomatch z) fun z => nomatch z) fun _ => ?_
            refine g_if1 (t_isN (e_var rfl)) (fun c => nomatch c) fun _ => ?_
            refine g_if1 (t_val (e_isiT h (.at 1) (.bl k) s_bb)) (fun _ => ?_) fun c => (c rfl).elim
            refine g_if1 (t_or (t_not (t_val (e_isiT h (.at 0) (.bl k) s_bb))) fun _ => t_ne (e_var rfl) (e_var rfl) rfl) (fun c => c.elim (fun z => (z rfl).elim) fun z => (z rfl).elim) fun _ => g_next ?_
            exact flat rfl ⟨_, _, _, rfl⟩ h
          | int k =>
            obtain rfl := h.flat (.at 0)
            obtain rfl := h.flat (.at 1)
            refine g_if1 (t_or (t_val (e_isiT h (.at 1) (.int k) s_il)) fun _ => t_val (e_isiT h (.at 1) (.int k) s_it)) (fun c => c.elim (fun z => nomatch z) fun z => nomatch z) fun _ => ?_
            refine g_if1 (t_isN (e_var rfl)) (fun c => nomatch c) fun _ => ?_
            refine g_if1 (t_val (e_isiT h (.at 1) (.int k) s_ib)) (fun c => nomatch c) fun _ => ?_
            refine g_if1 (t_val (e_isiT h (.at 1) (.int k) s_ii)) (fun _ => ?_) fun c => (c rfl).elim
            refine g_if (g_or (g_not (g_B (g_call1 (e_cons (e_var rfl) e_nil) ⟨k, _, rfl, h, fun H2 h => ⟨true, rfl, ?_⟩⟩))))
            refine iteF (t_neI (e_var rfl) (e_var rfl) _ (fun c => (c rfl).elim) fun _ => iteF (g_next ?_))
            exact flat rfl ⟨_, _, _, rfl⟩ h
          | str k =>
            obtain rfl := h.flat (.at 0)
            obtain rfl := h.flat (.at 1)
            refine g_if1 (t_or (t_val (e_isiT h (.at 1) (.str k) s_sl)) fun _ => t_val (e_isiT h (.at 1) (.str k) s_st)) (fun c => c.elim (fun z => nomatch z) fun z => nomatch z) fun _ => ?_
            refine g_if1 (t_isN (e_var rfl)) (fun c => nomatch c) fun _ => ?_
            refine g_if1 (t_val (e_isiT h (.at 1) (.str k) s_sb)) (fun c => nomatch c) fun _ => ?_
            refine g_if1 (t_val (e_isiT h (.at 1) (.str k) s_si)) (fun c => nomatch c) fun _ => ?_
            refine g_if1 (t_or (t_not (t_val (e_isiT h (.at 0) (.str k) s_ss))) fun _ => t_ne (e_var rfl) (e_var rfl) rfl) (fun c => c.elim (fun z => (z rfl).elim) fun z => (z rfl).elim) fun _ => g_next ?_
            exact flat rfl ⟨_, _, _, rfl⟩ h
          | @lst ds k =>
            have okl : okD (.lst ds) := .lst k
            have hds : ds.length ≤ 100000 := by
              have : (kids (.lst ds)).length = ds.length := rfl
              omega
            obtain ⟨a, rfl⟩ := refL h (.at 0)
            obtain ⟨b, rfl⟩ := refL h (.at 1)
            refine g_if1 (t_or (t_val (e_isiT h (.at 1) okl s_ll)) fun _ => t_val (e_isiT h (.at 1) okl s_lt)) (fun _ => ?_) (fun c => (c (.inl rfl)).elim)
            refine g_seq (g_if1 (t_and (t_val (e_isiT h (.at 1) okl s_ll)) fun _ => t_not (t_val (e_isiT h (.at 0) okl s_ll))) (fun c => (c.2 rfl).elim) fun _ => g_next ?_)
            refine g_seq (g_if1 (t_and (t_val (e_isiT h (.at 1) okl s_lt)) fun _ => t_not (t_val (e_isiT h (.at 0) okl s_lt))) (fun c => nomatch c.1) fun _ => g_next ?_)
            refine g_seq (g_if1 (t_neI (e_cb (e_cons (e_var rfl) e_nil) (c_lenL h (.at 0))) (e_cb (e_cons (e_var rfl) e_nil) (c_lenL h (.at 1)))) (fun c => (c rfl).elim) fun _ => g_next ?_)
            refine g_drop (g_bmI (e_var rfl) (tyO h 2) (g_acons ?_))
            refine x_lcR1 h (e_cons (e_cb (e_cons (e_var rfl) e_nil) (c_lenL h (.at 1))) e_nil) ⟨by omega, by omega⟩ (fun Dl m H => sat (ol Dl (prs (ds.take m)) :: .rp (.ref a) (.lst ds) :: .rp (.ref b) (.lst ds) :: ol lg (prs (((lev d i).take j).flatMap kids)) :: ol lf (prs (lev d i)) :: .rp x d :: .rp y d :: Fr) H) (fun Dl H1 h => h) ?_ ?_
            · rintro Dl m H hm h
              refine l_name rfl (l_yes ?_)
              obtain ⟨f, hf⟩ : ∃ f, ds[m]? = some f := ⟨_, List.getElem?_eq_getElem (by omega)⟩
              have hlm : (prs (ds.take m)).length < sizeLine := by rw [prs_len, List.length_take, sizeLine_eq]; omega
              refine g_tup0 (g_acons (g_op (g_e (e_var rfl) (g_e (e_var rfl) (Or.inl (x_ixL h (.at 1) (atI_at m rfl hf) fun u h => ?_))))))
              refine g_acons (g_op (g_e (e_var rfl) (g_e (e_var rfl) (Or.inl (x_ixL h (.at 3) (atI_at m rfl hf) fun u' h => ?_)))))
              refine g_anil (x_tup0 (ds := [f, f]) h (EntA.cons (.at 1) (EntA.cons (.at 0) EntA.nil)) (sz 2 (by decide)) fun t h => ?_)
              refine x_lcE (d := .tup [f, f]) h 3 rfl (.at 0) hlm fun acc h => ?_
              refine (show sat (ol Dl (prs (ds.take (m + 1))) :: .rp (.ref a) (.lst ds) :: .rp (.ref b) (.lst ds) :: ol lg (prs (((lev d i).take j).flatMap kids)) :: ol lf (prs (lev d i)) :: .rp x d :: .rp y d :: Fr) _ from ?_)
              rw [takeS hf, prs_app]
              exact h.pick [3, 4, 5, 6, 7, 8, 9] 10
            · rintro Dl H h
              have e1 : ds.take (ds.length : Int).toNat = ds := by rw [Int.toNat_natCast]; exact List.take_length
              rw [e1] at h
              refine g_anil (x_extV h 3 rfl (.o 0) (by rw [prs_len, prs_len, sizeLine_eq]; omega) fun H1 h => ⟨_, _, _, rfl, ?_⟩)
              rw [step, prs_app]
              exact h.pick [3, 4, 5, 6] 7
          | @tup ds k =>
            have okl : okD (.tup ds) := .tup k
            have hds : ds.length ≤ 100000 := by
              have : (kids (.tup ds)).length = ds.length := rfl
              omega
            obtain ⟨a, rfl⟩ := refT h (.at 0)
            obtain ⟨b, rfl⟩ := refT h (.at 1)
            refine g_if1 (t_or (t_val (e_isiT h (.at 1) okl s_tl)) fun _ => t_val (e_isiT h (.at 1) okl s_tt)) (fun _ => ?_) (fun c => (c (.inr rfl)).elim)
            refine g_seq (g_if1 (t_and (t_val (e_isiT h (.at 1) okl s_tl)) fun _ => t_not (t_val (e_isiT h (.at 0) okl s_tl))) (fun c => nomatch c.1) fun _ => g_next ?_)
            refine g_seq (g_if1 (t_and (t_val (e_isiT h (.at 1) okl s_tt)) fun _ => t_not (t_val (e_isiT h (.at 0) okl s_tt))) (fun c => (c.2 rfl).elim) fun _ => g_next ?_)
            refine g_seq (g_if1 (t_neI (e_cb (e_cons (e_var rfl) e_nil) (c_lenT h (.at 0))) (e_cb (e_cons (e_var rfl) e_nil) (c_lenT h (.at 1)))) (fun c => (c rfl).elim) fun _ => g_next ?_)
            refine g_drop (g_bmI (e_var rfl) (tyO h 2) (g_acons ?_))
            refine x_lcR1 h (e_cons (e_cb (e_cons (e_var rfl) e_nil) (c_lenT h (.at 1))) e_nil) ⟨by omega, by omega⟩ (fun Dl m H => sat (ol Dl (prs (ds.take m)) :: .rp (.ref a) (.tup ds) :: .rp (.ref b) (.tup ds) :: ol lg (prs (((lev d i).take j).flatMap kids)) :: ol lf (prs (lev d i)) :: .rp x d :: .rp y d :: Fr) H) (fun Dl H1 h => h) ?_ ?_
            · rintro Dl m H hm h
              refine l_name rfl (l_yes ?_)
              obtain ⟨f, hf⟩ : ∃ f, ds[m]? = some f := ⟨_, List.getElem?_eq_getElem (by omega)⟩
              have hlm : (prs (ds.take m)).length < sizeLine := by rw [prs_len, List.length_take, sizeLine_eq]; omega
              refine g_tup0 (g_acons (g_op (g_e (e_var rfl) (g_e (e_var rfl) (Or.inr (Or.inl (x_ixT h (.at 1) (atI_at m rfl hf) fun u h => ?_)))))))
              refine g_acons (g_op (g_e (e_var rfl) (g_e (e_var rfl) (Or.inr (Or.inl (x_ixT h (.at 3) (atI_at m rfl hf) fun u' h => ?_))))))
              refine g_anil (x_tup0 (ds := [f, f]) h (EntA.cons (.at 1) (EntA.cons (.at 0) EntA.nil)) (sz 2 (by decide)) fun t h => ?_)
              refine x_lcE (d := .tup [f, f]) h 3 rfl (.at 0) hlm fun acc h => ?_
              refine (show sat (ol Dl (prs (ds.take (m + 1))) :: .rp (.ref a) (.tup ds) :: .rp (.ref b) (.tup ds) :: ol lg (prs (((lev d i).take j).flatMap kids)) :: ol lf (prs (lev d i)) :: .rp x d :: .rp y d :: Fr) _ from ?_)
              rw [takeS hf, prs_app]
              exact h.pick [3, 4, 5, 6, 7, 8, 9] 10
            · rintro Dl H h
              have e1 : ds.take (ds.length : Int).toNat = ds := by rw [Int.toNat_natCast]; exact List.take_length
              rw [e1] at h
              refine g_anil (x_extV h 3 rfl (.o 0) (by rw [prs_len, prs_len, sizeLine_eq]; omega) fun H1 h => ⟨_, _, _, rfl, ?_⟩)
              rw [step, prs_app]
              exact h.pick [3, 4, 5, 6] 7
        rintro σ H ⟨y5, y6, y7, rfl, h⟩
        have e2 : (lev d i).take (prs (lev d i)).length = lev d i := by rw [prs_len]; exact List.take_length
        rw [e2] at h
        refine g_set (g_cb1 (e_cons (e_var rfl) e_nil) (x_listV h (.o 0) fun p H h => ?_))
        exact ⟨p, _, _, _, _, _, rfl, hin', h.pick [0, 3, 4] 5⟩
    · rintro σ H ⟨lf, y3, y4, y5, y6, y7, rfl, hin, h⟩
      have hin : 64 ≤ n := hin
      omega


end Law

namespace Law
open PySem PySem.Spec PyProof.Rows L2 Sat
open Evl (Ex)
theorem ok_law_drawn_whole {P : Program} {w : World} {K : PySem.W.Frag} {mg : Str → Option Value} {base : Heap} (T : Tx K mg) (G_law_take : Cal P w K mg base CX0 1 "_law_take" ["store", "many"] (sp_law_take)) {f : Addr} {fd : FuncData} (F : Fun K "_law_drawn_whole" "_law_drawn_whole" s_law_drawn_whole f fd) : FnOk P w K mg base CX0 2 f fd ["store", "powers"] (sp_law_drawn_whole) := by
  have nd := sc_law_drawn_whole.nd
  refine F.ok sc_law_drawn_whole (fun vs H Q E h => ?_) (fun cdv A outer s H vs Q E hr h => ?_)
  · exact sp_law_drawn_whole_len h
  · refine ⟨_, (pss_cons (ps_set (i := 2) nd rfl (.inl rfl) (pe_f G_law_take hr (pa_cons (pv 0) (pa_cons pe_int pa_nil))))
    (pss_cons (ps_set (i := 3) nd rfl (.inl rfl) (pe_op op_add (pe_op op_mul (pe_f G_law_take hr (pa_cons (pv 0) (pa_cons (pe_op op_pow pe_int pe_int) pa_nil))) (pe_op op_pow pe_int pe_int)) (pe_f G_law_take hr (pa_cons (pv 0) (pa_cons (pe_op op_pow pe_int pe_int) pa_nil)))))
    (pss_cons (ps_set (i := 4) nd rfl (.inl rfl) (pe_f G_law_take hr (pa_cons (pv 0) (pa_cons pe_int pa_nil))))
    (pss_cons (ps_if (pt_cmpR op_eq (pv 2) pe_int (nomark _))
    (pss_one (ps_ret (pe_ix ix_list (pv 1) (pv 4) (fun _ _ => rfl))))
    pss_nil)
    (pss_cons (ps_if (pt_cmpR op_eq (pv 2) pe_int (nomark _))
    (pss_one (ps_ret (pe_op op_sub (pe_op op_sub (pe_op op_pow pe_int pe_int) pe_int) (pe_ix ix_list (pv 1) (pv 4) (fun _ _ => rfl)))))
    pss_nil)
    (pss_cons (ps_if (pt_cmpR op_eq (pv 2) pe_int (nomark _))
    (pss_one (ps_ret (pe_op op_sub (pe_op op_pow pe_int pe_int) pe_int)))
    pss_nil)
    (pss_cons (ps_if (pt_cmpR op_eq (pv 2) pe_int (nomark _))
    (pss_one (ps_ret (pe_op op_mod (pe_callTy call_int1' (by rfl) T.m_int (by decide +kernel) (pa_cons (pv 3) pa_nil)) (pe_ix ix_list (pv 1) (pv 4) (fun _ _ => rfl)))))
    pss_nil)
    (pss_one (ps_ret (pv 3)))))))))), ?_⟩
    obtain ⟨s, c, a, Fr, rfl, vi, cl, h, q⟩ := h
    refine g_seq (g_set ?_)
    refine g_call1 (e_cons (e_var rfl) (e_cons e_c e_nil)) ?_
    refine ⟨_, _, _, _, rfl, by omega, cl, h, fun r1 H4 p2 q3 h5 => ?_⟩
    refine g_seq (g_set ?_)
    refine g_op ?_
    refine g_op ?_
    refine g_call1 (e_cons (e_var rfl) (e_cons (e_op e_c e_c (r_pow ⟨by decide, by decide, by decide⟩)) e_nil)) ?_
    refine ⟨_, _, _, _, rfl, by decide, cl, h5, fun r6 H9 p7 q8 h10 => ?_⟩
    refine g_e (e_op e_c e_c (r_pow ⟨by decide, by decide, by decide⟩)) ?_
    refine g_r (r_mulR ⟨by decide, by decide⟩) ?_
    refine g_call1 (e_cons (e_var rfl) (e_cons (e_op e_c e_c (r_pow ⟨by decide, by decide, by decide⟩)) e_nil)) ?_
    refine ⟨_, _, _, _, rfl, by decide, cl, h10, fun r11 H14 p12 q13 h15 => ?_⟩
    refine g_r r_I0 ?_
    have e32 : max ((2 : Int) ^ Int.toNat 32) 1 = 4294967296 := by decide
    have e33 : (2 : Int) ^ Int.toNat 32 = 4294967296 := by decide
    rw [e32] at q8 q13
    obtain ⟨w, hw⟩ : ∃ w : Nat, (w : Int) = r6 * 2 ^ Int.toNat 32 + r11 := ⟨(r6 * 2 ^ Int.toNat 32 + r11).toNat, by rw [e33]; omega⟩
    have hw2 : w < 2 ^ 64 := by rw [e33] at hw; omega
    rw [← hw]
    refine g_seq (g_set ?_)
    refine g_call1 (e_cons (e_var rfl) (e_cons e_c e_nil)) ?_
    refine ⟨_, _, _, _, rfl, by omega, cl, h15, fun r16 H19 p17 q18 h20 => ?_⟩
    have ht : r16.toNat < 64 := by omega
    have hg := atI_ints p17 (Mk.pows_get ht)
    have hp : (0 : Int) < 2 ^ r16.toNat := Int.pow_pos (by decide)
    have hp2 : (2 : Int) ^ r16.toNat < 2 ^ 64 := by rw [Mk.pow_cast, Mk.pow_cast]; exact Int.ofNat_lt.mpr (Nat.pow_lt_pow_right (by decide) ht)
    refine g_seq ?_
    refine g_if1 (t_eqI (e_var rfl) e_c) (fun c21 => ?_) (fun c21 => ?_)
    · refine g_ret1 (e_op (e_var rfl) (e_var rfl) (r_ixV h20 (vi.up) hg)) ?_
      rw [Mk.pow_cast]
      exact q _ _ (Nat.pow_lt_pow_right (by decide) ht) h20
    · refine g_next ?_
      refine g_seq ?_
      refine g_if1 (t_eqI (e_var rfl) e_c) (fun c22 => ?_) (fun c22 => ?_)
      · refine g_ret1 (e_op (e_op (e_op e_c e_c (r_pow ⟨by decide, by decide, by decide⟩)) e_c r_I0) (e_op (e_var rfl) (e_var rfl) (r_ixV h20 (vi.up) hg)) r_I0) ?_
        have e64 : (2 : Int) ^ Int.toNat 64 = 18446744073709551616 := by decide
        obtain ⟨z, hz⟩ : ∃ z : Nat, (z : Int) = 2 ^ Int.toNat 64 - 1 - 2 ^ r16.toNat := ⟨((2 : Int) ^ Int.toNat 64 - 1 - 2 ^ r16.toNat).toNat, by rw [e64]; omega⟩
        rw [← hz]
        rw [e64] at hz
        exact q _ _ (by omega) h20
      · refine g_next ?_
        refine g_seq ?_
        refine g_if1 (t_eqI (e_var rfl) e_c) (fun c23 => ?_) (fun c23 => ?_)
        · refine g_ret1 (e_op (e_op e_c e_c (r_pow ⟨by decide, by decide, by decide⟩)) e_c r_I0) ?_
          exact q 18446744073709551615 _ (by decide) h20
        · refine g_next ?_
          refine g_seq ?_
          refine g_if1 (t_eqI (e_var rfl) e_c) (fun c24 => ?_) (fun c24 => ?_)
          · refine g_ret1 (e_op (e_cb (e_cons (e_var rfl) e_nil) c_int1) (e_op (e_var rfl) (e_var rfl) (r_ixV h20 (vi.up) hg)) (r_mod hp)) ?_
            have hm0 := emod_lo (a := (w : Int)) hp
            have hm1 := Int.emod_lt_of_pos (w : Int) hp
            obtain ⟨z, hz⟩ : ∃ z : Nat, (z : Int) = (w : Int) % 2 ^ r16.toNat := ⟨((w : Int) % 2 ^ r16.toNat).toNat, by omega⟩
            rw [← hz]
            exact q _ _ (by omega) h20
          · refine g_next ?_
            refine g_ret1 (e_var rfl) ?_
            exact q _ _ hw2 h20

end Law

namespace Law
open PySem PySem.Spec PyProof.Rows L2 Sat
open Evl (Ex)
theorem ok_law_loose {P : Program} {w : World} {K : PySem.W.Frag} {mg : Str → Option Value} {base : Heap} (T : Tx K mg) (G_law_mixed : Cal P w K mg base CX0 2 "_law_mixed" ["store", "items"] (sp_law_mixed)) (G_law_take : Cal P w K mg base CX0 1 "_law_take" ["store", "many"] (sp_law_take)) (G_law_pick : Cal P w K mg base CX0 2 "_law_pick" ["store", "items"] (sp_law_pick)) {f : Addr} {fd : FuncData} (F : Fun K "_law_loose" "_law_loose" s_law_loose f fd) : FnOk P w K mg base CX0 3 f fd ["store", "items"] (sp_law_loose) := by
  have nd := sc_law_loose.nd
  refine F.ok sc_law_loose (fun vs H Q E h => ?_) (fun cdv A outer s H vs Q E hr h => ?_)
  · exact sp_law_loose_len h
  · refine ⟨_, (pss_cons (ps_set (i := 2) nd rfl (.inl rfl) (pe_f G_law_mixed hr (pa_cons (pv 0) (pa_cons (pv 1) pa_nil))))
    (C8.pss_cut (ps_if (pt_cmpR op_gt (pe_callB call_len' (by rfl) T.m_len (by decide +kernel) (pa_cons (pv 2) pa_nil)) pe_int (nomark _))
    (pss_one (ps_for PassesOwn.never rfl (pi_range1 rfl T.m_range (pa_cons (pe_f G_law_take hr (pa_cons (pv 0) (pa_cons pe_int pa_nil))) pa_nil)) (pg_name (i := 3) nd rfl (.inl rfl))
    (pss_cons (ps_set (i := 4) nd rfl (.inl rfl) (pe_f G_law_pick hr (pa_cons (pv 0) (pa_cons (pv 2) pa_nil))))
    (pss_one (ps_expr (pe_bm PySem.F.plainAttrs_list PySem.F.slot_list_insert PySem.F.type_list_insert mt_insert' (pv 2) (pa_cons (pe_f G_law_take hr (pa_cons (pv 0) (pa_cons (pe_op op_add (pe_callB call_len' (by rfl) T.m_len (by decide +kernel) (pa_cons (pv 2) pa_nil)) pe_int) pa_nil))) (pa_cons (pv 4) pa_nil))))))))
    pss_nil)
    (pss_one (ps_ret (pv 2))))), ?_⟩
    obtain ⟨s, c, a, Fr, ns, rfl, vi, l1, cl, h, q⟩ := h
    refine g_seq (g_set ?_)
    refine g_call1 (e_cons (e_var rfl) (e_cons (e_var rfl) e_nil)) ?_
    refine ⟨_, _, _, _, _, rfl, vi, by rw [List.length_map]; omega, cl, h, fun p1 es2 H3 f5 h4 => ?_⟩
    obtain ⟨ms, rfl, hms⟩ := perm_ints f5
    have lms := hms.length_eq
    refine g_cut (fun σ H => ∃ (ms : List Int) (y3 : Option V) (y4 : Option V), σ = [some (.ref s), some (.ref a), some (.ref p1), y3, y4] ∧ (∀ m ∈ ms, m ∈ ns) ∧ (ms.length ≤ ns.length + 2) ∧ sat (sto s c :: ol p1 (ms.map dI) :: Fr) H) ?_ ?_
    · refine g_if1 (t_I (e_cb (e_cons (e_var rfl) e_nil) (c_lenV h4 (.o 1))) e_c) (fun cc => ?_) (fun cc => ?_)
      · have cc : ((ms.map dI).length : Int) > 0 := cc
        rw [List.length_map] at cc
        refine g_forR1 ?_
        refine g_acons ?_
        refine g_call1 (e_cons (e_var rfl) (e_cons e_c e_nil)) ?_
        refine ⟨_, _, _, _, rfl, by omega, cl.up, h4, fun r7 H10 p8 q9 h11 => ?_⟩
        refine g_anil ?_
        refine y_forR1  ⟨by omega, by omega⟩ (fun i σ H => ∃ (ms : List Int) (y3 : Option V) (y4 : Option V), σ = [some (.ref s), some (.ref a), some (.ref p1), y3, y4] ∧ (∀ m ∈ ms, m ∈ ns) ∧ (ms.length = ns.length + i) ∧ (0 < ms.length) ∧ sat (sto s c :: ol p1 (ms.map dI) :: Fr) H) ⟨ms, _, _, rfl, fun m hm => hms.mem_iff.mp hm, by omega, by omega, h11⟩ ?_ ?_
        · rintro i σ H hi ⟨ms, y3, y4, rfl, hm, hl, hp, h⟩
          refine g_name ?_
          refine g_seq (g_set ?_)
          refine g_call1 (e_cons (e_var rfl) (e_cons (e_var rfl) e_nil)) ?_
          refine ⟨_, _, _, _, _, rfl, (.o 0), by omega, by omega, cl.up, h, fun r12 H14 p13 h15 => ?_⟩
          refine g_drop ?_
          refine g_bmI (e_var rfl) (tyO h15 1) ?_
          refine g_acons ?_
          refine g_call1 (e_cons (e_var rfl) (e_cons (e_op (e_cb (e_cons (e_var rfl) e_nil) (c_lenV h15 (.o 1))) e_c r_I0) e_nil)) ?_
          refine ⟨_, _, _, _, rfl, by rw [List.length_map]; omega, cl.up, h15, fun r18 H21 p19 q20 h22 => ?_⟩
          refine g_acons1 (e_var rfl) ?_
          refine g_anil ?_
          refine x_ins (d := dI r12) h22 1 rfl Ent.v (by rw [List.length_map, sizeLine_eq]; omega) p19 (by rw [List.length_map] at q20; omega) fun H16 h17 => ?_
          have h17 : sat (sto s c :: ol p1 ((ms.map dI).take (r18).toNat ++ [dI r12] ++ (ms.map dI).drop (r18).toNat) :: Fr) _ := h17
          rw [ins_ints] at h17
          exact ⟨_, _, _, rfl, ins_mem hm (hm _ p13), by rw [ins_len]; omega, by rw [ins_len]; omega, h17⟩
        rintro σ H ⟨ms, y3, y4, rfl, hm, hl, hp, h⟩
        exact ⟨_, _, _, rfl, by first | assumption | exact fun m hm => hms.mem_iff.mp hm, by omega, h⟩
      · refine g_next ?_
        exact ⟨_, _, _, rfl, by first | assumption | exact fun m hm => hms.mem_iff.mp hm, by omega, h4⟩
    rintro σ H ⟨ms, y3, y4, rfl, hm, hl, h⟩
    refine g_ret1 (e_var rfl) ?_
    exact q _ _ _ hm hl h

end Law

namespace Law
open PySem PySem.Spec PyProof.Rows L2 Sat
open Evl (Ex)
theorem ok_law_numbers {P : Program} {w : World} {K : PySem.W.Frag} {mg : Str → Option Value} {base : Heap} (T : Tx K mg) (G_law_take : Cal P w K mg base CX0 1 "_law_take" ["store", "many"] (sp_law_take)) (G_law_pick : Cal P w K mg base CX0 2 "_law_pick" ["store", "items"] (sp_law_pick)) (G_law_between : Cal P w K mg base CX0 2 "_law_between" ["store", "low", "high"] (sp_law_between)) {f : Addr} {fd : FuncData} (F : Fun K "_law_numbers" "_law_numbers" s_law_numbers f fd) : FnOk P w K mg base CX0 3 f fd ["store", "many", "top"] (sp_law_numbers) := by
  have nd := sc_law_numbers.nd
  refine F.ok sc_law_numbers (fun vs H Q E h => ?_) (fun cdv A outer s H vs Q E hr h => ?_)
  · exact sp_law_numbers_len h
  · refine ⟨_, (pss_cons (ps_set (i := 3) nd rfl (.inl rfl) (pe_lst pa_nil))
    (pss_cons (ps_for PassesOwn.never rfl (pi_range1 rfl T.m_range (pa_cons (pv 1) pa_nil)) (pg_name (i := 4) nd rfl (.inl rfl))
    (pss_one (ps_if (PW.pt (pw_and (pt_cmpR op_gt (pe_callB call_len' (by rfl) T.m_len (by decide +kernel) (pa_cons (pv 3) pa_nil)) pe_int (nomark _)) (pw_and1 (pt_cmpR op_eq (pe_f G_law_take hr (pa_cons (pv 0) (pa_cons pe_int pa_nil))) pe_int (nomark _)))))
    (pss_one (ps_expr (pe_bm PySem.F.plainAttrs_list PySem.F.slot_list_append PySem.F.type_list_append mt_append (pv 3) (pa_cons (pe_f G_law_pick hr (pa_cons (pv 0) (pa_cons (pv 3) pa_nil))) pa_nil))))
    (pss_one (ps_expr (pe_bm PySem.F.plainAttrs_list PySem.F.slot_list_append PySem.F.type_list_append mt_append (pv 3) (pa_cons (pe_f G_law_between hr (pa_cons (pv 0) (pa_cons pe_int (pa_cons (pe_op op_sub (pv 2) pe_int) pa_nil)))) pa_nil)))))))
    (pss_one (ps_ret (pv 3))))), ?_⟩
    obtain ⟨s, c, many, top, Fr, rfl, l0, l1, l2, l3, cl, h, q⟩ := h
    refine g_seq (g_set ?_)
    refine g_lst0 ?_
    refine g_anil ?_
    refine x_lst0 (ds := []) h EntA.nil (sz 0 (by decide)) fun p1 h3 => ?_
    have h4 := h3.pick [1, 0] 2
    have h4 : sat (sto s c :: ol p1 [] :: Fr) _ := h4
    refine g_seq ?_
    refine x_forR1 (e_cons (e_var rfl) e_nil) ⟨by omega, by omega⟩ (fun i σ H => ∃ (ms : List Int) (y4 : Option V), σ = [some (.ref s), some (.int many), some (.int top), some (.ref p1), y4] ∧ (∀ m ∈ ms, 0 ≤ m ∧ m < top) ∧ (ms.length = i) ∧ sat (sto s c :: ol p1 (ms.map dI) :: Fr) H) ⟨[], _, rfl, (fun _ z => nomatch z), rfl, h4⟩ ?_ ?_
    · rintro i σ H hi ⟨ms, y4, rfl, hm, hl, h⟩
      have lm : (ms.map dI).length = ms.length := List.length_map ..
      have zz : (ms.map dI).length < sizeLine := by rw [sizeLine_eq]; omega
      refine g_name ?_
      refine g_if ?_
      refine g_and ?_
      refine (t_I (e_cb (e_cons (e_var rfl) e_nil) (c_lenV h (.o 1))) e_c) _ (fun c5 => ?_) (fun c5 => ?_)
      · refine iteT ?_
        refine g_T ?_
        refine g_op ?_
        refine g_call1 (e_cons (e_var rfl) (e_cons e_c e_nil)) ?_
        refine ⟨_, _, _, _, rfl, by omega, cl.up, h, fun r6 H9 p7 q8 h10 => ?_⟩
        refine g_e e_c ?_
        refine g_r r_eqI ?_
        refine g_dec (fun c5' => ?_) (fun c5' => ?_)
        · refine iteT ?_
          refine g_drop ?_
          refine g_bmI (e_var rfl) (tyO h10 1) ?_
          refine g_acons ?_
          refine g_call1 (e_cons (e_var rfl) (e_cons (e_var rfl) e_nil)) ?_
          refine ⟨_, _, _, _, _, rfl, (.o 0), by omega, by omega, cl.up, h10, fun r13 H15 p14 h16 => ?_⟩
          refine g_anil ?_
          refine x_app (d := dI r13) h16 1 rfl Ent.v (by assumption) fun H11 h12 => ?_
          have h12 : sat (sto s c :: ol p1 ((ms.map dI) ++ [dI r13]) :: Fr) _ := h12
          refine ⟨ms ++ [r13], _, rfl, ?_, by rw [List.length_append, hl]; rfl, by rw [List.map_append]; exact h12⟩
          intro m hm'
          rcases List.mem_append.mp hm' with z | z
          · exact hm m z
          · rw [List.mem_singleton.mp z]
            first | exact hm _ p14 | exact ⟨by omega, by omega⟩
        · refine iteF ?_
          refine g_drop ?_
          refine g_bmI (e_var rfl) (tyO h10 1) ?_
          refine g_acons ?_
          refine g_call1 (e_cons (e_var rfl) (e_cons e_c (e_cons (e_op (e_var rfl) e_c r_I0) e_nil))) ?_
          refine ⟨_, _, _, _, _, rfl, by omega, by omega, cl.up, h10, fun r19 H22 p20 p21 h23 => ?_⟩
          refine g_anil ?_
          refine x_app (d := dI r19) h23 1 rfl Ent.v (by assumption) fun H17 h18 => ?_
          have h18 : sat (sto s c :: ol p1 ((ms.map dI) ++ [dI r19]) :: Fr) _ := h18
          refine ⟨ms ++ [r19], _, rfl, ?_, by rw [List.length_append, hl]; rfl, by rw [List.map_append]; exact h18⟩
          intro m hm'
          rcases List.mem_append.mp hm' with z | z
          · exact hm m z
          · rw [List.mem_singleton.mp z]
            first | exact hm _ p20 | exact ⟨by omega, by omega⟩
      · refine iteF ?_
        refine iteF ?_
        refine g_drop ?_
        refine g_bmI (e_var rfl) (tyO h 1) ?_
        refine g_acons ?_
        refine g_call1 (e_cons (e_var rfl) (e_cons e_c (e_cons (e_op (e_var rfl) e_c r_I0) e_nil))) ?_
        refine ⟨_, _, _, _, _, rfl, by omega, by omega, cl.up, h, fun r26 H29 p27 p28 h30 => ?_⟩
        refine g_anil ?_
        refine x_app (d := dI r26) h30 1 rfl Ent.v (by assumption) fun H24 h25 => ?_
        have h25 : sat (sto s c :: ol p1 ((ms.map dI) ++ [dI r26]) :: Fr) _ := h25
        refine ⟨ms ++ [r26], _, rfl, ?_, by rw [List.length_append, hl]; rfl, by rw [List.map_append]; exact h25⟩
        intro m hm'
        rcases List.mem_append.mp hm' with z | z
        · exact hm m z
        · rw [List.mem_singleton.mp z]
          first | exact hm _ p27 | exact ⟨by omega, by omega⟩
    rintro σ H ⟨ms, y4, rfl, hm, hl, h⟩
    refine g_ret1 (e_var rfl) ?_
    exact q _ _ _ hm (by omega) h

end Law

namespace Law
open PySem PySem.Spec PyProof.Rows L2 Sat
open Evl (Ex)
theorem ok_law_whole_right {P : Program} {w : World} {K : PySem.W.Frag} {mg : Str → Option Value} {base : Heap} (T : Tx K mg) (G_law_same : Cal P w K mg base CX0 2 "_law_same" ["actual", "expected"] (sp_law_same)) (G_members : Cal P w K mg base CX0 1 "members" ["mask"] (sp_members)) (G_count_bits : Cal P w K mg base CX0 1 "count_bits" ["mask"] (sp_count_bits)) (G_lowest : Cal P w K mg base CX0 1 "lowest" ["mask"] (sp_lowest)) (K_count_bits : KAll K G_count_bits.fd ["mask"]) (K_lowest : KAll K G_lowest.fd ["mask"]) (K_members : KAll K G_members.fd ["mask"]) {f : Addr} {fd : FuncData} (F : Fun K "_law_whole_right" "_law_whole_right" s_law_whole_right f fd) : FnOk P w K mg base CX0 3 f fd ["whole", "powers", "named"] (sp_law_whole_right) := by
  have nd := sc_law_whole_right.nd
  refine F.ok sc_law_whole_right (fun vs H Q E h => ?_) (fun cdv A outer s H vs Q E hr h => ?_)
  · exact sp_law_whole_right_len h
  · refine ⟨_, (pss_cons (ps_setLc (i := 3) (own := [("at", 8)]) (by rfl) nd rfl rfl (sw_true rfl rfl rfl (by decide +kernel)) (pi_range1 rfl T.m_range (pa_cons pe_int pa_nil)) (blkOk_by (own := [("at", 8)]) (N := ["whole", "powers", "named", "rising", "least", "due", "told", "first", "at"]) (sc := defScope s_law_whole_right) (by decide +kernel)) (fun _ _ _ _ _ => (pg_name (i := 8) nd rfl (.inl rfl))) (fun _ _ _ _ _ => pts_one (pt_cmpR op_eq (pe_op op_mod (pe_callTy call_int1' (by rfl) T.m_int (by decide +kernel) (pa_cons (pe_op op_fdivW (pv 0) (pe_ix (ix_listK (K := K) rfl) (pv 1) (pv 8) (fun _ _ => rfl))) pa_nil)) pe_int) pe_int (nomark _))) (fun _ _ _ _ _ => (pv 8)))
    (pss_cons (ps_set (i := 4) nd rfl (.inl rfl) pe_non)
    (C8.pss_cut (ps_if (pt_cmpR op_gt (pe_callB call_len' (by rfl) T.m_len (by decide +kernel) (pa_cons (pv 3) pa_nil)) pe_int (nomark _))
    (pss_one (ps_set (i := 4) nd rfl (.inl rfl) (pe_ix ix_list (pv 3) pe_int (fun _ _ => rfl))))
    pss_nil)
    (pss_cons (ps_set (i := 5) nd rfl (.inl rfl) (pe_lst (pa_cons (pv 3) (pa_cons (pe_callB call_len' (by rfl) T.m_len (by decide +kernel) (pa_cons (pv 3) pa_nil)) (pa_cons (pv 4) pa_nil)))))
    (C8.pss_cut (ps_if (pt_val (pv 2))
    (pss_one (ps_set (i := 6) nd rfl (.inl rfl) (pe_lst (pa_cons (pe_fK G_members K_members hr pass0 (pk_cons (pv 0) pk_nil)) (pa_cons (pe_fK G_count_bits K_count_bits hr pass0 (pk_cons (pv 0) pk_nil)) (pa_cons (pe_fK G_lowest K_lowest hr pass0 (pk_cons (pv 0) pk_nil)) pa_nil))))))
    (pss_one (ps_set (i := 6) nd rfl (.inl rfl) (pe_lst (pa_cons (pe_f G_members hr (pa_cons (pv 0) pa_nil)) (pa_cons (pe_f G_count_bits hr (pa_cons (pv 0) pa_nil)) (pa_cons (pe_f G_lowest hr (pa_cons (pv 0) pa_nil)) pa_nil)))))))
    (pss_cons (ps_if (pt_not (pt_val (pe_f G_law_same hr (pa_cons (pv 6) (pa_cons (pv 5) pa_nil)))))
    (pss_one (ps_ret pe_bl))
    pss_nil)
    (pss_cons (ps_set (i := 7) nd rfl (.inl rfl) (pe_ix ix_list (pv 6) pe_int (fun _ _ => rfl)))
    (pss_cons (ps_expr (pe_bm PySem.F.plainAttrs_list PySem.F.slot_list_append PySem.F.type_list_append mt_append (pv 7) (pa_cons pe_int pa_nil)))
    (pss_one (ps_ret (pe_f G_law_same hr (pa_cons (pe_lst (pa_cons (pe_f G_members hr (pa_cons (pv 0) pa_nil)) (pa_cons (pe_f G_count_bits hr (pa_cons (pv 0) pa_nil)) (pa_cons (pe_f G_lowest hr (pa_cons (pv 0) pa_nil)) pa_nil)))) (pa_cons (pv 5) pa_nil))))))))))))), ?_⟩
    obtain ⟨m, a, b, Fr, rfl, hm, vi, h, q⟩ := h
    refine g_seq (g_set ?_)
    refine x_lcR1 h (e_cons e_c e_nil) ⟨by decide, by decide⟩ (fun Dl i H => sat (ol Dl ((Mk.numsTo m i).map fun (j : Nat) => dI (j : Int)) :: Fr) H) (fun Dl H1 h => h) ?_ ?_
    · rintro Dl i H hi h
      have hi2 : i < 64 := by omega
      have hg := atI_at (xs := (Mk.pows 64).map dI) (z := (i : Int)) i rfl (by rw [List.getElem?_map, Mk.pows_get hi2]; rfl)
      have hp : (0 : Int) < 2 ^ i := Int.pow_pos (by decide)
      have hp2 : (2 : Int) ^ i < 2 ^ 250 := by rw [Mk.pow_cast, Mk.pow_cast]; exact Int.ofNat_lt.mpr (Nat.pow_lt_pow_right (by decide) (by omega))
      refine l_name rfl ?_
      refine l_if (t_eqI (e_op (e_cb (e_cons (e_op (e_var rfl) (e_op (e_var rfl) (e_var rfl) (r_ixV h (vi.up) hg)) (r_divW hp hp2)) e_nil) c_int1) e_c (r_mod (by decide))) e_c) (fun c => ?_) (fun c => ?_)
      · refine g_e (e_var rfl) ?_
        refine x_lcE (d := dI (i : Int)) h 0 rfl Ent.v (by rw [List.length_map, sizeLine_eq]; have := List.length_filter_le m.testBit (List.range i); rw [List.length_range] at this; unfold Mk.numsTo; omega) fun H1 h2 => ?_
        refine (show sat (ol Dl ((Mk.numsTo m (i + 1)).map fun (j : Nat) => dI (j : Int)) :: Fr) _ from ?_)
        rw [Mk.numsTo_yes ((Mk.law_test m i).mp c), List.map_append]
        exact h2
      · refine (show sat (ol Dl ((Mk.numsTo m (i + 1)).map fun (j : Nat) => dI (j : Int)) :: Fr) _ from ?_)
        rw [Mk.numsTo_no (Bool.eq_false_iff.mpr fun z => c ((Mk.law_test m i).mpr z))]
        exact h
    rintro Dl H h
    have h : sat (ol Dl ((Mk.bits m).map dI) :: Fr) H := by unfold Mk.bits; rw [List.map_map]; exact h
    have hbl : ((Mk.bits m).map dI).length = (Mk.nums m).length := by rw [List.length_map, Mk.bits_len]
    refine g_seq (g_set1 e_c ?_)
    refine g_cut (fun σ H => σ = [some (.int (m : Int)), some (.ref a), some (.bl b), some (.ref Dl), some (leastV m), none, none, none, none] ∧ sat (ol Dl ((Mk.bits m).map dI) :: Fr) H) ?_ ?_
    · refine g_if1 (t_I (e_cb (e_cons (e_var rfl) e_nil) (c_lenV h (.o 0))) e_c) (fun cc => ?_) (fun cc => ?_)
      · have cc : (((Mk.bits m).map dI).length : Int) > 0 := cc
        rw [hbl] at cc
        obtain ⟨k, hk⟩ : ∃ k, (Mk.nums m)[0]? = some k := ⟨_, List.getElem?_eq_getElem (by omega)⟩
        have hv : leastV m = .int (k : Int) := by unfold leastV; rw [hk]
        refine g_set1 (e_op (e_var rfl) e_c (r_ixV h (.o 0) (bits_get hk))) ?_
        exact ⟨by rw [hv]; rfl, h⟩
      · have cc : ¬ (((Mk.bits m).map dI).length : Int) > 0 := cc
        rw [hbl] at cc
        have hv : leastV m = .non := by unfold leastV; rw [List.getElem?_eq_none (by omega)]
        refine g_next ?_
        exact ⟨by rw [hv]; rfl, h⟩
    rintro σ H ⟨rfl, h⟩
    have hlen : (((Mk.bits m).map dI).length : Int) = ((Mk.nums m).length : Nat) := by rw [hbl]
    refine g_seq (g_set (g_lst0 (g_a (e_cons (e_var rfl) (e_cons (e_cb (e_cons (e_var rfl) e_nil) (c_lenV h (.o 0))) (e_cons (e_var rfl) e_nil))) ?_)))
    refine x_lstP h (sz 3 (by decide)) fun du h => ?_
    refine g_cut (fun σ H => ∃ td r1 : Addr, σ = [some (.int (m : Int)), some (.ref a), some (.bl b), some (.ref Dl), some (leastV m), some (.ref du), some (.ref td), none, none] ∧
      sat (pt td (.lst [.ref r1, .int ((Mk.nums m).length : Nat), leastV m]) :: ol r1 ((Mk.bits m).map dI) :: pt du (.lst [.ref Dl, .int ((((Mk.bits m).map dI).length : Nat) : Int), leastV m]) :: ol Dl ((Mk.bits m).map dI) :: Fr) H) ?_ ?_
    · refine g_if1 (t_val (e_var rfl)) (fun _ => ?_) (fun _ => ?_)
      · refine g_set (g_lst0 (g_acons (g_call1 (e_cons (e_var rfl) e_nil) ⟨m, _, rfl, hm, h, fun r1 H1 h => ?_⟩)))
        refine g_acons (g_call1 (e_cons (e_var rfl) e_nil) ⟨m, _, rfl, hm, h, fun H2 h => ?_⟩)
        refine g_acons (g_call1 (e_cons (e_var rfl) e_nil) ⟨m, _, rfl, hm, h, fun H3 h => ?_⟩)
        exact g_anil (x_lstP h (sz 3 (by decide)) fun td h => ⟨td, r1, rfl, h⟩)
      · refine g_set (g_lst0 (g_acons (g_call1 (e_cons (e_var rfl) e_nil) ⟨m, _, rfl, hm, h, fun r1 H1 h => ?_⟩)))
        refine g_acons (g_call1 (e_cons (e_var rfl) e_nil) ⟨m, _, rfl, hm, h, fun H2 h => ?_⟩)
        refine g_acons (g_call1 (e_cons (e_var rfl) e_nil) ⟨m, _, rfl, hm, h, fun H3 h => ?_⟩)
        exact g_anil (x_lstP h (sz 3 (by decide)) fun td h => ⟨td, r1, rfl, h⟩)
    rintro σ H ⟨td, r1, rfl, h⟩
    refine g_seq (g_if (g_not (g_B (g_call1 (e_cons (e_var rfl) (e_cons (e_var rfl) e_nil)) ?_))))
    refine same_any h (told_rp h 0 1 rfl) (told_rp h 2 3 hlen) (dueD_ok m) (by decide) (dueD_lev m) (dueD_le m) fun H1 h => ?_
    refine ⟨true, rfl, iteF (g_next ?_)⟩
    refine g_seq (g_set1 (e_op (e_var rfl) e_c (r_ixP h 0 rfl)) ?_)
    refine g_seq (g_drop (g_bm (e_var rfl) (tyO h 1) (e_cons e_c e_nil) (x_app (d := dI 7) h 1 rfl Ent.v (by have := Mk.nums_le m; rw [hbl, sizeLine_eq]; omega) fun H2 h => ?_)))
    have h := h.pick [2, 3] 4
    refine g_ret (g_call (g_acons (g_lst0 (g_acons (g_call1 (e_cons (e_var rfl) e_nil) ⟨m, _, rfl, hm, h, fun r2 H3 h => ?_⟩)))))
    refine g_acons (g_call1 (e_cons (e_var rfl) e_nil) ⟨m, _, rfl, hm, h, fun H4 h => ?_⟩)
    refine g_acons (g_call1 (e_cons (e_var rfl) e_nil) ⟨m, _, rfl, hm, h, fun H5 h => ?_⟩)
    refine g_anil (x_lstP h (sz 3 (by decide)) fun td2 h => ?_)
    refine g_acons1 (e_var rfl) (g_anil ?_)
    exact same_any h (told_rp h 0 1 rfl) (told_rp h 2 3 hlen) (dueD_ok m) (by decide) (dueD_lev m) (dueD_le m) fun H6 h => q _ (h.drop 4)

end Law

namespace Law
open PySem PySem.Spec PyProof.Rows L2 Sat
open Evl (Ex)
theorem ok_law_drawn_row {P : Program} {w : World} {K : PySem.W.Frag} {mg : Str → Option Value} {base : Heap} (T : Tx K mg) (G_law_take : Cal P w K mg base CX0 1 "_law_take" ["store", "many"] (sp_law_take)) (G_law_numbers : Cal P w K mg base CX0 3 "_law_numbers" ["store", "many", "top"] (sp_law_numbers)) (G_law_loose : Cal P w K mg base CX0 3 "_law_loose" ["store", "items"] (sp_law_loose)) (G_law_size : Cal P w K mg base CX0 2 "_law_size" ["store", "least", "most"] (sp_law_size)) (G_law_some : Cal P w K mg base CX0 2 "_law_some" ["store", "items"] (sp_law_some)) {f : Addr} {fd : FuncData} (F : Fun K "_law_drawn_row" "_law_drawn_row" s_law_drawn_row f fd) : FnOk P w K mg base CX0 4 f fd ["store"] (sp_law_drawn_row) := by
  have nd := sc_law_drawn_row.nd
  refine F.ok sc_law_drawn_row (fun vs H Q E h => ?_) (fun cdv A outer s H vs Q E hr h => ?_)
  · exact sp_law_drawn_row_len h
  · refine ⟨_, (pss_cons (ps_set (i := 1) nd rfl (.inl rfl) (pe_f G_law_take hr (pa_cons (pv 0) (pa_cons pe_int pa_nil))))
    (pss_cons (ps_if (pt_cmpR op_eq (pv 1) pe_int (nomark _))
    (pss_one (ps_ret (pe_f G_law_loose hr (pa_cons (pv 0) (pa_cons (pe_f G_law_some hr (pa_cons (pv 0) (pa_cons (pe_listRg rfl (by rfl) T.m_list (prg_1 (by rfl) T.m_range pe_int)) pa_nil))) pa_nil)))))
    pss_nil)
    (pss_cons (ps_set (i := 2) nd rfl (.inl rfl) pe_int)
    (C8.pss_cut (ps_if (pt_cmpR op_eq (pv 1) pe_int (nomark _))
    (pss_one (ps_set (i := 2) nd rfl (.inl rfl) (pe_op op_add pe_int (pe_f G_law_take hr (pa_cons (pv 0) (pa_cons pe_int pa_nil))))))
    pss_nil)
    (pss_one (ps_ret (pe_f G_law_numbers hr (pa_cons (pv 0) (pa_cons (pe_f G_law_size hr (pa_cons (pv 0) (pa_cons pe_int (pa_cons pe_int pa_nil)))) (pa_cons (pv 2) pa_nil)))))))))), ?_⟩
    obtain ⟨s, c, Fr, rfl, cl, h, q⟩ := h
    refine g_seq (g_set ?_)
    refine g_call1 (e_cons (e_var rfl) (e_cons e_c e_nil)) ?_
    refine ⟨_, _, _, _, rfl, by omega, cl, h, fun r1 H4 p2 q3 h5 => ?_⟩
    refine g_seq ?_
    refine g_if1 (t_eqI (e_var rfl) e_c) (fun c6 => ?_) (fun c6 => ?_)
    · refine g_ret ?_
      refine g_call ?_
      refine g_acons1 (e_var rfl) ?_
      refine g_acons ?_
      refine g_call ?_
      refine g_acons1 (e_var rfl) ?_
      refine g_acons ?_
      refine g_listR1 h5 e_c ⟨by omega, by omega⟩ fun p7 H8 h9 => ?_
      have h10 := h9.pick [1, 0] 2
      have h10 : sat (sto s c :: ol p7 ((rangeI 0 64).map dI) :: Fr) _ := h10
      refine g_anil ?_
      refine ⟨_, _, _, _, _, rfl, (.o 0), by rw [List.length_map, rangeI_len]; omega, cl.up, h10, fun p11 es12 H13 f15 h14 => ?_⟩
      obtain ⟨ns, ens, hns⟩ := sub_ints f15
      have lns := hns.length_le
      rw [rangeI_len] at lns
      subst ens
      refine g_anil ?_
      refine ⟨_, _, _, _, _, rfl, (.o 0), by omega, cl.up.up, h14, fun p16 es17 H18 f20 f21 h19 => ?_⟩
      exact q _ _ _ (fun m hm => mem_rangeI.mp (hns.mem (f20 m hm))) (by omega) (h19.pick [0, 1] 4)
    · refine g_next ?_
      refine g_seq (g_set1 e_c ?_)
      refine g_cut (fun σ H => ∃ (top : Int), σ = [some (.ref s), some (.int r1), some (.int top)] ∧ (1 ≤ top) ∧ (top ≤ 64) ∧ sat (sto s c :: Fr) H) ?_ ?_
      · refine g_if1 (t_eqI (e_var rfl) e_c) (fun c22 => ?_) (fun c22 => ?_)
        · refine g_set ?_
          refine g_op ?_
          refine g_e e_c ?_
          refine g_call1 (e_cons (e_var rfl) (e_cons e_c e_nil)) ?_
          refine ⟨_, _, _, _, rfl, by omega, cl, h5, fun r23 H26 p24 q25 h27 => ?_⟩
          refine g_r r_I0 ?_
          exact ⟨_, rfl, by omega, by omega, h27⟩
        · refine g_next ?_
          exact ⟨_, rfl, by omega, by omega, h5⟩
      rintro σ H ⟨top, rfl, t0, t1, h⟩
      refine g_ret ?_
      refine g_call ?_
      refine g_acons1 (e_var rfl) ?_
      refine g_acons ?_
      refine g_call1 (e_cons (e_var rfl) (e_cons e_c (e_cons e_c e_nil))) ?_
      refine ⟨_, _, _, _, _, rfl, by omega, by omega, cl, h, fun r28 H31 p29 p30 h32 => ?_⟩
      refine g_acons1 (e_var rfl) ?_
      refine g_anil ?_
      refine ⟨_, _, _, _, _, rfl, by omega, by omega, by omega, by omega, cl, h32, fun p33 es34 H35 f37 f38 h36 => ?_⟩
      exact q _ _ _ (fun m hm => by have := f37 m hm; omega) (by omega) h36

end Law

namespace Law
open PySem PySem.Spec PyProof.Rows L2 Sat
open Evl (Ex)
theorem ok_law_row_right {P : Program} {w : World} {K : PySem.W.Frag} {mg : Str → Option Value} {base : Heap} (T : Tx K mg) (G_mask_of : Cal P w K mg base CX0 1 "mask_of" ["numbers"] (sp_mask_of)) (G_law_same : Cal P w K mg base CX0 2 "_law_same" ["actual", "expected"] (sp_law_same)) (G_law_whole_right : Cal P w K mg base CX0 3 "_law_whole_right" ["whole", "powers", "named"] (sp_law_whole_right)) (K_mask_of : KAll K G_mask_of.fd ["numbers"]) {f : Addr} {fd : FuncData} (F : Fun K "_law_row_right" "_law_row_right" s_law_row_right f fd) : FnOk P w K mg base CX0 4 f fd ["row", "powers", "named"] (sp_law_row_right) := by
  have nd := sc_law_row_right.nd
  refine F.ok sc_law_row_right (fun vs H Q E h => ?_) (fun cdv A outer s H vs Q E hr h => ?_)
  · exact sp_law_row_right_len h
  · refine ⟨_, (pss_cons (ps_set (i := 3) nd rfl (.inl rfl) (pe_callB (cr_sum rfl) (by rfl) T.m_sum (by decide +kernel) (pa_cons (pe_lc (own := [("at", 7)]) (by rfl) nd (pi_range1 rfl T.m_range (pa_cons pe_int pa_nil)) (blkOk_by (own := [("at", 7)]) (N := ["row", "powers", "named", "due", "handed", "told", "row_back", "at"]) (sc := defScope s_law_row_right) (by decide +kernel)) (fun _ _ _ _ _ => (pg_name (i := 7) nd rfl (.inl rfl))) (fun _ _ _ _ _ => pts_one (pt_cmpR (op_inK (K := K) rfl) (pv 7) (pv 0) (by with_unfolding_all rfl))) (fun _ _ _ _ _ => (pe_ix (ix_listK (K := K) rfl) (pv 1) (pv 7) (fun _ _ => rfl)))) pa_nil)))
    (pss_cons (ps_set (i := 4) nd rfl (.inl rfl) (pe_callTy call_list' (by rfl) T.m_list (by decide +kernel) (pa_cons (pv 0) pa_nil)))
    (C8.pss_cut (ps_if (pt_val (pv 2))
    (pss_one (ps_set (i := 5) nd rfl (.inl rfl) (pe_fK G_mask_of K_mask_of hr pass0 (pk_cons (pv 4) pk_nil))))
    (pss_one (ps_set (i := 5) nd rfl (.inl rfl) (pe_f G_mask_of hr (pa_cons (pv 4) pa_nil)))))
    (pss_cons (ps_if (PW.pt (pw_or (pt_not (pt_val (pe_f G_law_same hr (pa_cons (pv 5) (pa_cons (pv 3) pa_nil))))) (pw_or1 (pt_not (pt_val (pe_f G_law_same hr (pa_cons (pv 4) (pa_cons (pv 0) pa_nil))))))))
    (pss_one (ps_ret pe_bl))
    pss_nil)
    (pss_cons (ps_expr (pe_bm0 PySem.F.plainAttrs_list PySem.F.slot_list_clear PySem.F.type_list_clear mt_clear (pv 4)))
    (pss_cons (ps_expr (pe_bm PySem.F.plainAttrs_list PySem.F.slot_list_extend PySem.F.type_list_extend mt_extend (pv 4) (pa_cons (pe_lst (pa_cons pe_int (pa_cons pe_int (pa_cons pe_int pa_nil)))) pa_nil)))
    (pss_cons (ps_if (pt_not (pt_val (pe_f G_law_same hr (pa_cons (pe_f G_mask_of hr (pa_cons (pv 4) pa_nil)) (pa_cons (pe_op op_add (pe_ix ix_list (pv 1) pe_int (fun _ _ => rfl)) (pe_ix ix_list (pv 1) pe_int (fun _ _ => rfl))) pa_nil)))))
    (pss_one (ps_ret pe_bl))
    pss_nil)
    (pss_cons (ps_set (i := 6) nd rfl (.inl rfl) (pe_listRev rfl (by rfl) T.m_list (by rfl) T.m_reversed (pv 0)))
    (pss_one (ps_ret (pe_and (pe_f G_law_same hr (pa_cons (pe_f G_mask_of hr (pa_cons (pv 6) pa_nil)) (pa_cons (pv 3) pa_nil))) (pe_one (pe_f G_law_whole_right hr (pa_cons (pv 5) (pa_cons (pv 1) (pa_cons (pv 2) pa_nil)))))))))))))))), ?_⟩
    obtain ⟨r, a, b, ns, Fr, rfl, vr, hb, hl, vi, h, q⟩ := h
    have hm : Mk.maskOf ns < 2 ^ 64 := Mk.maskOf_lt hb
    refine g_seq (g_set ?_)
    refine g_cb ?_
    refine g_acons ?_
    refine x_lcR1 h (e_cons e_c e_nil) ⟨by decide, by decide⟩ (fun Dl i H => sat (ol Dl ((((Mk.numsTo (Mk.maskOf ns) i).map fun (j : Nat) => (2 : Int) ^ j)).map dI) :: Fr) H) (fun Dl H1 h => h) ?_ ?_
    · rintro Dl i H hi h
      have hi2 : i < 64 := by omega
      have hg := atI_at (xs := (Mk.pows 64).map dI) (z := (i : Int)) i rfl (by rw [List.getElem?_map, Mk.pows_get hi2]; rfl)
      have hmem := Mk.tb_maskOf_mem (fun n hn => (hb n hn).1) i
      refine l_name rfl ?_
      refine l_if (t_dec (e_op (e_var rfl) (e_var rfl) (r_inV h (vr.up)))) (fun c => ?_) (fun c => ?_)
      · refine g_e (e_op (e_var rfl) (e_var rfl) (r_ixV h (vi.up) hg)) ?_
        refine x_lcE (d := dI (2 ^ i)) h 0 rfl Ent.v (by rw [List.length_map, List.length_map, sizeLine_eq]; have := List.length_filter_le (Mk.maskOf ns).testBit (List.range i); rw [List.length_range] at this; unfold Mk.numsTo; omega) fun H1 h2 => ?_
        refine (show sat (ol Dl ((((Mk.numsTo (Mk.maskOf ns) (i + 1)).map fun (j : Nat) => (2 : Int) ^ j)).map dI) :: Fr) _ from ?_)
        rw [Mk.numsTo_yes (hmem.mpr c), List.map_append, List.map_append]
        exact h2
      · refine (show sat (ol Dl ((((Mk.numsTo (Mk.maskOf ns) (i + 1)).map fun (j : Nat) => (2 : Int) ^ j)).map dI) :: Fr) _ from ?_)
        rw [Mk.numsTo_no (Bool.eq_false_iff.mpr fun z => c (hmem.mp z))]
        exact h
    rintro Dl H h
    have h : sat (ol Dl ((((Mk.numsTo (Mk.maskOf ns) 64).map fun (j : Nat) => (2 : Int) ^ j)).map dI) :: Fr) H := h
    have hsum : (((Mk.numsTo (Mk.maskOf ns) 64).map fun (j : Nat) => (2 : Int) ^ j)).sum = (Mk.maskOf ns : Nat) := Mk.sum_nums hm
    refine g_anil ?_
    refine g_c (c_sumV h (.o 0)) ?_
    rw [hsum]
    have hd := h.pick [] 1
    refine g_seq (g_set ?_)
    refine g_cb1 (e_cons (e_var rfl) e_nil) ?_
    refine x_listV hd vr fun p3 H4 h5 => ?_
    refine g_cut (fun σ H => σ = [some (.ref r), some (.ref a), some (.bl b), some (.int (Mk.maskOf ns : Nat)), some (.ref p3), some (.int (Mk.maskOf ns : Nat)), none, none] ∧ sat (ol p3 (ns.map dI) :: Fr) H) ?_ ?_
    · refine g_if1 (t_val (e_var rfl)) (fun c6 => ?_) (fun c6 => ?_)
      · refine g_set ?_
        refine g_call1 (e_cons (e_var rfl) e_nil) ?_
        refine ⟨_, _, _, rfl, (.o 0), hb, h5, fun H7 h8 => ?_⟩
        exact ⟨rfl, h8⟩
      · refine g_set ?_
        refine g_call1 (e_cons (e_var rfl) e_nil) ?_
        refine ⟨_, _, _, rfl, (.o 0), hb, h5, fun H9 h10 => ?_⟩
        exact ⟨rfl, h10⟩
    rintro σ H ⟨rfl, h⟩
    refine g_seq ?_
    refine g_if ?_
    refine g_or ?_
    refine g_not ?_
    refine g_B ?_
    refine g_call1 (e_cons (e_var rfl) (e_cons (e_var rfl) e_nil)) ?_
    refine same_int h fun H12 h13 => ?_
    refine ⟨_, rfl, ?_⟩
    refine iteF ?_
    refine g_not ?_
    refine g_B ?_
    refine g_call1 (e_cons (e_var rfl) (e_cons (e_var rfl) e_nil)) ?_
    refine same_ints h13 (.o 0) (vr.up) (by omega) fun H14 h15 => ?_
    refine ⟨_, rfl, ?_⟩
    refine iteF ?_
    refine g_next ?_
    refine g_seq (g_drop (g_bm0 (e_var rfl) (tyO h15 0) (x_clear h15 0 rfl fun H1 h => ?_)))
    refine g_seq (g_drop (g_bmI (e_var rfl) (tyO h 0) (g_acons (g_lst0 ?_))))
    refine g_a (e_cons e_c (e_cons e_c (e_cons e_c e_nil))) ?_
    refine x_lst0 (ds := [dI 5, dI 63, dI 5]) h (EntA.cons Ent.v (EntA.cons Ent.v (EntA.cons Ent.v EntA.nil))) (sz 3 (by decide)) fun l3 h => ?_
    refine g_anil (x_extV h 1 rfl (.o 0) (by rw [sizeLine_eq]; decide) fun H2 h => ?_)
    have h := h.pick [1] 2
    have hp5 : atI ((Mk.pows 64).map dI) 5 = some (.v (.int (2 ^ 5))) := atI_at 5 rfl (by rw [List.getElem?_map, Mk.pows_get (by decide)]; rfl)
    have hp63 : atI ((Mk.pows 64).map dI) 63 = some (.v (.int (2 ^ 63))) := atI_at 63 rfl (by rw [List.getElem?_map, Mk.pows_get (by decide)]; rfl)
    have e3 : ((Mk.maskOf [5, 63, 5] : Nat) : Int) = 2 ^ 5 + 2 ^ 63 := by decide
    refine g_seq (g_if (g_not (g_B (g_call (g_acons (g_call1 (e_cons (e_var rfl) e_nil) ?_))))))
    refine ⟨_, _, [5, 63, 5], rfl, .o 0, by decide, h, fun H3 h => ?_⟩
    refine g_acons1 (e_op (e_op (e_var rfl) e_c (r_ixV h vi.up hp5)) (e_op (e_var rfl) e_c (r_ixV h vi.up hp63)) r_I0) (g_anil ?_)
    rw [e3]
    refine same_int h fun H4 h => ⟨true, rfl, iteF (g_next ?_)⟩
    refine g_seq (g_set (g_listRev h vr.up (e_var rfl) fun rb H5 h => ?_))
    have e4 : (ns.map dI).reverse = ns.reverse.map dI := List.map_reverse.symm
    rw [e4] at h
    have e5 : Mk.maskOf ns.reverse = Mk.maskOf ns := Mk.maskOf_perm (List.reverse_perm ns)
    refine g_ret ?_
    refine g_andV (g_call (g_acons (g_call1 (e_cons (e_var rfl) e_nil) ?_)))
    refine ⟨_, _, ns.reverse, rfl, .o 0, fun n hn => hb n (List.mem_reverse.mp hn), h, fun H6 h => ?_⟩
    rw [e5]
    refine g_acons1 (e_var rfl) (g_anil ?_)
    refine same_int h fun H7 h => ⟨true, rfl, iteT ?_⟩
    refine g_call1 (e_cons (e_var rfl) (e_cons (e_var rfl) (e_cons (e_var rfl) e_nil))) ?_
    exact ⟨_, _, _, _, rfl, hm, vi.up.up, h, fun H8 h => q _ (h.drop 2)⟩

end Law

namespace Law
open PySem PySem.Spec PyProof.Rows L2 Sat
open Evl (Ex)
theorem ok_law {P : Program} {w : World} {K : PySem.W.Frag} {mg : Str → Option Value} {base : Heap} (T : Tx K mg) (G_law_store : Cal P w K mg base CX0 1 "_law_store" ["script"] (sp_law_store K)) (G_law_powers : Cal P w K mg base CX0 1 "_law_powers" [] (sp_law_powers)) (G_law_drawn_row : Cal P w K mg base CX0 4 "_law_drawn_row" ["store"] (sp_law_drawn_row)) (G_law_drawn_whole : Cal P w K mg base CX0 2 "_law_drawn_whole" ["store", "powers"] (sp_law_drawn_whole)) (G_law_row_right : Cal P w K mg base CX0 4 "_law_row_right" ["row", "powers", "named"] (sp_law_row_right)) (G_law_take : Cal P w K mg base CX0 1 "_law_take" ["store", "many"] (sp_law_take)) (G_law_whole_right : Cal P w K mg base CX0 3 "_law_whole_right" ["whole", "powers", "named"] (sp_law_whole_right)) {f : Addr} {fd : FuncData} (F : Fun K "law" "law" s_law f fd) : FnOk P w K mg base CX0 5 f fd ["script"] (sp_law K) := by
  have nd := sc_law.nd
  refine F.ok sc_law (fun vs H Q E h => ?_) (fun cdv A outer s H vs Q E hr h => ?_)
  · exact sp_law_len h
  · refine ⟨_, (pss_cons (ps_set (i := 1) nd rfl (.inl rfl) (pe_f G_law_store hr (pa_cons (pv 0) pa_nil)))
    (pss_cons (ps_set (i := 2) nd rfl (.inl rfl) (pe_f0 G_law_powers hr))
    (pss_cons (ps_set (i := 3) nd rfl (.inl rfl) (pe_f G_law_drawn_row hr (pa_cons (pv 1) pa_nil)))
    (pss_cons (ps_set (i := 4) nd rfl (.inl rfl) (pe_f G_law_drawn_row hr (pa_cons (pv 1) pa_nil)))
    (pss_cons (ps_set (i := 5) nd rfl (.inl rfl) (pe_f G_law_drawn_whole hr (pa_cons (pv 1) (pa_cons (pv 2) pa_nil))))
    (pss_cons (ps_set (i := 6) nd rfl (.inl rfl) (pe_cmpR op_eq (pe_f G_law_take hr (pa_cons (pv 1) (pa_cons pe_int pa_nil))) pe_int (nomark _)))
    (pss_cons (ps_if (PW.pt (pw_or (pt_not (pt_val (pe_f G_law_row_right hr (pa_cons (pv 3) (pa_cons (pv 2) (pa_cons (pv 6) pa_nil)))))) (pw_or1 (pt_not (pt_val (pe_f G_law_row_right hr (pa_cons (pv 4) (pa_cons (pv 2) (pa_cons (pe_not (pv 6)) pa_nil)))))))))
    (pss_one (ps_ret pe_bl))
    pss_nil)
    (pss_cons (ps_if (PW.pt (pw_or (pt_not (pt_val (pe_f G_law_whole_right hr (pa_cons (pv 5) (pa_cons (pv 2) (pa_cons (pv 6) pa_nil)))))) (pw_or1 (pt_not (pt_val (pe_f G_law_whole_right hr (pa_cons pe_int (pa_cons (pv 2) (pa_cons (pv 6) pa_nil)))))))))
    (pss_one (ps_ret pe_bl))
    pss_nil)
    (pss_one (ps_ret (pe_f G_law_row_right hr (pa_cons (pv 3) (pa_cons (pv 2) (pa_cons (pe_not (pv 6)) pa_nil)))))))))))))), ?_⟩
    obtain ⟨a, ns, rfl, hS, hl, q⟩ := h
    refine g_seq (g_set (g_call1 (e_cons (e_var rfl) e_nil) ⟨a, ns, rfl, hS, hl, fun s c H1 h => ?_⟩))
    refine g_seq (g_set (g_call (g_anil ⟨_, rfl, h, fun pw H2 h => ?_⟩)))
    have h := h.pick [1, 0, 2] 3
    have h : sat (sto s c :: ol pw ((Mk.pows 64).map dI) :: ol c (ns.map dI) :: []) _ := h
    have cl : Cl (ol pw ((Mk.pows 64).map dI) :: ol c (ns.map dI) :: []) c := ⟨ns, .o 1⟩
    refine g_seq (g_set (g_call1 (e_cons (e_var rfl) e_nil) ⟨s, c, _, rfl, cl, h, fun p1 m1 H3 b1 l1 h => ?_⟩))
    refine g_seq (g_set (g_call1 (e_cons (e_var rfl) e_nil) ⟨s, c, _, rfl, cl.up, h, fun p2 m2 H4 b2 l2 h => ?_⟩))
    refine g_seq (g_set (g_call1 (e_cons (e_var rfl) (e_cons (e_var rfl) e_nil)) ⟨s, c, pw, _, rfl, .o 2, cl.up.up, h, fun w H5 hw h => ?_⟩))
    refine g_seq (g_set (g_op (g_call1 (e_cons (e_var rfl) (e_cons e_c e_nil)) ⟨s, c, _, _, rfl, by decide, cl.up.up, h, fun r H6 r0 r1 h => ?_⟩)))
    refine g_e e_c (g_r r_eqI ?_)
    generalize decide (r = 1) = nm
    refine g_seq (g_if (g_or (g_not (g_B (g_call1 (e_cons (e_var rfl) (e_cons (e_var rfl) (e_cons (e_var rfl) e_nil))) ⟨p1, pw, nm, m1, _, rfl, .o 2, b1, l1, .o 3, h, fun H7 h => ⟨true, rfl, iteF ?_⟩⟩)))))
    refine g_not (g_B (g_call1 (e_cons (e_var rfl) (e_cons (e_var rfl) (e_cons (e_notV (e_var rfl)) e_nil))) ⟨p2, pw, !nm, m2, _, rfl, .o 1, b2, l2, .o 3, h, fun H8 h => ⟨true, rfl, iteF (g_next ?_)⟩⟩))
    refine g_seq (g_if (g_or (g_not (g_B (g_call1 (e_cons (e_var rfl) (e_cons (e_var rfl) (e_cons (e_var rfl) e_nil))) ⟨w, pw, nm, _, rfl, hw, .o 3, h, fun H9 h => ⟨true, rfl, iteF ?_⟩⟩)))))
    refine g_not (g_B (g_call1 (e_cons e_c (e_cons (e_var rfl) (e_cons (e_var rfl) e_nil))) ⟨0, pw, nm, _, rfl, by decide, .o 3, h, fun H10 h => ⟨true, rfl, iteF (g_next ?_)⟩⟩))
    exact g_ret (g_call1 (e_cons (e_var rfl) (e_cons (e_var rfl) (e_cons (e_notV (e_var rfl)) e_nil))) ⟨p1, pw, !nm, m1, _, rfl, .o 2, b1, l1, .o 3, h, fun H11 h => q _⟩)

end Law

namespace Law
open PySem PySem.Spec PyProof.Rows L2 Sat
open Evl (Ex)
theorem all_mk {l : PySem.W.OpenLaw} {w : World} {K : PySem.W.Frag} {h : Heap} {mg : Str → Option Value} {fa : Addr} (X : K.In h) (G : h.Ns mainGlobals mg) (hfa : mg "law" = some (.ref fa))
    {f_mask_of : Addr} {od_mask_of an_mask_of : Option Addr} {sl_mask_of : Array (Option Value)} {oc_mask_of kV_mask_of dc_mask_of pm_mask_of cd_mask_of ct_mask_of : Value} (a_mask_of : PySem.W.nsIn K mainGlobals "mask_of" = some (some (.ref f_mask_of))) (l_mask_of : K.lookup f_mask_of = some ⟨oc_mask_of, od_mask_of, .func (PySem.W.fnOf "mask_of" "mask_of" (defArgs s_mask_of) (defBody s_mask_of) (defScope s_mask_of) .none kV_mask_of dc_mask_of pm_mask_of an_mask_of cd_mask_of ct_mask_of), sl_mask_of⟩) (c_mask_of : PySem.W.codeIn K cd_mask_of "mask_of" = true) (k_mask_of : PySem.W.keepIn K (.ref f_mask_of) = true)
    {f_members : Addr} {od_members an_members : Option Addr} {sl_members : Array (Option Value)} {oc_members kV_members dc_members pm_members cd_members ct_members : Value} (a_members : PySem.W.nsIn K mainGlobals "members" = some (some (.ref f_members))) (l_members : K.lookup f_members = some ⟨oc_members, od_members, .func (PySem.W.fnOf "members" "members" (defArgs s_members) (defBody s_members) (defScope s_members) .none kV_members dc_members pm_members an_members cd_members ct_members), sl_members⟩) (c_members : PySem.W.codeIn K cd_members "members" = true) (k_members : PySem.W.keepIn K (.ref f_members) = true)
    {f_count_bits : Addr} {od_count_bits an_count_bits : Option Addr} {sl_count_bits : Array (Option Value)} {oc_count_bits kV_count_bits dc_count_bits pm_count_bits cd_count_bits ct_count_bits : Value} (a_count_bits : PySem.W.nsIn K mainGlobals "count_bits" = some (some (.ref f_count_bits))) (l_count_bits : K.lookup f_count_bits = some ⟨oc_count_bits, od_count_bits, .func (PySem.W.fnOf "count_bits" "count_bits" (defArgs s_count_bits) (defBody s_count_bits) (defScope s_count_bits) .none kV_count_bits dc_count_bits pm_count_bits an_count_bits cd_count_bits ct_count_bits), sl_count_bits⟩) (c_count_bits : PySem.W.codeIn K cd_count_bits "count_bits" = true) (k_count_bits : PySem.W.keepIn K (.ref f_count_bits) = true)
    {f_lowest : Addr} {od_lowest an_lowest : Option Addr} {sl_lowest : Array (Option Value)} {oc_lowest kV_lowest dc_lowest pm_lowest cd_lowest ct_lowest : Value} (a_lowest : PySem.W.nsIn K mainGlobals "lowest" = some (some (.ref f_lowest))) (l_lowest : K.lookup f_lowest = some ⟨oc_lowest, od_lowest, .func (PySem.W.fnOf "lowest" "lowest" (defArgs s_lowest) (defBody s_lowest) (defScope s_lowest) .none kV_lowest dc_lowest pm_lowest an_lowest cd_lowest ct_lowest), sl_lowest⟩) (c_lowest : PySem.W.codeIn K cd_lowest "lowest" = true) (k_lowest : PySem.W.keepIn K (.ref f_lowest) = true)
    {f_law_store : Addr} {od_law_store an_law_store : Option Addr} {sl_law_store : Array (Option Value)} {oc_law_store kV_law_store dc_law_store pm_law_store cd_law_store ct_law_store : Value} (a_law_store : PySem.W.nsIn K mainGlobals "_law_store" = some (some (.ref f_law_store))) (l_law_store : K.lookup f_law_store = some ⟨oc_law_store, od_law_store, .func (PySem.W.fnOf "_law_store" "_law_store" (defArgs s_law_store) (defBody s_law_store) (defScope s_law_store) .none kV_law_store dc_law_store pm_law_store an_law_store cd_law_store ct_law_store), sl_law_store⟩) (c_law_store : PySem.W.codeIn K cd_law_store "_law_store" = true) (k_law_store : PySem.W.keepIn K (.ref f_law_store) = true)
    {f_law_take : Addr} {od_law_take an_law_take : Option Addr} {sl_law_take : Array (Option Value)} {oc_law_take kV_law_take dc_law_take pm_law_take cd_law_take ct_law_take : Value} (a_law_take : PySem.W.nsIn K mainGlobals "_law_take" = some (some (.ref f_law_take))) (l_law_take : K.lookup f_law_take = some ⟨oc_law_take, od_law_take, .func (PySem.W.fnOf "_law_take" "_law_take" (defArgs s_law_take) (defBody s_law_take) (defScope s_law_take) .none kV_law_take dc_law_take pm_law_take an_law_take cd_law_take ct_law_take), sl_law_take⟩) (c_law_take : PySem.W.codeIn K cd_law_take "_law_take" = true) (k_law_take : PySem.W.keepIn K (.ref f_law_take) = true)
    {f_law_pick : Addr} {od_law_pick an_law_pick : Option Addr} {sl_law_pick : Array (Option Value)} {oc_law_pick kV_law_pick dc_law_pick pm_law_pick cd_law_pick ct_law_pick : Value} (a_law_pick : PySem.W.nsIn K mainGlobals "_law_pick" = some (some (.ref f_law_pick))) (l_law_pick : K.lookup f_law_pick = some ⟨oc_law_pick, od_law_pick, .func (PySem.W.fnOf "_law_pick" "_law_pick" (defArgs s_law_pick) (defBody s_law_pick) (defScope s_law_pick) .none kV_law_pick dc_law_pick pm_law_pick an_law_pick cd_law_pick ct_law_pick), sl_law_pick⟩) (c_law_pick : PySem.W.codeIn K cd_law_pick "_law_pick" = true) (k_law_pick : PySem.W.keepIn K (.ref f_law_pick) = true)
    {f_law_between : Addr} {od_law_between an_law_between : Option Addr} {sl_law_between : Array (Option Value)} {oc_law_between kV_law_between dc_law_between pm_law_between cd_law_between ct_law_between : Value} (a_law_between : PySem.W.nsIn K mainGlobals "_law_between" = some (some (.ref f_law_between))) (l_law_between : K.lookup f_law_between = some ⟨oc_law_between, od_law_between, .func (PySem.W.fnOf "_law_between" "_law_between" (defArgs s_law_between) (defBody s_law_between) (defScope s_law_between) .none kV_law_between dc_law_between pm_law_between an_law_between cd_law_between ct_law_between), sl_law_between⟩) (c_law_between : PySem.W.codeIn K cd_law_between "_law_between" = true) (k_law_between : PySem.W.keepIn K (.ref f_law_between) = true)
    {f_law_size : Addr} {od_law_size an_law_size : Option Addr} {sl_law_size : Array (Option Value)} {oc_law_size kV_law_size dc_law_size pm_law_size cd_law_size ct_law_size : Value} (a_law_size : PySem.W.nsIn K mainGlobals "_law_size" = some (some (.ref f_law_size))) (l_law_size : K.lookup f_law_size = some ⟨oc_law_size, od_law_size, .func (PySem.W.fnOf "_law_size" "_law_size" (defArgs s_law_size) (defBody s_law_size) (defScope s_law_size) .none kV_law_size dc_law_size pm_law_size an_law_size cd_law_size ct_law_size), sl_law_size⟩) (c_law_size : PySem.W.codeIn K cd_law_size "_law_size" = true) (k_law_size : PySem.W.keepIn K (.ref f_law_size) = true)
    {f_law_mixed : Addr} {od_law_mixed an_law_mixed : Option Addr} {sl_law_mixed : Array (Option Value)} {oc_law_mixed kV_law_mixed dc_law_mixed pm_law_mixed cd_law_mixed ct_law_mixed : Value} (a_law_mixed : PySem.W.nsIn K mainGlobals "_law_mixed" = some (some (.ref f_law_mixed))) (l_law_mixed : K.lookup f_law_mixed = some ⟨oc_law_mixed, od_law_mixed, .func (PySem.W.fnOf "_law_mixed" "_law_mixed" (defArgs s_law_mixed) (defBody s_law_mixed) (defScope s_law_mixed) .none kV_law_mixed dc_law_mixed pm_law_mixed an_law_mixed cd_law_mixed ct_law_mixed), sl_law_mixed⟩) (c_law_mixed : PySem.W.codeIn K cd_law_mixed "_law_mixed" = true) (k_law_mixed : PySem.W.keepIn K (.ref f_law_mixed) = true)
    {f_law_some : Addr} {od_law_some an_law_some : Option Addr} {sl_law_some : Array (Option Value)} {oc_law_some kV_law_some dc_law_some pm_law_some cd_law_some ct_law_some : Value} (a_law_some : PySem.W.nsIn K mainGlobals "_law_some" = some (some (.ref f_law_some))) (l_law_some : K.lookup f_law_some = some ⟨oc_law_some, od_law_some, .func (PySem.W.fnOf "_law_some" "_law_some" (defArgs s_law_some) (defBody s_law_some) (defScope s_law_some) .none kV_law_some dc_law_some pm_law_some an_law_some cd_law_some ct_law_some), sl_law_some⟩) (c_law_some : PySem.W.codeIn K cd_law_some "_law_some" = true) (k_law_some : PySem.W.keepIn K (.ref f_law_some) = true)
    {f_law_loose : Addr} {od_law_loose an_law_loose : Option Addr} {sl_law_loose : Array (Option Value)} {oc_law_loose kV_law_loose dc_law_loose pm_law_loose cd_law_loose ct_law_loose : Value} (a_law_loose : PySem.W.nsIn K mainGlobals "_law_loose" = some (some (.ref f_law_loose))) (l_law_loose : K.lookup f_law_loose = some ⟨oc_law_loose, od_law_loose, .func (PySem.W.fnOf "_law_loose" "_law_loose" (defArgs s_law_loose) (defBody s_law_loose) (defScope s_law_loose) .none kV_law_loose dc_law_loose pm_law_loose an_law_loose cd_law_loose ct_law_loose), sl_law_loose⟩) (c_law_loose : PySem.W.codeIn K cd_law_loose "_law_loose" = true) (k_law_loose : PySem.W.keepIn K (.ref f_law_loose) = true)
    {f_law_numbers : Addr} {od_law_numbers an_law_numbers : Option Addr} {sl_law_numbers : Array (Option Value)} {oc_law_numbers kV_law_numbers dc_law_numbers pm_law_numbers cd_law_numbers ct_law_numbers : Value} (a_law_numbers : PySem.W.nsIn K mainGlobals "_law_numbers" = some (some (.ref f_law_numbers))) (l_law_numbers : K.lookup f_law_numbers = some ⟨oc_law_numbers, od_law_numbers, .func (PySem.W.fnOf "_law_numbers" "_law_numbers" (defArgs s_law_numbers) (defBody s_law_numbers) (defScope s_law_numbers) .none kV_law_numbers dc_law_numbers pm_law_numbers an_law_numbers cd_law_numbers ct_law_numbers), sl_law_numbers⟩) (c_law_numbers : PySem.W.codeIn K cd_law_numbers "_law_numbers" = true) (k_law_numbers : PySem.W.keepIn K (.ref f_law_numbers) = true)
    {f_law_is_number : Addr} {od_law_is_number an_law_is_number : Option Addr} {sl_law_is_number : Array (Option Value)} {oc_law_is_number kV_law_is_number dc_law_is_number pm_law_is_number cd_law_is_number ct_law_is_number : Value} (a_law_is_number : PySem.W.nsIn K mainGlobals "_law_is_number" = some (some (.ref f_law_is_number))) (l_law_is_number : K.lookup f_law_is_number = some ⟨oc_law_is_number, od_law_is_number, .func (PySem.W.fnOf "_law_is_number" "_law_is_number" (defArgs s_law_is_number) (defBody s_law_is_number) (defScope s_law_is_number) .none kV_law_is_number dc_law_is_number pm_law_is_number an_law_is_number cd_law_is_number ct_law_is_number), sl_law_is_number⟩) (c_law_is_number : PySem.W.codeIn K cd_law_is_number "_law_is_number" = true) (k_law_is_number : PySem.W.keepIn K (.ref f_law_is_number) = true)
    {f_law_same : Addr} {od_law_same an_law_same : Option Addr} {sl_law_same : Array (Option Value)} {oc_law_same kV_law_same dc_law_same pm_law_same cd_law_same ct_law_same : Value} (a_law_same : PySem.W.nsIn K mainGlobals "_law_same" = some (some (.ref f_law_same))) (l_law_same : K.lookup f_law_same = some ⟨oc_law_same, od_law_same, .func (PySem.W.fnOf "_law_same" "_law_same" (defArgs s_law_same) (defBody s_law_same) (defScope s_law_same) .none kV_law_same dc_law_same pm_law_same an_law_same cd_law_same ct_law_same), sl_law_same⟩) (c_law_same : PySem.W.codeIn K cd_law_same "_law_same" = true) (k_law_same : PySem.W.keepIn K (.ref f_law_same) = true)
    {f_law_powers : Addr} {od_law_powers an_law_powers : Option Addr} {sl_law_powers : Array (Option Value)} {oc_law_powers kV_law_powers dc_law_powers pm_law_powers cd_law_powers ct_law_powers : Value} (a_law_powers : PySem.W.nsIn K mainGlobals "_law_powers" = some (some (.ref f_law_powers))) (l_law_powers : K.lookup f_law_powers = some ⟨oc_law_powers, od_law_powers, .func (PySem.W.fnOf "_law_powers" "_law_powers" (defArgs s_law_powers) (defBody s_law_powers) (defScope s_law_powers) .none kV_law_powers dc_law_powers pm_law_powers an_law_powers cd_law_powers ct_law_powers), sl_law_powers⟩) (c_law_powers : PySem.W.codeIn K cd_law_powers "_law_powers" = true) (k_law_powers : PySem.W.keepIn K (.ref f_law_powers) = true)
    {f_law_drawn_row : Addr} {od_law_drawn_row an_law_drawn_row : Option Addr} {sl_law_drawn_row : Array (Option Value)} {oc_law_drawn_row kV_law_drawn_row dc_law_drawn_row pm_law_drawn_row cd_law_drawn_row ct_law_drawn_row : Value} (a_law_drawn_row : PySem.W.nsIn K mainGlobals "_law_drawn_row" = some (some (.ref f_law_drawn_row))) (l_law_drawn_row : K.lookup f_law_drawn_row = some ⟨oc_law_drawn_row, od_law_drawn_row, .func (PySem.W.fnOf "_law_drawn_row" "_law_drawn_row" (defArgs s_law_drawn_row) (defBody s_law_drawn_row) (defScope s_law_drawn_row) .none kV_law_drawn_row dc_law_drawn_row pm_law_drawn_row an_law_drawn_row cd_law_drawn_row ct_law_drawn_row), sl_law_drawn_row⟩) (c_law_drawn_row : PySem.W.codeIn K cd_law_drawn_row "_law_drawn_row" = true) (k_law_drawn_row : PySem.W.keepIn K (.ref f_law_drawn_row) = true)
    {f_law_drawn_whole : Addr} {od_law_drawn_whole an_law_drawn_whole : Option Addr} {sl_law_drawn_whole : Array (Option Value)} {oc_law_drawn_whole kV_law_drawn_whole dc_law_drawn_whole pm_law_drawn_whole cd_law_drawn_whole ct_law_drawn_whole : Value} (a_law_drawn_whole : PySem.W.nsIn K mainGlobals "_law_drawn_whole" = some (some (.ref f_law_drawn_whole))) (l_law_drawn_whole : K.lookup f_law_drawn_whole = some ⟨oc_law_drawn_whole, od_law_drawn_whole, .func (PySem.W.fnOf "_law_drawn_whole" "_law_drawn_whole" (defArgs s_law_drawn_whole) (defBody s_law_drawn_whole) (defScope s_law_drawn_whole) .none kV_law_drawn_whole dc_law_drawn_whole pm_law_drawn_whole an_law_drawn_whole cd_law_drawn_whole ct_law_drawn_whole), sl_law_drawn_whole⟩) (c_law_drawn_whole : PySem.W.codeIn K cd_law_drawn_whole "_law_drawn_whole" = true) (k_law_drawn_whole : PySem.W.keepIn K (.ref f_law_drawn_whole) = true)
    {f_law_whole_right : Addr} {od_law_whole_right an_law_whole_right : Option Addr} {sl_law_whole_right : Array (Option Value)} {oc_law_whole_right kV_law_whole_right dc_law_whole_right pm_law_whole_right cd_law_whole_right ct_law_whole_right : Value} (a_law_whole_right : PySem.W.nsIn K mainGlobals "_law_whole_right" = some (some (.ref f_law_whole_right))) (l_law_whole_right : K.lookup f_law_whole_right = some ⟨oc_law_whole_right, od_law_whole_right, .func (PySem.W.fnOf "_law_whole_right" "_law_whole_right" (defArgs s_law_whole_right) (defBody s_law_whole_right) (defScope s_law_whole_right) .none kV_law_whole_right dc_law_whole_right pm_law_whole_right an_law_whole_right cd_law_whole_right ct_law_whole_right), sl_law_whole_right⟩) (c_law_whole_right : PySem.W.codeIn K cd_law_whole_right "_law_whole_right" = true) (k_law_whole_right : PySem.W.keepIn K (.ref f_law_whole_right) = true)
    {f_law_row_right : Addr} {od_law_row_right an_law_row_right : Option Addr} {sl_law_row_right : Array (Option Value)} {oc_law_row_right kV_law_row_right dc_law_row_right pm_law_row_right cd_law_row_right ct_law_row_right : Value} (a_law_row_right : PySem.W.nsIn K mainGlobals "_law_row_right" = some (some (.ref f_law_row_right))) (l_law_row_right : K.lookup f_law_row_right = some ⟨oc_law_row_right, od_law_row_right, .func (PySem.W.fnOf "_law_row_right" "_law_row_right" (defArgs s_law_row_right) (defBody s_law_row_right) (defScope s_law_row_right) .none kV_law_row_right dc_law_row_right pm_law_row_right an_law_row_right cd_law_row_right ct_law_row_right), sl_law_row_right⟩) (c_law_row_right : PySem.W.codeIn K cd_law_row_right "_law_row_right" = true) (k_law_row_right : PySem.W.keepIn K (.ref f_law_row_right) = true)
    {f_law : Addr} {od_law an_law : Option Addr} {sl_law : Array (Option Value)} {oc_law kV_law dc_law pm_law cd_law ct_law : Value} (a_law : PySem.W.nsIn K mainGlobals "law" = some (some (.ref f_law))) (l_law : K.lookup f_law = some ⟨oc_law, od_law, .func (PySem.W.fnOf "law" "law" (defArgs s_law) (defBody s_law) (defScope s_law) .none kV_law dc_law pm_law an_law cd_law ct_law), sl_law⟩) (c_law : PySem.W.codeIn K cd_law "law" = true) (k_law : PySem.W.keepIn K (.ref f_law) = true)
    (z_range : PySem.W.nsIn K mainGlobals "range" = some none) (z_int : PySem.W.nsIn K mainGlobals "int" = some none) (z_len : PySem.W.nsIn K mainGlobals "len" = some none) (z_max : PySem.W.nsIn K mainGlobals "max" = some none) (z_abs : PySem.W.nsIn K mainGlobals "abs" = some none) (z_min : PySem.W.nsIn K mainGlobals "min" = some none) (z_list : PySem.W.nsIn K mainGlobals "list" = some none) (z_isinstance : PySem.W.nsIn K mainGlobals "isinstance" = some none) (z_bool : PySem.W.nsIn K mainGlobals "bool" = some none) (z_tuple : PySem.W.nsIn K mainGlobals "tuple" = some none) (z_str : PySem.W.nsIn K mainGlobals "str" = some none) (z_sum : PySem.W.nsIn K mainGlobals "sum" = some none) (z_reversed : PySem.W.nsIn K mainGlobals "reversed" = some none) :
    ∃ fd : FuncData, (∀ (s : Shared) (v : Value), BindsTo s fd ⟨[v], []⟩ [("script", v)]) ∧ ∀ base : Heap, K.In base → base.Ns mainGlobals mg → FnOk l.prog w K mg base CX0 5 fa fd ["script"] (sp_law K) := by
  have e := hfa.symm.trans (PySem.W.mg_of X G a_law)
  cases e
  have T : Tx K mg := ⟨PySem.W.mg_none_of X G z_range, PySem.W.mg_none_of X G z_int, PySem.W.mg_none_of X G z_len, PySem.W.mg_none_of X G z_max, PySem.W.mg_none_of X G z_abs, PySem.W.mg_none_of X G z_min, PySem.W.mg_none_of X G z_list, PySem.W.mg_none_of X G z_isinstance, PySem.W.mg_none_of X G z_bool, PySem.W.mg_none_of X G z_tuple, PySem.W.mg_none_of X G z_str, PySem.W.mg_none_of X G z_sum, PySem.W.mg_none_of X G z_reversed⟩
  have F_mask_of := fun_mk (st := s_mask_of) l_mask_of c_mask_of k_mask_of
  have b_mask_of := F_mask_of.binds (ps := ["numbers"]) fun _ _ _ _ _ _ us hl => match us, hl with | [_], _ => rfl
  have F_members := fun_mk (st := s_members) l_members c_members k_members
  have b_members := F_members.binds (ps := ["mask"]) fun _ _ _ _ _ _ us hl => match us, hl with | [_], _ => rfl
  have F_count_bits := fun_mk (st := s_count_bits) l_count_bits c_count_bits k_count_bits
  have b_count_bits := F_count_bits.binds (ps := ["mask"]) fun _ _ _ _ _ _ us hl => match us, hl with | [_], _ => rfl
  have F_lowest := fun_mk (st := s_lowest) l_lowest c_lowest k_lowest
  have b_lowest := F_lowest.binds (ps := ["mask"]) fun _ _ _ _ _ _ us hl => match us, hl with | [_], _ => rfl
  have F_law_store := fun_mk (st := s_law_store) l_law_store c_law_store k_law_store
  have b_law_store := F_law_store.binds (ps := ["script"]) fun _ _ _ _ _ _ us hl => match us, hl with | [_], _ => rfl
  have F_law_take := fun_mk (st := s_law_take) l_law_take c_law_take k_law_take
  have b_law_take := F_law_take.binds (ps := ["store", "many"]) fun _ _ _ _ _ _ us hl => match us, hl with | [_, _], _ => rfl
  have F_law_pick := fun_mk (st := s_law_pick) l_law_pick c_law_pick k_law_pick
  have b_law_pick := F_law_pick.binds (ps := ["store", "items"]) fun _ _ _ _ _ _ us hl => match us, hl with | [_, _], _ => rfl
  have F_law_between := fun_mk (st := s_law_between) l_law_between c_law_between k_law_between
  have b_law_between := F_law_between.binds (ps := ["store", "low", "high"]) fun _ _ _ _ _ _ us hl => match us, hl with | [_, _, _], _ => rfl
  have F_law_size := fun_mk (st := s_law_size) l_law_size c_law_size k_law_size
  have b_law_size := F_law_size.binds (ps := ["store", "least", "most"]) fun _ _ _ _ _ _ us hl => match us, hl with | [_, _, _], _ => rfl
  have F_law_mixed := fun_mk (st := s_law_mixed) l_law_mixed c_law_mixed k_law_mixed
  have b_law_mixed := F_law_mixed.binds (ps := ["store", "items"]) fun _ _ _ _ _ _ us hl => match us, hl with | [_, _], _ => rfl
  have F_law_some := fun_mk (st := s_law_some) l_law_some c_law_some k_law_some
  have b_law_some := F_law_some.binds (ps := ["store", "items"]) fun _ _ _ _ _ _ us hl => match us, hl with | [_, _], _ => rfl
  have F_law_loose := fun_mk (st := s_law_loose) l_law_loose c_law_loose k_law_loose
  have b_law_loose := F_law_loose.binds (ps := ["store", "items"]) fun _ _ _ _ _ _ us hl => match us, hl with | [_, _], _ => rfl
  have F_law_numbers := fun_mk (st := s_law_numbers) l_law_numbers c_law_numbers k_law_numbers
  have b_law_numbers := F_law_numbers.binds (ps := ["store", "many", "top"]) fun _ _ _ _ _ _ us hl => match us, hl with | [_, _, _], _ => rfl
  have F_law_is_number := fun_mk (st := s_law_is_number) l_law_is_number c_law_is_number k_law_is_number
  have b_law_is_number := F_law_is_number.binds (ps := ["value"]) fun _ _ _ _ _ _ us hl => match us, hl with | [_], _ => rfl
  have F_law_same := fun_mk (st := s_law_same) l_law_same c_law_same k_law_same
  have b_law_same := F_law_same.binds (ps := ["actual", "expected"]) fun _ _ _ _ _ _ us hl => match us, hl with | [_, _], _ => rfl
  have F_law_powers := fun_mk (st := s_law_powers) l_law_powers c_law_powers k_law_powers
  have b_law_powers := F_law_powers.binds (ps := []) fun _ _ _ _ _ _ us hl => match us, hl with | [], _ => rfl
  have F_law_drawn_row := fun_mk (st := s_law_drawn_row) l_law_drawn_row c_law_drawn_row k_law_drawn_row
  have b_law_drawn_row := F_law_drawn_row.binds (ps := ["store"]) fun _ _ _ _ _ _ us hl => match us, hl with | [_], _ => rfl
  have F_law_drawn_whole := fun_mk (st := s_law_drawn_whole) l_law_drawn_whole c_law_drawn_whole k_law_drawn_whole
  have b_law_drawn_whole := F_law_drawn_whole.binds (ps := ["store", "powers"]) fun _ _ _ _ _ _ us hl => match us, hl with | [_, _], _ => rfl
  have F_law_whole_right := fun_mk (st := s_law_whole_right) l_law_whole_right c_law_whole_right k_law_whole_right
  have b_law_whole_right := F_law_whole_right.binds (ps := ["whole", "powers", "named"]) fun _ _ _ _ _ _ us hl => match us, hl with | [_, _, _], _ => rfl
  have F_law_row_right := fun_mk (st := s_law_row_right) l_law_row_right c_law_row_right k_law_row_right
  have b_law_row_right := F_law_row_right.binds (ps := ["row", "powers", "named"]) fun _ _ _ _ _ _ us hl => match us, hl with | [_, _, _], _ => rfl
  have F_law := fun_mk (st := s_law) l_law c_law k_law
  refine ⟨PySem.W.fnOf "law" "law" (defArgs s_law) (defBody s_law) (defScope s_law) .none kV_law dc_law pm_law an_law cd_law ct_law, fun s v => .of_eq rfl, fun base _ _ => ?_⟩
  let G_mask_of : Cal l.prog w K mg base CX0 1 "mask_of" ["numbers"] (sp_mask_of) := ⟨f_mask_of, _, ok_mask_of T F_mask_of, F_mask_of.kp, b_mask_of, PySem.W.mg_of X G a_mask_of⟩
  have K_mask_of : KAll K G_mask_of.fd ["numbers"] := Sat.Fun.kall (ps := ["numbers"]) F_mask_of fun _ _ _ _ _ _ us hl => match us, hl with | [_], _ => rfl
  let G_members : Cal l.prog w K mg base CX0 1 "members" ["mask"] (sp_members) := ⟨f_members, _, ok_members T F_members, F_members.kp, b_members, PySem.W.mg_of X G a_members⟩
  have K_members : KAll K G_members.fd ["mask"] := Sat.Fun.kall (ps := ["mask"]) F_members fun _ _ _ _ _ _ us hl => match us, hl with | [_], _ => rfl
  let G_count_bits : Cal l.prog w K mg base CX0 1 "count_bits" ["mask"] (sp_count_bits) := ⟨f_count_bits, _, ok_count_bits T F_count_bits, F_count_bits.kp, b_count_bits, PySem.W.mg_of X G a_count_bits⟩
  have K_count_bits : KAll K G_count_bits.fd ["mask"] := Sat.Fun.kall (ps := ["mask"]) F_count_bits fun _ _ _ _ _ _ us hl => match us, hl with | [_], _ => rfl
  let G_lowest : Cal l.prog w K mg base CX0 1 "lowest" ["mask"] (sp_lowest) := ⟨f_lowest, _, ok_lowest T F_lowest, F_lowest.kp, b_lowest, PySem.W.mg_of X G a_lowest⟩
  have K_lowest : KAll K G_lowest.fd ["mask"] := Sat.Fun.kall (ps := ["mask"]) F_lowest fun _ _ _ _ _ _ us hl => match us, hl with | [_], _ => rfl
  let G_law_store : Cal l.prog w K mg base CX0 1 "_law_store" ["script"] (sp_law_store K) := ⟨f_law_store, _, ok_law_store T F_law_store, F_law_store.kp, b_law_store, PySem.W.mg_of X G a_law_store⟩
  let G_law_take : Cal l.prog w K mg base CX0 1 "_law_take" ["store", "many"] (sp_law_take) := ⟨f_law_take, _, ok_law_take T F_law_take, F_law_take.kp, b_law_take, PySem.W.mg_of X G a_law_take⟩
  let G_law_is_number : Cal l.prog w K mg base CX0 1 "_law_is_number" ["value"] (sp_law_is_number) := ⟨f_law_is_number, _, ok_law_is_number T F_law_is_number, F_law_is_number.kp, b_law_is_number, PySem.W.mg_of X G a_law_is_number⟩
  let G_law_powers : Cal l.prog w K mg base CX0 1 "_law_powers" [] (sp_law_powers) := ⟨f_law_powers, _, ok_law_powers T F_law_powers, F_law_powers.kp, b_law_powers, PySem.W.mg_of X G a_law_powers⟩
  let G_law_pick : Cal l.prog w K mg base CX0 2 "_law_pick" ["store", "items"] (sp_law_pick) := ⟨f_law_pick, _, ok_law_pick T G_law_take F_law_pick, F_law_pick.kp, b_law_pick, PySem.W.mg_of X G a_law_pick⟩
  let G_law_between : Cal l.prog w K mg base CX0 2 "_law_between" ["store", "low", "high"] (sp_law_between) := ⟨f_law_between, _, ok_law_between T G_law_take F_law_between, F_law_between.kp, b_law_between, PySem.W.mg_of X G a_law_between⟩
  let G_law_size : Cal l.prog w K mg base CX0 2 "_law_size" ["store", "least", "most"] (sp_law_size) := ⟨f_law_size, _, ok_law_size T G_law_take F_law_size, F_law_size.kp, b_law_size, PySem.W.mg_of X G a_law_size⟩
  let G_law_mixed : Cal l.prog w K mg base CX0 2 "_law_mixed" ["store", "items"] (sp_law_mixed) := ⟨f_law_mixed, _, ok_law_mixed T G_law_take F_law_mixed, F_law_mixed.kp, b_law_mixed, PySem.W.mg_of X G a_law_mixed⟩
  let G_law_some : Cal l.prog w K mg base CX0 2 "_law_some" ["store", "items"] (sp_law_some) := ⟨f_law_some, _, ok_law_some T G_law_take F_law_some, F_law_some.kp, b_law_some, PySem.W.mg_of X G a_law_some⟩
  let G_law_same : Cal l.prog w K mg base CX0 2 "_law_same" ["actual", "expected"] (sp_law_same) := ⟨f_law_same, _, ok_law_same T G_law_is_number F_law_same, F_law_same.kp, b_law_same, PySem.W.mg_of X G a_law_same⟩
  let G_law_drawn_whole : Cal l.prog w K mg base CX0 2 "_law_drawn_whole" ["store", "powers"] (sp_law_drawn_whole) := ⟨f_law_drawn_whole, _, ok_law_drawn_whole T G_law_take F_law_drawn_whole, F_law_drawn_whole.kp, b_law_drawn_whole, PySem.W.mg_of X G a_law_drawn_whole⟩
  let G_law_loose : Cal l.prog w K mg base CX0 3 "_law_loose" ["store", "items"] (sp_law_loose) := ⟨f_law_loose, _, ok_law_loose T G_law_mixed G_law_take G_law_pick F_law_loose, F_law_loose.kp, b_law_loose, PySem.W.mg_of X G a_law_loose⟩
  let G_law_numbers : Cal l.prog w K mg base CX0 3 "_law_numbers" ["store", "many", "top"] (sp_law_numbers) := ⟨f_law_numbers, _, ok_law_numbers T G_law_take G_law_pick G_law_between F_law_numbers, F_law_numbers.kp, b_law_numbers, PySem.W.mg_of X G a_law_numbers⟩
  let G_law_whole_right : Cal l.prog w K mg base CX0 3 "_law_whole_right" ["whole", "powers", "named"] (sp_law_whole_right) := ⟨f_law_whole_right, _, ok_law_whole_right T G_law_same G_members G_count_bits G_lowest K_count_bits K_lowest K_members F_law_whole_right, F_law_whole_right.kp, b_law_whole_right, PySem.W.mg_of X G a_law_whole_right⟩
  let G_law_drawn_row : Cal l.prog w K mg base CX0 4 "_law_drawn_row" ["store"] (sp_law_drawn_row) := ⟨f_law_drawn_row, _, ok_law_drawn_row T G_law_take G_law_numbers G_law_loose G_law_size G_law_some F_law_drawn_row, F_law_drawn_row.kp, b_law_drawn_row, PySem.W.mg_of X G a_law_drawn_row⟩
  let G_law_row_right : Cal l.prog w K mg base CX0 4 "_law_row_right" ["row", "powers", "named"] (sp_law_row_right) := ⟨f_law_row_right, _, ok_law_row_right T G_mask_of G_law_same G_law_whole_right K_mask_of F_law_row_right, F_law_row_right.kp, b_law_row_right, PySem.W.mg_of X G a_law_row_right⟩
  exact ok_law T G_law_store G_law_powers G_law_drawn_row G_law_drawn_whole G_law_row_right G_law_take G_law_whole_right F_law
end Law
open PySem PySem.W PyProof.Rows
set_option maxHeartbeats 0 in
theorem PySem.Challenge.cw_fewreaders_k00_masks_of_numbers_holds : PySem.Challenge.rw_fewreaders_k00_masks_of_numbers.Holds := by
  w_on; o_law; k_head; (case hw => w_witness2)
  k_fill
  refine L2.walk_of (l := PySem.Challenge.rw_fewreaders_k00_masks_of_numbers) (n := 63) (k := 5) (x := "script") (CX := fun _ => L2.CX0) (sp := fun w => Law.sp_law _) rfl (by decide) rfl ⟨rfl, by decide, by decide⟩ (fun w h Y => PySem.W.kIn_of Y) ?F (fun _ _ a ns hl _ hS => ⟨a, ns, rfl, hS, hl, fun _ => rfl⟩) (fun _ _ _ _ _ h => h)
  case F =>
    intro w mg fa h KX G hmg
    refine' Law.all_mk KX G hmg ?a_mask_of ?l_mask_of ?c_mask_of ?k_mask_of ?a_members ?l_members ?c_members ?k_members ?a_count_bits ?l_count_bits ?c_count_bits ?k_count_bits ?a_lowest ?l_lowest ?c_lowest ?k_lowest ?a_law_store ?l_law_store ?c_law_store ?k_law_store ?a_law_take ?l_law_take ?c_law_take ?k_law_take ?a_law_pick ?l_law_pick ?c_law_pick ?k_law_pick ?a_law_between ?l_law_between ?c_law_between ?k_law_between ?a_law_size ?l_law_size ?c_law_size ?k_law_size ?a_law_mixed ?l_law_mixed ?c_law_mixed ?k_law_mixed ?a_law_some ?l_law_some ?c_law_some ?k_law_some ?a_law_loose ?l_law_loose ?c_law_loose ?k_law_loose ?a_law_numbers ?l_law_numbers ?c_law_numbers ?k_law_numbers ?a_law_is_number ?l_law_is_number ?c_law_is_number ?k_law_is_number ?a_law_same ?l_law_same ?c_law_same ?k_law_same ?a_law_powers ?l_law_powers ?c_law_powers ?k_law_powers ?a_law_drawn_row ?l_law_drawn_row ?c_law_drawn_row ?k_law_drawn_row ?a_law_drawn_whole ?l_law_drawn_whole ?c_law_drawn_whole ?k_law_drawn_whole ?a_law_whole_right ?l_law_whole_right ?c_law_whole_right ?k_law_whole_right ?a_law_row_right ?l_law_row_right ?c_law_row_right ?k_law_row_right ?a_law ?l_law ?c_law ?k_law ?z_range ?z_int ?z_len ?z_max ?z_abs ?z_min ?z_list ?z_isinstance ?z_bool ?z_tuple ?z_str ?z_sum ?z_reversed
    (case a_mask_of => k_is); (case l_mask_of => k_is); (case c_mask_of => k_is); (case k_mask_of => k_is); (case a_members => k_is); (case l_members => k_is); (case c_members => k_is); (case k_members => k_is); (case a_count_bits => k_is); (case l_count_bits => k_is); (case c_count_bits => k_is); (case k_count_bits => k_is); (case a_lowest => k_is); (case l_lowest => k_is); (case c_lowest => k_is); (case k_lowest => k_is); (case a_law_store => k_is); (case l_law_store => k_is); (case c_law_store => k_is); (case k_law_store => k_is); (case a_law_take => k_is); (case l_law_take => k_is); (case c_law_take => k_is); (case k_law_take => k_is); (case a_law_pick => k_is); (case l_law_pick => k_is); (case c_law_pick => k_is); (case k_law_pick => k_is); (case a_law_between => k_is); (case l_law_between => k_is); (case c_law_between => k_is); (case k_law_between => k_is); (case a_law_size => k_is); (case l_law_size => k_is); (case c_law_size => k_is); (case k_law_size => k_is); (case a_law_mixed => k_is); (case l_law_mixed => k_is); (case c_law_mixed => k_is); (case k_law_mixed => k_is); (case a_law_some => k_is); (case l_law_some => k_is); (case c_law_some => k_is); (case k_law_some => k_is); (case a_law_loose => k_is); (case l_law_loose => k_is); (case c_law_loose => k_is); (case k_law_loose => k_is); (case a_law_numbers => k_is); (case l_law_numbers => k_is); (case c_law_numbers => k_is); (case k_law_numbers => k_is); (case a_law_is_number => k_is); (case l_law_is_number => k_is); (case c_law_is_number => k_is); (case k_law_is_number => k_is); (case a_law_same => k_is); (case l_law_same => k_is); (case c_law_same => k_is); (case k_law_same => k_is); (case a_law_powers => k_is); (case l_law_powers => k_is); (case c_law_powers => k_is); (case k_law_powers => k_is); (case a_law_drawn_row => k_is); (case l_law_drawn_row => k_is); (case c_law_drawn_row => k_is); (case k_law_drawn_row => k_is); (case a_law_drawn_whole => k_is); (case l_law_drawn_whole => k_is); (case c_law_drawn_whole => k_is); (case k_law_drawn_whole => k_is); (case a_law_whole_right => k_is); (case l_law_whole_right => k_is); (case c_law_whole_right => k_is); (case k_law_whole_right => k_is); (case a_law_row_right => k_is); (case l_law_row_right => k_is); (case c_law_row_right => k_is); (case k_law_row_right => k_is); (case a_law => k_is); (case l_law => k_is); (case c_law => k_is); (case k_law => k_is); (case z_range => k_is); (case z_int => k_is); (case z_len => k_is); (case z_max => k_is); (case z_abs => k_is); (case z_min => k_is); (case z_list => k_is); (case z_isinstance => k_is); (case z_bool => k_is); (case z_tuple => k_is); (case z_str => k_is); (case z_sum => k_is); (case z_reversed => k_is)
