import PyProof.Rows.All
import Wide.All
import OpenK.AllK
import Wide.FinOn
import HandS.ForMost
import HandS.More
import HandS.Wide
import HandS.WideBits
import HandS.IsInst
import HandS.Flow
import HandS.Rev
import HandS.Conv
import HandS.Evl
import HandS.Codes
import HandS.ExcInit
import HandS.ExcSuper
import HandS.Nested
import HandS.FStr
import KE.KExcSuper
import HandS.ExcIs
import HandS.ExcField
import HandS.WordsExc
import HandS.TryMany
import HandS.ExcCtx
import HandS.MakeKwOnly
import KE.KStateDown
import HandS.Head0
import HandS.Head1
import HandS.Head2
import HandS.HeadEnd
import HandS.HeadHook1
import HandS.HeadHook2
import HandS.HeadNt
import KE.BitLaws
import HandS.RevTup
import PyProof.ListRange
import HandS.Hot
import PySem.Challenge.RW_fewreaders_k02_web_is_the_closure
set_option Elab.async false
set_option linter.all false
set_option maxRecDepth 100000
set_option maxHeartbeats 1000000
/-! Sat: what stands in the abstract heap, as a list of atoms: owned places, frozen data, a frame -/
namespace Sat
open PySem PySem.Spec PyProof.Rows L2
open Evl (Ex)

/-- deep data -/
inductive D where
  | v (x : V)
  | lst (ds : List D)
  | tup (ds : List D)
  | ob (C : Addr) (fs : List (Str × D))
abbrev dI (i : Int) : D := .v (.int i)
abbrev dB (b : Bool) : D := .v (.bl b)
abbrev dS (s : Str) : D := .v (.str s)
abbrev dN : D := .v .non
abbrev dIs (ns : List Int) : D := .lst (ns.map dI)

mutual
inductive Rp (F : Hp) : V → D → Prop
  | v (x : V) : Rp F x (.v x)
  | lst {a : Addr} {xs : List V} {ds : List D} : F a = some (.lst xs) → RpA F xs ds → Rp F (.ref a) (.lst ds)
  | tup {a : Addr} {xs : List V} {ds : List D} : F a = some (.tup xs) → RpA F xs ds → Rp F (.ref a) (.tup ds)
  | ob {a dx C : Addr} {fs : List (Str × V)} {gs : List (Str × D)} : F a = some (.ins C dx fs) → RpF F fs gs → Rp F (.ref a) (.ob C gs)
inductive RpA (F : Hp) : List V → List D → Prop
  | nil : RpA F [] []
  | cons {x : V} {xs : List V} {d : D} {ds : List D} : Rp F x d → RpA F xs ds → RpA F (x :: xs) (d :: ds)
inductive RpF (F : Hp) : List (Str × V) → List (Str × D) → Prop
  | nil : RpF F [] []
  | cons {n : Str} {x : V} {xs : List (Str × V)} {d : D} {ds : List (Str × D)} : Rp F x d → RpF F xs ds → RpF F ((n, x) :: xs) ((n, d) :: ds)
end
mutual
theorem Rp.mono {F G : Hp} (e : Ex F G) : ∀ {x : V} {d : D}, Rp F x d → Rp G x d
  | _, _, .v x => .v x
  | _, _, .lst h k => .lst (e _ _ h) (RpA.mono e k)
  | _, _, .tup h k => .tup (e _ _ h) (RpA.mono e k)
  | _, _, .ob h k => .ob (e _ _ h) (RpF.mono e k)
theorem RpA.mono {F G : Hp} (e : Ex F G) : ∀ {xs : List V} {ds : List D}, RpA F xs ds → RpA G xs ds
  | _, _, .nil => .nil
  | _, _, .cons h k => .cons (Rp.mono e h) (RpA.mono e k)
theorem RpF.mono {F G : Hp} (e : Ex F G) : ∀ {xs : List (Str × V)} {ds : List (Str × D)}, RpF F xs ds → RpF G xs ds
  | _, _, .nil => .nil
  | _, _, .cons h k => .cons (Rp.mono e h) (RpF.mono e k)
end
theorem Rp.flat {F : Hp} {x y : V} (h : Rp F x (.v y)) : x = y := by cases h; rfl
theorem RpA.len {F : Hp} : ∀ {xs : List V} {ds : List D}, RpA F xs ds → xs.length = ds.length
  | _, _, .nil => rfl
  | _, _, .cons _ k => by rw [List.length_cons, List.length_cons, RpA.len k]
theorem RpA.get {F : Hp} : ∀ {xs : List V} {ds : List D}, RpA F xs ds → ∀ {i : Nat} {d : D}, ds[i]? = some d → ∃ x, xs[i]? = some x ∧ Rp F x d
  | _, _, .nil, i, d, e => by simp at e
  | _, _, .cons h k, 0, d, e => by
    rw [List.getElem?_cons_zero] at e
    cases e
    exact ⟨_, rfl, h⟩
  | _, _, .cons h k, i + 1, d, e => by
    rw [List.getElem?_cons_succ] at e
    obtain ⟨x, e1, r⟩ := RpA.get k e
    exact ⟨x, by rw [List.getElem?_cons_succ]; exact e1, r⟩
theorem RpA.getV {F : Hp} {xs : List V} {ds : List D} (h : RpA F xs ds) {i : Nat} {x : V} (e : xs[i]? = some x) : ∃ d, ds[i]? = some d ∧ Rp F x d := by
  have l := h.len
  have hi : i < ds.length := by
    obtain ⟨q, _⟩ := List.getElem?_eq_some_iff.mp e
    omega
  obtain ⟨y, e1, r⟩ := h.get (List.getElem?_eq_getElem hi)
  rw [e] at e1
  cases e1
  exact ⟨_, List.getElem?_eq_getElem hi, r⟩
theorem RpA.append {F : Hp} : ∀ {xs ys : List V} {ds es : List D}, RpA F xs ds → RpA F ys es → RpA F (xs ++ ys) (ds ++ es)
  | _, _, _, _, .nil, k => k
  | _, _, _, _, .cons h k, l => .cons h (RpA.append k l)
theorem RpA.take {F : Hp} : ∀ {xs : List V} {ds : List D} (n : Nat), RpA F xs ds → RpA F (xs.take n) (ds.take n)
  | _, _, 0, _ => .nil
  | _, _, _ + 1, .nil => .nil
  | _, _, n + 1, .cons h k => .cons h (RpA.take n k)
theorem RpA.drop {F : Hp} : ∀ {xs : List V} {ds : List D} (n : Nat), RpA F xs ds → RpA F (xs.drop n) (ds.drop n)
  | _, _, 0, h => h
  | _, _, _ + 1, .nil => .nil
  | _, _, n + 1, .cons h k => RpA.drop n k
theorem RpA.set {F : Hp} {y : V} {e : D} (r : Rp F y e) : ∀ {xs : List V} {ds : List D} (n : Nat), RpA F xs ds → RpA F (xs.set n y) (ds.set n e)
  | _, _, _, .nil => .nil
  | _, _, 0, .cons h k => .cons r k
  | _, _, n + 1, .cons h k => .cons h (RpA.set r n k)
theorem RpA.reverse {F : Hp} : ∀ {xs : List V} {ds : List D}, RpA F xs ds → RpA F xs.reverse ds.reverse
  | _, _, .nil => .nil
  | _, _, .cons h k => by
    rw [List.reverse_cons, List.reverse_cons]
    exact (RpA.reverse k).append (.cons h .nil)
theorem RpA.flat {F : Hp} : ∀ {xs ys : List V}, RpA F xs (ys.map D.v) → xs = ys
  | _, [], h => by cases h; rfl
  | _, y :: ys, h => by
    cases h with
    | cons h k =>
      rw [h.flat, RpA.flat k]
theorem RpA.ints {F : Hp} {xs : List V} {ns : List Int} (h : RpA F xs (ns.map dI)) : xs = ns.map V.int := by
  refine RpA.flat (F := F) ?_
  rw [List.map_map]
  exact h
theorem RpA.ofV {F : Hp} : ∀ (ys : List V), RpA F ys (ys.map D.v)
  | [] => .nil
  | y :: ys => .cons (.v y) (RpA.ofV ys)
theorem RpA.ofI {F : Hp} (ns : List Int) : RpA F (ns.map V.int) (ns.map dI) := by
  have h := RpA.ofV (F := F) (ns.map V.int)
  rw [List.map_map] at h
  exact h
theorem RpF.look {F : Hp} : ∀ {fs : List (Str × V)} {gs : List (Str × D)}, RpF F fs gs → ∀ {n : Str} {d : D}, gs.lookup n = some d → ∃ x, fs.lookup n = some x ∧ Rp F x d
  | _, _, .nil, n, d, e => by simp at e
  | _, _, .cons (n := m) h k, n, d, e => by
    rw [List.lookup_cons] at e ⊢
    cases q : (n == m) with
    | true =>
      rw [q] at e
      cases e
      exact ⟨_, rfl, h⟩
    | false =>
      rw [q] at e
      exact RpF.look k e
theorem RpF.lookN {F : Hp} : ∀ {fs : List (Str × V)} {gs : List (Str × D)}, RpF F fs gs → ∀ {n : Str}, gs.lookup n = none → fs.lookup n = none
  | _, _, .nil, n, _ => rfl
  | _, _, .cons (n := m) h k, n, e => by
    rw [List.lookup_cons] at e ⊢
    cases q : (n == m) with
    | true =>
      rw [q] at e
      cases e
    | false =>
      rw [q] at e
      exact RpF.lookN k e

/-- an atom -/
inductive A where
  | own (a : Addr) (φ : Hp → HO → Prop) (mono : ∀ F G o, Ex F G → φ F o → φ G o)
  | rp (v : V) (d : D)
  | fr (G : Hp)
abbrev A.tt : A := .fr fun _ => none
abbrev pt (a : Addr) (o : HO) : A := .own a (fun _ u => u = o) fun _ _ _ _ h => h
abbrev ol (a : Addr) (ds : List D) : A := .own a (fun F u => ∃ xs, u = .lst xs ∧ RpA F xs ds) fun _ _ _ e ⟨xs, h, k⟩ => ⟨xs, h, k.mono e⟩
/-- an owned instance with frozen attributes -/
abbrev oi (a C : Addr) (gs : List (Str × D)) : A := .own a (fun F u => ∃ dx fs, u = .ins C dx fs ∧ RpF F fs gs) fun _ _ _ e ⟨dx, fs, h, k⟩ => ⟨dx, fs, h, k.mono e⟩
def A.ok (F H : Hp) : A → Prop
  | .own a φ _ => F a = none ∧ ∃ o, H a = some o ∧ φ F o
  | .rp v d => Rp F v d
  | .fr G => Ex G F
def A.ad : A → Option Addr
  | .own a _ _ => some a
  | _ => none
structure satF (As : List A) (H F : Hp) : Prop where
  ex : Ex F H
  ok : ∀ x ∈ As, x.ok F H
  inj : ∀ (i j : Nat) (x y : A) (a : Addr), As[i]? = some x → As[j]? = some y → x.ad = some a → y.ad = some a → i = j
def sat (As : List A) (H : Hp) : Prop := ∃ F, satF As H F

section
variable {As : List A} {H : Hp}

/-! ### choosing atoms -/
def pick (idx : List Nat) (n : Nat) (As : List A) : List A := idx.map (fun i => As.getD i A.tt) ++ As.drop n
theorem sat.pick (h : sat As H) (idx : List Nat) (n : Nat) (nd : (idx.Nodup ∧ ∀ i ∈ idx, i < n) := by decide) : sat (Sat.pick idx n As) H := by
  obtain ⟨F, h⟩ := h
  refine ⟨F, h.ex, fun x hx => ?_, fun i j x y a e1 e2 a1 a2 => ?_⟩
  · rcases List.mem_append.mp hx with q | q
    · obtain ⟨i, hi, rfl⟩ := List.mem_map.mp q
      rw [List.getD_eq_getElem?_getD]
      cases e : As[i]? with
      | none => exact fun _ _ z => nomatch z
      | some y => exact h.ok y (List.mem_of_getElem? e)
    · exact h.ok x (List.mem_of_mem_drop q)
  · have key : ∀ (i : Nat) (x : A), (Sat.pick idx n As)[i]? = some x → x.ad = some a → (i < idx.length ∧ ∃ k, idx[i]? = some k ∧ As[k]? = some x ∧ k < n) ∨ (idx.length ≤ i ∧ As[n + (i - idx.length)]? = some x) := fun i x e ha => by
      unfold Sat.pick at e
      by_cases hi : i < idx.length
      · rw [List.getElem?_append_left (by simpa using hi), List.getElem?_map, List.getElem?_eq_getElem hi] at e
        have e' : As.getD idx[i] A.tt = x := Option.some.inj e
        rw [List.getD_eq_getElem?_getD] at e'
        cases q : As[idx[i]]? with
        | none =>
          rw [q] at e'
          subst e'
          cases ha
        | some y =>
          rw [q] at e'
          have e'' : y = x := e'
          exact .inl ⟨hi, idx[i], List.getElem?_eq_getElem hi, by rw [q, e''], nd.2 _ (List.getElem_mem hi)⟩
      · rw [List.getElem?_append_right (by simpa using hi), List.getElem?_drop, List.length_map] at e
        exact .inr ⟨by omega, e⟩
    rcases key i x e1 a1 with ⟨hi, k, p1, p2, p3⟩ | ⟨hi, p⟩
    · rcases key j y e2 a2 with ⟨hj, l, q1, q2, q3⟩ | ⟨hj, q⟩
      · have e := h.inj k l x y a p2 q2 a1 a2
        subst e
        exact nd_ix nd.1 p1 q1
      · have e := h.inj _ _ x y a p2 q a1 a2
        omega
    · rcases key j y e2 a2 with ⟨hj, l, q1, q2, q3⟩ | ⟨hj, q⟩
      · have e := h.inj _ _ x y a p q2 a1 a2
        omega
      · have e := h.inj _ _ x y a p q a1 a2
        omega
/-- the tail only -/
theorem sat.drop (h : sat As H) (n : Nat) : sat (As.drop n) H := h.pick [] n ⟨List.nodup_nil, fun _ z => nomatch z⟩

/-! ### what the persistent atoms give -/
def Ent (As : List A) (H : Hp) (x : V) (d : D) : Prop := ∀ F, satF As H F → Rp F x d
def EntA (As : List A) (H : Hp) (xs : List V) (ds : List D) : Prop := ∀ F, satF As H F → RpA F xs ds
theorem Ent.at {x : V} {d : D} (i : Nat) (e : As[i]? = some (.rp x d) := by rfl) : Ent As H x d := fun F h => h.ok _ (List.mem_of_getElem? e)
theorem Ent.v {x : V} : Ent As H x (.v x) := fun _ _ => .v x
theorem EntA.nil : EntA As H [] [] := fun _ _ => .nil
theorem EntA.cons {x : V} {xs : List V} {d : D} {ds : List D} (h : Ent As H x d) (k : EntA As H xs ds) : EntA As H (x :: xs) (d :: ds) := fun F q => .cons (h F q) (k F q)
theorem EntA.append {xs ys : List V} {ds es : List D} (h : EntA As H xs ds) (k : EntA As H ys es) : EntA As H (xs ++ ys) (ds ++ es) := fun F q => (h F q).append (k F q)
theorem EntA.take {xs : List V} {ds : List D} (n : Nat) (h : EntA As H xs ds) : EntA As H (xs.take n) (ds.take n) := fun F q => (h F q).take n
theorem EntA.drop {xs : List V} {ds : List D} (n : Nat) (h : EntA As H xs ds) : EntA As H (xs.drop n) (ds.drop n) := fun F q => (h F q).drop n
theorem EntA.set {xs : List V} {ds : List D} {x : V} {d : D} (e : Ent As H x d) (n : Nat) (h : EntA As H xs ds) : EntA As H (xs.set n x) (ds.set n d) := fun F q => (h F q).set (e F q) n
theorem EntA.reverse {xs : List V} {ds : List D} (h : EntA As H xs ds) : EntA As H xs.reverse ds.reverse := fun F q => (h F q).reverse
theorem EntA.len {xs : List V} {ds : List D} (s : sat As H) (h : EntA As H xs ds) : xs.length = ds.length := by
  obtain ⟨F, q⟩ := s
  exact (h F q).len
theorem EntA.get {xs : List V} {ds : List D} (h : EntA As H xs ds) {i : Nat} {x : V} {d : D} (ex : xs[i]? = some x) (ed : ds[i]? = some d) : Ent As H x d := fun F q => by
  obtain ⟨y, e, r⟩ := (h F q).get ed
  rw [ex] at e
  cases e
  exact r
theorem EntA.ofI (ns : List Int) : EntA As H (ns.map V.int) (ns.map dI) := fun _ _ => .ofI ns
theorem EntA.ofV (ns : List V) : EntA As H ns (ns.map D.v) := fun _ _ => .ofV ns
theorem Ent.cast {x : V} {d e : D} (h : Ent As H x d) (q : d = e) : Ent As H x e := by rw [← q]; exact h
theorem EntA.cast {xs : List V} {ds es : List D} (h : EntA As H xs ds) (q : ds = es) : EntA As H xs es := by rw [← q]; exact h
theorem sat.rp (h : sat As H) {x : V} {d : D} (e : Ent As H x d) : sat (.rp x d :: As) H := by
  obtain ⟨F, h⟩ := h
  refine ⟨F, h.ex, fun y hy => ?_, fun i j y z a e1 e2 a1 a2 => ?_⟩
  · rcases List.mem_cons.mp hy with q | q
    · rw [q]
      exact e F h
    · exact h.ok y q
  · cases i with
    | zero =>
      rw [List.getElem?_cons_zero] at e1
      cases e1
      cases a1
    | succ i =>
      cases j with
      | zero =>
        rw [List.getElem?_cons_zero] at e2
        cases e2
        cases a2
      | succ j =>
        rw [List.getElem?_cons_succ] at e1 e2
        rw [h.inj i j y z a e1 e2 a1 a2]
/-- any fact of the frozen part -/
theorem sat.add (h : sat As H) {B : A} (hb : B.ad = none) (e : ∀ F, satF As H F → B.ok F H) : sat (B :: As) H := by
  obtain ⟨F, h⟩ := h
  refine ⟨F, h.ex, fun y hy => ?_, fun i j y z a e1 e2 a1 a2 => ?_⟩
  · rcases List.mem_cons.mp hy with q | q
    · rw [q]
      exact e F h
    · exact h.ok y q
  · cases i with
    | zero =>
      rw [List.getElem?_cons_zero] at e1
      cases e1
      rw [hb] at a1
      cases a1
    | succ i =>
      cases j with
      | zero =>
        rw [List.getElem?_cons_zero] at e2
        cases e2
        rw [hb] at a2
        cases a2
      | succ j =>
        rw [List.getElem?_cons_succ] at e1 e2
        rw [h.inj i j y z a e1 e2 a1 a2]
theorem sat.of (h : sat As H) {x : V} {d : D} (e : Ent As H x d) : Rp H x d := by
  obtain ⟨F, h⟩ := h
  exact (e F h).mono h.ex
theorem sat.flat (h : sat As H) {x y : V} (e : Ent As H x (.v y)) : x = y := (h.of e).flat
theorem sat.own (h : sat As H) (i : Nat) {a : Addr} {φ : Hp → HO → Prop} {m} (e : As[i]? = some (.own a φ m) := by rfl) : ∃ o F, H a = some o ∧ φ F o ∧ Ex F H := by
  obtain ⟨F, h⟩ := h
  obtain ⟨_, o, h1, h2⟩ := h.ok _ (List.mem_of_getElem? e)
  exact ⟨o, F, h1, h2, h.ex⟩
/-- an owned thing's frozen parts become atoms -/
theorem sat.open (h : sat As H) (i : Nat) {a : Addr} {φ : Hp → HO → Prop} {m} (e : As[i]? = some (.own a φ m) := by rfl) : ∃ o, H a = some o ∧ ∀ {x : V} {d : D}, (∀ F, φ F o → Rp F x d) → sat (.rp x d :: As) H := by
  obtain ⟨F, h⟩ := h
  obtain ⟨n, o, h1, h2⟩ := h.ok _ (List.mem_of_getElem? e)
  refine ⟨o, h1, fun {x d} k => ⟨F, h.ex, fun y hy => ?_, fun i j y z a e1 e2 a1 a2 => ?_⟩⟩
  · rcases List.mem_cons.mp hy with q | q
    · rw [q]
      exact k F h2
    · exact h.ok y q
  · cases i with
    | zero =>
      rw [List.getElem?_cons_zero] at e1
      cases e1
      cases a1
    | succ i =>
      cases j with
      | zero =>
        rw [List.getElem?_cons_zero] at e2
        cases e2
        cases a2
      | succ j =>
        rw [List.getElem?_cons_succ] at e1 e2
        rw [h.inj i j y z a e1 e2 a1 a2]

/-! ### new things, changes, freezing -/
theorem A.ok_mono {F G H : Hp} {x : A} (e : Ex F G) (n : ∀ a, x.ad = some a → G a = none) (h : x.ok F H) : x.ok G H := by
  cases x with
  | own a φ m =>
    obtain ⟨_, o, h1, h2⟩ := h
    exact ⟨n a rfl, o, h1, m F G o e h2⟩
  | rp v d => exact Rp.mono e h
  | fr K => exact Ex.trans h e
theorem A.ok_upd {F H : Hp} {x : A} {p : Addr} {o : HO} (n : x.ad ≠ some p) (h : x.ok F H) : x.ok F (upd H p o) := by
  cases x with
  | own a φ m =>
    obtain ⟨h0, u, h1, h2⟩ := h
    refine ⟨h0, u, ?_, h2⟩
    rw [upd_ne (fun z => n (by rw [← z]; rfl))]
    exact h1
  | rp v d => exact h
  | fr K => exact h
theorem satF.fresh {F : Hp} (h : satF As H F) {p : Addr} (hp : H p = none) {x : A} (hx : x ∈ As) : x.ad ≠ some p := fun z => by
  cases x with
  | own a φ m =>
    have e : a = p := Option.some.inj z
    obtain ⟨_, o, h1, _⟩ := h.ok _ hx
    rw [e, hp] at h1
    cases h1
  | rp v d => cases z
  | fr K => cases z
theorem sat.newO (h : sat As H) {p : Addr} {o : HO} (hp : H p = none) {φ : Hp → HO → Prop} {m} (hφ : ∀ F, satF As H F → φ F o) : sat (.own p φ m :: As) (upd H p o) := by
  obtain ⟨F, h⟩ := h
  have fp : F p = none := Evl.fresh_back h.ex hp
  refine ⟨F, h.ex.trans (Ex.new hp), fun x hx => ?_, fun i j x y a e1 e2 a1 a2 => ?_⟩
  · rcases List.mem_cons.mp hx with q | q
    · rw [q]
      exact ⟨fp, o, upd_same, hφ F h⟩
    · exact A.ok_upd (h.fresh hp q) (h.ok x q)
  · cases i with
    | zero =>
      rw [List.getElem?_cons_zero] at e1
      cases e1
      cases a1
      cases j with
      | zero => rfl
      | succ j =>
        rw [List.getElem?_cons_succ] at e2
        exact absurd a2 (h.fresh hp (List.mem_of_getElem? e2))
    | succ i =>
      rw [List.getElem?_cons_succ] at e1
      cases j with
      | zero =>
        rw [List.getElem?_cons_zero] at e2
        cases e2
        cases a2
        exact absurd a1 (h.fresh hp (List.mem_of_getElem? e1))
      | succ j =>
        rw [List.getElem?_cons_succ] at e2
        rw [h.inj i j x y a e1 e2 a1 a2]
theorem sat.newP (h : sat As H) {p : Addr} {o : HO} (hp : H p = none) : sat (pt p o :: As) (upd H p o) := h.newO hp fun _ _ => rfl
theorem sat.newL (h : sat As H) {p : Addr} {xs : List V} {ds : List D} (hp : H p = none) (e : EntA As H xs ds) : sat (ol p ds :: As) (upd H p (.lst xs)) := h.newO hp fun F q => ⟨xs, rfl, e F q⟩
/-- a new thing that nobody asks -/
theorem sat.newX (h : sat As H) {p : Addr} {o : HO} (hp : H p = none) : sat As (upd H p o) := (h.newP (o := o) hp).drop 1
/-- an owned thing is frozen -/
theorem sat.freeze (h : sat As H) (i : Nat) {a : Addr} {φ : Hp → HO → Prop} {m} (e : As[i]? = some (.own a φ m)) {x : V} {d : D} (k : ∀ F o, F a = some o → ∀ F0, Ex F0 F → φ F0 o → Rp F x d) : sat (As.set i (.rp x d)) H := by
  obtain ⟨F, h⟩ := h
  obtain ⟨n, o, h1, h2⟩ := h.ok _ (List.mem_of_getElem? e)
  have hi : i < As.length := (List.getElem?_eq_some_iff.mp e).1
  have e2 : ∀ (j : Nat) (y : A), (As.set i (.rp x d))[j]? = some y → (j = i ∧ y = .rp x d) ∨ (j ≠ i ∧ As[j]? = some y) := fun j y q => by
    by_cases hj : j = i
    · subst hj
      rw [List.getElem?_set_self hi] at q
      exact .inl ⟨rfl, (Option.some.inj q).symm⟩
    · rw [List.getElem?_set_ne (fun z => hj z.symm)] at q
      exact .inr ⟨hj, q⟩
  refine ⟨upd F a o, fun b u q => ?_, fun y hy => ?_, fun j l y z b p1 p2 a1 a2 => ?_⟩
  · by_cases hb : b = a
    · subst hb
      rw [upd_same] at q
      cases q
      exact h1
    · rw [upd_ne hb] at q
      exact h.ex b u q
  · obtain ⟨j, q⟩ := List.getElem?_of_mem hy
    rcases e2 j y q with ⟨_, r⟩ | ⟨hj, r⟩
    · rw [r]
      exact k _ o upd_same F (Ex.new n) h2
    · refine A.ok_mono (Ex.new n) (fun b hb => ?_) (h.ok y (List.mem_of_getElem? r))
      have ne : b ≠ a := fun z => hj (h.inj j i y _ b r e hb (by rw [z]; rfl))
      rw [upd_ne ne]
      cases y with
      | own c ψ m' =>
        cases hb
        exact (h.ok _ (List.mem_of_getElem? r)).1
      | rp _ _ => cases hb
      | fr _ => cases hb
  · rcases e2 j y p1 with ⟨_, r⟩ | ⟨_, r⟩
    · rw [r] at a1
      cases a1
    · rcases e2 l z p2 with ⟨_, r'⟩ | ⟨_, r'⟩
      · rw [r'] at a2
        cases a2
      · exact h.inj j l y z b r r' a1 a2
theorem sat.frz (h : sat As H) (i : Nat) {a : Addr} {ds : List D} (e : As[i]? = some (ol a ds) := by rfl) : sat (As.set i (.rp (.ref a) (.lst ds))) H := h.freeze i e fun F o p F0 q ⟨xs, r, t⟩ => by
  subst r
  exact .lst p (t.mono q)
theorem sat.frzI (h : sat As H) (i : Nat) {a C : Addr} {gs : List (Str × D)} (e : As[i]? = some (oi a C gs) := by rfl) : sat (As.set i (.rp (.ref a) (.ob C gs))) H := h.freeze i e fun F o p F0 q ⟨dx, fs, r, t⟩ => by
  subst r
  exact .ob p (t.mono q)
theorem sat.newLf (h : sat As H) {p : Addr} {xs : List V} {ds : List D} (hp : H p = none) (e : EntA As H xs ds) : sat (.rp (.ref p) (.lst ds) :: As) (upd H p (.lst xs)) := (h.newL hp e).frz 0
theorem sat.newT (h : sat As H) {p : Addr} {xs : List V} {ds : List D} (hp : H p = none) (e : EntA As H xs ds) : sat (.rp (.ref p) (.tup ds) :: As) (upd H p (.tup xs)) :=
  (h.newO (φ := fun F u => ∃ xs, u = .tup xs ∧ RpA F xs ds) (m := fun _ _ _ e ⟨xs, h, k⟩ => ⟨xs, h, k.mono e⟩) hp fun F q => ⟨xs, rfl, e F q⟩).freeze 0 rfl fun F o p F0 q ⟨xs, r, t⟩ => by
    subst r
    exact .tup p (t.mono q)
/-- an owned thing changes -/
theorem sat.updO (h : sat As H) (i : Nat) {a : Addr} {φ ψ : Hp → HO → Prop} {m m'} (e : As[i]? = some (.own a φ m)) {o' : HO} (k : ∀ F, satF As H F → ψ F o') : sat (As.set i (.own a ψ m')) (upd H a o') := by
  obtain ⟨F, h⟩ := h
  obtain ⟨n, o, h1, h2⟩ := h.ok _ (List.mem_of_getElem? e)
  have hi : i < As.length := (List.getElem?_eq_some_iff.mp e).1
  have e2 : ∀ (j : Nat) (y : A), (As.set i (.own a ψ m'))[j]? = some y → (j = i ∧ y = .own a ψ m') ∨ (j ≠ i ∧ As[j]? = some y) := fun j y q => by
    by_cases hj : j = i
    · subst hj
      rw [List.getElem?_set_self hi] at q
      exact .inl ⟨rfl, (Option.some.inj q).symm⟩
    · rw [List.getElem?_set_ne (fun z => hj z.symm)] at q
      exact .inr ⟨hj, q⟩
  refine ⟨F, fun b u q => ?_, fun y hy => ?_, fun j l y z b p1 p2 a1 a2 => ?_⟩
  · have ne : b ≠ a := fun z => by rw [z, n] at q; cases q
    rw [upd_ne ne]
    exact h.ex b u q
  · obtain ⟨j, q⟩ := List.getElem?_of_mem hy
    rcases e2 j y q with ⟨_, r⟩ | ⟨hj, r⟩
    · rw [r]
      exact ⟨n, o', upd_same, k F h⟩
    · exact A.ok_upd (fun z => hj (h.inj j i y _ a r e z rfl)) (h.ok y (List.mem_of_getElem? r))
  · have to : ∀ (j : Nat) (y : A), (As.set i (.own a ψ m'))[j]? = some y → y.ad = some b → ∃ y', As[j]? = some y' ∧ y'.ad = some b := fun j y q hb => by
      rcases e2 j y q with ⟨hj, r⟩ | ⟨_, r⟩
      · rw [r] at hb
        cases hb
        exact ⟨_, by rw [hj]; exact e, rfl⟩
      · exact ⟨y, r, hb⟩
    obtain ⟨y', r1, b1⟩ := to j y p1 a1
    obtain ⟨z', r2, b2⟩ := to l z p2 a2
    exact h.inj j l y' z' b r1 r2 b1 b2
theorem sat.updP (h : sat As H) (i : Nat) {a : Addr} {o o' : HO} (e : As[i]? = some (pt a o) := by rfl) : sat (As.set i (pt a o')) (upd H a o') := h.updO i e fun _ _ => rfl
theorem sat.updL (h : sat As H) (i : Nat) {a : Addr} {ds ds' : List D} {xs' : List V} (e : As[i]? = some (ol a ds)) (k : EntA As H xs' ds') : sat (As.set i (ol a ds')) (upd H a (.lst xs')) := h.updO i e fun F q => ⟨xs', rfl, k F q⟩
/-- all that is tracked stays: the whole -/
theorem sat.grow (h : sat As H) {H' : Hp} (e : Ex H H') : sat As H' := by
  obtain ⟨F, h⟩ := h
  refine ⟨F, h.ex.trans e, fun x hx => ?_, h.inj⟩
  have q := h.ok x hx
  cases x with
  | own a φ m =>
    obtain ⟨n, o, h1, h2⟩ := q
    exact ⟨n, o, e _ _ h1, h2⟩
  | rp v d => exact q
  | fr K => exact q
/-- an owned list's view -/
theorem sat.olv (h : sat As H) (i : Nat) {a : Addr} {ds : List D} (e : As[i]? = some (ol a ds) := by rfl) : ∃ xs, H a = some (.lst xs) ∧ xs.length = ds.length ∧ EntA As H xs ds := by
  obtain ⟨F, h⟩ := h
  obtain ⟨n, o, h1, xs, rfl, h2⟩ := h.ok _ (List.mem_of_getElem? e)
  refine ⟨xs, h1, h2.len, fun G g => ?_⟩
  obtain ⟨_, o, k1, ys, rfl, k2⟩ := g.ok _ (List.mem_of_getElem? e)
  rw [h1] at k1
  cases k1
  exact k2
/-- a frozen list's, tuple's view -/
theorem sat.rlv (h : sat As H) {a : Addr} {ds : List D} (e : Ent As H (.ref a) (.lst ds)) : ∃ xs, H a = some (.lst xs) ∧ xs.length = ds.length ∧ EntA As H xs ds := by
  obtain ⟨F, h⟩ := h
  cases e F h with
  | @lst _ xs _ f1 f2 =>
    refine ⟨xs, h.ex _ _ f1, f2.len, fun G g => ?_⟩
    cases e G g with
    | lst g1 g2 =>
      have e1 := g.ex _ _ g1
      rw [h.ex _ _ f1] at e1
      cases e1
      exact g2
theorem sat.rtv (h : sat As H) {a : Addr} {ds : List D} (e : Ent As H (.ref a) (.tup ds)) : ∃ xs, H a = some (.tup xs) ∧ xs.length = ds.length ∧ EntA As H xs ds := by
  obtain ⟨F, h⟩ := h
  cases e F h with
  | @tup _ xs _ f1 f2 =>
    refine ⟨xs, h.ex _ _ f1, f2.len, fun G g => ?_⟩
    cases e G g with
    | tup g1 g2 =>
      have e1 := g.ex _ _ g1
      rw [h.ex _ _ f1] at e1
      cases e1
      exact g2
/-- a frozen instance's view -/
theorem sat.riv (h : sat As H) {a C : Addr} {gs : List (Str × D)} (e : Ent As H (.ref a) (.ob C gs)) : ∃ dx fs, H a = some (.ins C dx fs) ∧ ∀ {n : Str} {d : D}, gs.lookup n = some d → ∃ x, fs.lookup n = some x ∧ Ent As H x d := by
  obtain ⟨F, h⟩ := h
  cases e F h with
  | @ob _ dx _ fs _ f1 f2 =>
    refine ⟨dx, fs, h.ex _ _ f1, fun {n d} q => ?_⟩
    obtain ⟨x, e1, r⟩ := f2.look q
    refine ⟨x, e1, fun G g => ?_⟩
    cases e G g with
    | ob g1 g2 =>
      have e2 := g.ex _ _ g1
      rw [h.ex _ _ f1] at e2
      cases e2
      obtain ⟨y, e3, r'⟩ := g2.look q
      rw [e1] at e3
      cases e3
      exact r'
end
end Sat

set_option Elab.async false
set_option linter.all false
set_option maxRecDepth 100000
set_option maxHeartbeats 1000000
/-! SatR: readings in steps over Sat -/
namespace Sat
open PySem PySem.Spec PyProof.Rows L2
open Evl (Ex)

/-! ### readings by name (no bare lambda: what follows must stand as it is) -/
def rIsN : R2 := fun x y H Q => y = .non ∧ Q (.bl (decide (x = .non))) H
def rNotN : R2 := fun x y H Q => y = .non ∧ Q (.bl (!decide (x = .non))) H
def rInt1 : List V → Hp → VK → Prop := fun xs H Q => (∃ i, xs = [.int i] ∧ Q (.int i) H) ∨ ∃ k, xs = [.bl k] ∧ Q (.int (if k then 1 else 0)) H
def rAbs : List V → Hp → VK → Prop := fun xs H Q => ∃ i, xs = [.int i] ∧ Q (.int (if i < 0 then -i else i)) H
def rMax2 : List V → Hp → VK → Prop := fun xs H Q => ∃ i j, xs = [.int i, .int j] ∧ Q (.int (if j > i then j else i)) H
def rMin2 : List V → Hp → VK → Prop := fun xs H Q => ∃ i j, xs = [.int i, .int j] ∧ Q (.int (if j < i then j else i)) H
def rLn (K : PySem.W.Frag) : List V → Hp → VK → Prop := fun xs H Q => ∃ p ys, xs = [.ref p] ∧ (SqL K H p ys ∨ SqT K H p ys) ∧ Q (.int ys.length) H
def rLO (K : PySem.W.Frag) : List V → Hp → VK → Prop := fun xs H Q => ∃ p ys, xs = [.ref p] ∧ (SqL K H p ys ∨ SqT K H p ys) ∧ ∀ l, H l = none → Q (.ref l) (upd H l (.lst ys))
def rIns : V → List V → Hp → VK → Prop := fun x vs H Q => ∃ (l : Addr) (xs : List V) (i : Int) (y : V), x = .ref l ∧ vs = [.int i, y] ∧ H l = some (.lst xs) ∧ xs.length < sizeLine ∧ 0 ≤ i ∧ i < 2 ^ 63 ∧ Q .non (upd H l (.lst (xs.take i.toNat ++ [y] ++ xs.drop i.toNat)))
def rLenS : List V → Hp → VK → Prop := fun xs H Q => ∃ z, xs = [.str z] ∧ z.length ≤ sizeLine ∧ Q (.int z.length) H
def tTru (K : PySem.W.Frag) (ta : TE) : TT := fun σ H Q => ta σ H fun x H' => ∃ k, TruV K x H' k ∧ Q k H'
section
variable {X : Cx}
theorem op_isN' : OpR X (compareOp .Is) rIsN := op_isN
theorem op_notN' : OpR X (compareOp .IsNot) rNotN := op_notN
theorem call_int1' : CallR X (.type "int") rInt1 := call_int1
theorem call_abs' : CallR X (.builtin "abs") rAbs := call_abs
theorem call_max2' (hc : X.calm = true) : CallR X (.builtin "max") rMax2 := call_max2 hc
theorem call_min2' (hc : X.calm = true) : CallR X (.builtin "min") rMin2 := call_min2 hc
theorem call_len' : CallR X (.builtin "len") (rLn X.K) := call_len_seq
theorem call_lenS' : CallR X (.builtin "len") rLenS := call_len_str
theorem call_list' : CallR X (.type "list") (rLO X.K) := call_list_of
theorem mt_insert' : MtR X "list.insert" rIns := mt_insert
theorem pt_tru' {a : Expr} {ta : TE} (ha : PE X a ta) (he : ∀ whole, isTrue a X.env whole = (do let v ← whole; standAt a.pos; holding [v] (truthy v)) := by intro _; rfl) : PT X a (tTru X.K ta) := pt_truth ha he
end
/-! ### pure readings -/
def E1 (t : TE) (σ : L2.St) (H : Hp) (v : V) : Prop := ∀ Q : VK, Q v H → t σ H Q
def A1 (t : TA) (σ : L2.St) (H : Hp) (vs : List V) : Prop := ∀ Q : List V → Hp → Prop, Q vs H → t σ H Q
def T1 (t : TT) (σ : L2.St) (H : Hp) (P : Prop) : Prop := ∀ Q : Bool → Hp → Prop, (P → Q true H) → (¬ P → Q false H) → t σ H Q
def O1 (t : TO) (σ : L2.St) (H : Hp) (o : Option Int) : Prop := ∀ Q : Option Int → Hp → Prop, Q o H → t σ H Q
def R1 (r : R2) (x y : V) (H : Hp) (z : V) : Prop := ∀ Q : VK, Q z H → r x y H Q
def U1 (r : V → Hp → VK → Prop) (x : V) (H : Hp) (z : V) : Prop := ∀ Q : VK, Q z H → r x H Q
def C1 (r : List V → Hp → VK → Prop) (vs : List V) (H : Hp) (z : V) : Prop := ∀ Q : VK, Q z H → r vs H Q
section
variable {K : PySem.W.Frag} {As : List A} {σ : L2.St} {H : Hp} {ta tb te tc : TE} {t u : TT} {x y z v : V} {r : R2} {i j : Int} {a b : Bool} {P P' : Prop}
theorem e_var {i : Nat} (h : σ[i]? = some (some v)) : E1 (tVar i) σ H v := fun _ q => ⟨v, h, q⟩
theorem e_c : E1 (tC v) σ H v := fun _ q => q
theorem e_op (ha : E1 ta σ H x) (hb : E1 tb σ H y) (hr : R1 r x y H z) : E1 (tOp r ta tb) σ H z := fun Q q => ha _ (hb _ (hr Q q))
theorem e_un {r : V → Hp → VK → Prop} (ha : E1 ta σ H x) (hr : U1 r x H z) : E1 (tUn r ta) σ H z := fun Q q => ha _ (hr Q q)
theorem r_I0 {g : Int → Int → V} : R1 (rI0 g) (.int i) (.int j) H (g i j) := fun _ q => ⟨i, j, rfl, rfl, q⟩
theorem r_I {C : Int → Int → Prop} {g : Int → Int → V} (hc : C i j) : R1 (rI C g) (.int i) (.int j) H (g i j) := fun _ q => ⟨i, j, rfl, rfl, hc, q⟩
theorem u_I {g : Int → V} : U1 (rU g) (.int i) H (g i) := fun _ q => ⟨i, rfl, q⟩
theorem r_eqI : R1 rEq (.int i) (.int j) H (.bl (decide (i = j))) := fun Q q => ⟨rfl, by rw [show decide (V.int i = V.int j) = decide (i = j) by simp]; exact q⟩
theorem r_neI : R1 rNe (.int i) (.int j) H (.bl (!decide (i = j))) := fun Q q => ⟨rfl, by rw [show decide (V.int i = V.int j) = decide (i = j) by simp]; exact q⟩
theorem r_eq (h : scal x y = true) : R1 rEq x y H (.bl (decide (x = y))) := fun Q q => ⟨h, q⟩
theorem r_ne (h : scal x y = true) : R1 rNe x y H (.bl (!decide (x = y))) := fun Q q => ⟨h, q⟩
theorem r_isN : R1 rIsN x .non H (.bl (decide (x = .non))) := fun Q q => ⟨rfl, q⟩
theorem r_notN : R1 rNotN x .non H (.bl (!decide (x = .non))) := fun Q q => ⟨rfl, q⟩
theorem e_nil : A1 tNil σ H [] := fun _ q => q
theorem e_cons {tr : TA} {vs : List V} (h : E1 ta σ H x) (k : A1 tr σ H vs) : A1 (tCons ta tr) σ H (x :: vs) := fun _ q => h _ (k _ q)
theorem e_cb {r : List V → Hp → VK → Prop} {tr : TA} {vs : List V} (h : A1 tr σ H vs) (hr : C1 r vs H z) : E1 (tCB r tr) σ H z := fun Q q => h _ (hr Q q)
theorem e_andV (h : E1 ta σ H (.bl a)) (k : a = true → E1 tb σ H (.bl b)) : E1 (tAndV ta tb) σ H (.bl (a && b)) := fun Q q => h _ ⟨a, rfl, by
  cases a with
  | true => rw [if_pos rfl]; exact k rfl Q q
  | false => rw [if_neg Bool.false_ne_true]; exact q⟩
theorem e_orV (h : E1 ta σ H (.bl a)) (k : a = false → E1 tb σ H (.bl b)) : E1 (tOrV ta tb) σ H (.bl (a || b)) := fun Q q => h _ ⟨a, rfl, by
  cases a with
  | true => rw [if_pos rfl]; exact q
  | false => rw [if_neg Bool.false_ne_true]; exact k rfl Q q⟩
theorem e_notV (h : E1 ta σ H (.bl a)) : E1 (tNotV ta) σ H (.bl (!a)) := fun Q q => h _ ⟨a, rfl, q⟩
theorem e_ite [Decidable P] (h : T1 t σ H P) (h1 : P → E1 ta σ H x) (h2 : ¬ P → E1 tb σ H y) : E1 (tIf t ta tb) σ H (if P then x else y) := fun Q q => h _
  (fun p => by rw [if_pos rfl]; rw [if_pos p] at q; exact h1 p Q q) (fun p => by rw [if_neg Bool.false_ne_true]; rw [if_neg p] at q; exact h2 p Q q)
theorem e_is (h : E1 te σ H v) (e : v = x) : E1 te σ H x := by rw [← e]; exact h
theorem e_bits (h : E1 ta σ H (.int i)) : E1 (tBits ta) σ H (.int (Builtin.Int.intBits i : Nat)) := fun Q q => h _ ⟨i, rfl, q⟩
/-! tests -/
theorem t_valP (h : E1 te σ H (.bl b)) (e : b = true ↔ P) : T1 (tB te) σ H P := fun Q q1 q2 => h _ ⟨b, rfl, by
  cases b with
  | true => exact q1 (e.mp rfl)
  | false => exact q2 fun p => Bool.false_ne_true (e.mpr p)⟩
theorem t_val (h : E1 te σ H (.bl b)) : T1 (tB te) σ H (b = true) := t_valP h Iff.rfl
theorem t_cmpP (h : E1 te σ H (.bl b)) (e : b = true ↔ P) : T1 (tTest te) σ H P := fun Q q1 q2 => h _ ⟨b, rfl, by
  cases b with
  | true => exact q1 (e.mp rfl)
  | false => exact q2 fun p => Bool.false_ne_true (e.mpr p)⟩
theorem t_cmp (h : E1 te σ H (.bl b)) : T1 (tTest te) σ H (b = true) := t_cmpP h Iff.rfl
/-- a comparison whose answer is a decided proposition, its negation -/
theorem t_dec [Decidable P] (h : E1 te σ H (.bl (decide P))) : T1 (tTest te) σ H P := t_cmpP h (by simp)
theorem t_ndec [Decidable P] (h : E1 te σ H (.bl (!decide P))) : T1 (tTest te) σ H (¬ P) := t_cmpP h (by simp)
theorem t_valD [Decidable P] (h : E1 te σ H (.bl (decide P))) : T1 (tB te) σ H P := t_valP h (by simp)
theorem t_eqI (ha : E1 ta σ H (.int i)) (hb : E1 tb σ H (.int j)) : T1 (tTest (tOp rEq ta tb)) σ H (i = j) := t_dec (e_op ha hb r_eqI)
theorem t_neI (ha : E1 ta σ H (.int i)) (hb : E1 tb σ H (.int j)) : T1 (tTest (tOp rNe ta tb)) σ H (¬ i = j) := t_ndec (e_op ha hb r_neI)
theorem t_eq (ha : E1 ta σ H x) (hb : E1 tb σ H y) (h : scal x y = true) : T1 (tTest (tOp rEq ta tb)) σ H (x = y) := t_dec (e_op ha hb (r_eq h))
theorem t_ne (ha : E1 ta σ H x) (hb : E1 tb σ H y) (h : scal x y = true) : T1 (tTest (tOp rNe ta tb)) σ H (¬ x = y) := t_ndec (e_op ha hb (r_ne h))
theorem t_I {p : Int → Int → Prop} [∀ i j, Decidable (p i j)] (ha : E1 ta σ H (.int i)) (hb : E1 tb σ H (.int j)) : T1 (tTest (tOp (rI0 fun i j => .bl (decide (p i j))) ta tb)) σ H (p i j) := t_dec (e_op ha hb r_I0)
theorem t_isN (ha : E1 ta σ H x) : T1 (tTest (tOp rIsN ta (tC .non))) σ H (x = .non) := t_dec (e_op ha e_c r_isN)
theorem t_notN (ha : E1 ta σ H x) : T1 (tTest (tOp rNotN ta (tC .non))) σ H (¬ x = .non) := t_ndec (e_op ha e_c r_notN)
theorem t_and (h : T1 t σ H P) (k : P → T1 u σ H P') : T1 (tAnd t u) σ H (P ∧ P') := fun Q q1 q2 => h _
  (fun p => by rw [if_pos rfl]; exact k p Q (fun p' => q1 ⟨p, p'⟩) fun n => q2 fun m => n m.2) (fun n => by rw [if_neg Bool.false_ne_true]; exact q2 fun m => n m.1)
theorem t_or (h : T1 t σ H P) (k : ¬ P → T1 u σ H P') : T1 (tOr t u) σ H (P ∨ P') := fun Q q1 q2 => h _
  (fun p => by rw [if_pos rfl]; exact q1 (.inl p)) (fun n => by rw [if_neg Bool.false_ne_true]; exact k n Q (fun p' => q1 (.inr p')) fun n' => q2 fun m => m.elim n n')
theorem t_not (h : T1 t σ H P) : T1 (tNot t) σ H (¬ P) := fun Q q1 q2 => h _ (fun p => q2 fun n => n p) fun n => q1 n
theorem t_yes : T1 tYes σ H True := fun Q q1 _ => q1 trivial
theorem t_truI (h : E1 ta σ H (.int i)) : T1 (tTru K ta) σ H (i ≠ 0) := fun Q q1 q2 => h _ ⟨(i != 0), rfl, by
  by_cases e : i = 0
  · subst e; exact q2 fun n => n rfl
  · rw [show (i != 0) = true by simpa using e]; exact q1 e⟩
theorem t_truL {p : Addr} {ds : List D} (s : sat As H) (e : Ent As H (.ref p) (.lst ds)) (h : E1 ta σ H (.ref p)) : T1 (tTru K ta) σ H (ds ≠ []) := fun Q q1 q2 => by
  obtain ⟨xs, e1, e2, _⟩ := s.rlv e
  refine h _ ⟨!xs.isEmpty, .inl ⟨xs, .inl (.inl e1), rfl⟩, ?_⟩
  cases xs with
  | nil =>
    have : ds = [] := List.length_eq_zero_iff.mp e2.symm
    exact q2 fun n => n this
  | cons _ _ => exact q1 fun n => by rw [n] at e2; cases e2
theorem t_truO {p : Addr} {ds : List D} (s : sat As H) (i : Nat) (h : E1 ta σ H (.ref p)) (e : As[i]? = some (ol p ds) := by rfl) : T1 (tTru K ta) σ H (ds ≠ []) := fun Q q1 q2 => by
  obtain ⟨xs, e1, e2, _⟩ := s.olv i e
  refine h _ ⟨!xs.isEmpty, .inl ⟨xs, .inl (.inl e1), rfl⟩, ?_⟩
  cases xs with
  | nil =>
    have : ds = [] := List.length_eq_zero_iff.mp e2.symm
    exact q2 fun n => n this
  | cons _ _ => exact q1 fun n => by rw [n] at e2; cases e2

/-! lists, tuples that are read -/
theorem atI_len {α β : Type} {xs : List α} {ds : List β} (l : xs.length = ds.length) {i : Int} {d : β} (h : atI ds i = some d) : ∃ (j : Nat) (x : α), xs[j]? = some x ∧ ds[j]? = some d ∧ atI xs i = some x := by
  unfold atI at h ⊢
  rw [l]
  cases q : ixN ds.length i with
  | none => rw [q] at h; cases h
  | some j =>
    rw [q] at h
    have e : ds[j]? = some d := h
    have hj : j < xs.length := by rw [l]; exact (List.getElem?_eq_some_iff.mp e).1
    exact ⟨j, xs[j], List.getElem?_eq_getElem hj, e, List.getElem?_eq_getElem hj⟩
/-- xs[i], t[i]: a flat item -/
theorem r_ixL (s : sat As H) {p : Addr} {ds : List D} (e : Ent As H (.ref p) (.lst ds)) (h : atI ds i = some (.v v)) : R1 (rIxL K) (.ref p) (.int i) H v := fun Q q => by
  obtain ⟨xs, h1, h2, h3⟩ := s.rlv e
  obtain ⟨j, x, e1, e2, e3⟩ := atI_len h2 h
  have z := s.flat (h3.get e1 e2)
  subst z
  exact ⟨p, xs, i, _, rfl, rfl, .inl (.inl h1), e3, q⟩
theorem r_ixT (s : sat As H) {p : Addr} {ds : List D} (e : Ent As H (.ref p) (.tup ds)) (h : atI ds i = some (.v v)) : R1 (rIxT K) (.ref p) (.int i) H v := fun Q q => by
  obtain ⟨xs, h1, h2, h3⟩ := s.rtv e
  obtain ⟨j, x, e1, e2, e3⟩ := atI_len h2 h
  have z := s.flat (h3.get e1 e2)
  subst z
  exact ⟨p, xs, i, _, rfl, rfl, .inl (.inl h1), e3, q⟩
theorem r_ixO (s : sat As H) {p : Addr} {ds : List D} (k : Nat) (h : atI ds i = some (.v v)) (e : As[k]? = some (ol p ds) := by rfl) : R1 (rIxL K) (.ref p) (.int i) H v := fun Q q => by
  obtain ⟨xs, h1, h2, h3⟩ := s.olv k e
  obtain ⟨j, x, e1, e2, e3⟩ := atI_len h2 h
  have z := s.flat (h3.get e1 e2)
  subst z
  exact ⟨p, xs, i, _, rfl, rfl, .inl (.inl h1), e3, q⟩
/-- any item: a new atom -/
theorem x_ixL (s : sat As H) {p : Addr} {ds : List D} (e : Ent As H (.ref p) (.lst ds)) {d : D} (h : atI ds i = some d) {Q : VK} (k : ∀ x, sat (.rp x d :: As) H → Q x H) : rIxL K (.ref p) (.int i) H Q := by
  obtain ⟨xs, h1, h2, h3⟩ := s.rlv e
  obtain ⟨j, x, e1, e2, e3⟩ := atI_len h2 h
  exact ⟨p, xs, i, _, rfl, rfl, .inl (.inl h1), e3, k x (s.rp (h3.get e1 e2))⟩
theorem x_ixT (s : sat As H) {p : Addr} {ds : List D} (e : Ent As H (.ref p) (.tup ds)) {d : D} (h : atI ds i = some d) {Q : VK} (k : ∀ x, sat (.rp x d :: As) H → Q x H) : rIxT K (.ref p) (.int i) H Q := by
  obtain ⟨xs, h1, h2, h3⟩ := s.rtv e
  obtain ⟨j, x, e1, e2, e3⟩ := atI_len h2 h
  exact ⟨p, xs, i, _, rfl, rfl, .inl (.inl h1), e3, k x (s.rp (h3.get e1 e2))⟩
theorem x_ixO (s : sat As H) {p : Addr} {ds : List D} (m : Nat) {d : D} (h : atI ds i = some d) (e : As[m]? = some (ol p ds)) {Q : VK} (k : ∀ x, sat (.rp x d :: As) H → Q x H) : rIxL K (.ref p) (.int i) H Q := by
  obtain ⟨xs, h1, h2, h3⟩ := s.olv m e
  obtain ⟨j, x, e1, e2, e3⟩ := atI_len h2 h
  exact ⟨p, xs, i, _, rfl, rfl, .inl (.inl h1), e3, k x (s.rp (h3.get e1 e2))⟩
/-- raw owned lists -/
theorem r_ixP (s : sat As H) {p : Addr} {xs : List V} (k : Nat) (h : atI xs i = some v) (e : As[k]? = some (pt p (.lst xs)) := by rfl) : R1 (rIxL K) (.ref p) (.int i) H v := fun Q q => by
  obtain ⟨o, F, h1, h2, _⟩ := s.own k e
  subst h2
  exact ⟨p, xs, i, _, rfl, rfl, .inl (.inl h1), h, q⟩
theorem c_lenL (s : sat As H) {p : Addr} {ds : List D} (e : Ent As H (.ref p) (.lst ds)) : C1 (rLn K) [.ref p] H (.int (ds.length : Int)) := fun Q q => by
  obtain ⟨xs, h1, h2, h3⟩ := s.rlv e
  exact ⟨p, xs, rfl, .inl (.inl (.inl h1)), by rw [h2]; exact q⟩
theorem c_lenT (s : sat As H) {p : Addr} {ds : List D} (e : Ent As H (.ref p) (.tup ds)) : C1 (rLn K) [.ref p] H (.int (ds.length : Int)) := fun Q q => by
  obtain ⟨xs, h1, h2, h3⟩ := s.rtv e
  exact ⟨p, xs, rfl, .inr (.inl (.inl h1)), by rw [h2]; exact q⟩
theorem c_lenO (s : sat As H) {p : Addr} {ds : List D} (k : Nat) (e : As[k]? = some (ol p ds) := by rfl) : C1 (rLn K) [.ref p] H (.int (ds.length : Int)) := fun Q q => by
  obtain ⟨xs, h1, h2, h3⟩ := s.olv k e
  exact ⟨p, xs, rfl, .inl (.inl (.inl h1)), by rw [h2]; exact q⟩
theorem c_int1 : C1 rInt1 [.int i] H (.int i) := fun Q q => .inl ⟨i, rfl, q⟩
theorem c_abs : C1 rAbs [.int i] H (.int (if i < 0 then -i else i)) := fun Q q => ⟨i, rfl, q⟩
theorem c_max2 : C1 rMax2 [.int i, .int j] H (.int (if j > i then j else i)) := fun Q q => ⟨i, j, rfl, q⟩
theorem c_min2 : C1 rMin2 [.int i, .int j] H (.int (if j < i then j else i)) := fun Q q => ⟨i, j, rfl, q⟩
theorem c_sum (s : sat As H) {p : Addr} {ns : List Int} (e : Ent As H (.ref p) (dIs ns)) : C1 (rSum K) [.ref p] H (.int ns.sum) := fun Q q => by
  obtain ⟨xs, h1, h2, h3⟩ := s.rlv e
  have z : xs = ns.map V.int := by
    obtain ⟨F, q⟩ := s
    exact (h3 F q).ints
  subst z
  exact ⟨p, ns, rfl, .inl (.inl h1), q⟩
/-- isinstance by a built-in class -/
theorem TyX.ofL (s : sat As H) {p : Addr} {ds : List D} (e : Ent As H (.ref p) (.lst ds)) : TyX K H (.ref p) (.type "list") := by
  obtain ⟨xs, h1, _⟩ := s.rlv e
  exact .base (.lst h1)
theorem TyX.ofT (s : sat As H) {p : Addr} {ds : List D} (e : Ent As H (.ref p) (.tup ds)) : TyX K H (.ref p) (.type "tuple") := by
  obtain ⟨xs, h1, _⟩ := s.rtv e
  exact .base (.tup h1)
theorem c_isi {t : Value} {n : String} {k : Bool} (ty : TyX K H x t) (h : PySem.W.kitOne K t (.type n) = some k) : C1 (rIsi K) [x, .ty n] H (.bl k) := fun Q q => ⟨x, .ty n, t, .type n, k, rfl, .ty n, ty, h, q⟩
theorem c_isiC {t : Value} {C : Addr} {k : Bool} (ty : TyX K H x t) (h : PySem.W.kitOne K t (.ref C) = some k) : C1 (rIsi K) [x, .ref C] H (.bl k) := fun Q q => ⟨x, .ref C, t, .ref C, k, rfl, .own C, ty, h, q⟩
end

/-! ### steps: an impure reading's part -/
section
variable {K : PySem.W.Frag} {As : List A} {σ : L2.St} {H : Hp} {ta tb te tc : TE} {t u : TT} {x y z v : V} {r : R2} {P : Prop} {nx bk ct : L2.St → Hp → Prop} {rt : VK} {s1 s2 : TS} {Q : VK}
theorem g_seq (h : s1 ⟨s2 ⟨nx, rt, bk, ct⟩, rt, bk, ct⟩ σ H) : tSeq s1 s2 ⟨nx, rt, bk, ct⟩ σ H := h
theorem g_next (h : nx σ H) : tNext ⟨nx, rt, bk, ct⟩ σ H := h
theorem g_set1 {i : Nat} (e : E1 te σ H v) (k : nx (σ.set i (some v)) H) : tAsg te (gName i) ⟨nx, rt, bk, ct⟩ σ H := e _ k
theorem g_set {i : Nat} (k : te σ H fun x H1 => nx (σ.set i (some x)) H1) : tAsg te (gName i) ⟨nx, rt, bk, ct⟩ σ H := k
theorem g_asg {g : TG} (k : te σ H fun x H1 => g x σ H1 nx) : tAsg te g ⟨nx, rt, bk, ct⟩ σ H := k
theorem g_ret1 (e : E1 te σ H v) (k : rt v H) : tRet te ⟨nx, rt, bk, ct⟩ σ H := e _ k
theorem g_ret (k : te σ H rt) : tRet te ⟨nx, rt, bk, ct⟩ σ H := k
theorem g_retN (k : rt .non H) : tRetN ⟨nx, rt, bk, ct⟩ σ H := k
theorem g_drop (k : te σ H fun _ H1 => nx σ H1) : tDrop te ⟨nx, rt, bk, ct⟩ σ H := k
theorem g_if1 (e : T1 t σ H P) (k1 : P → s1 ⟨nx, rt, bk, ct⟩ σ H) (k2 : ¬ P → s2 ⟨nx, rt, bk, ct⟩ σ H) : tIfS t s1 s2 ⟨nx, rt, bk, ct⟩ σ H := e _ (fun p => by rw [if_pos rfl]; exact k1 p) fun n => by rw [if_neg Bool.false_ne_true]; exact k2 n
theorem g_if (k : t σ H fun b H1 => if b = true then s1 ⟨nx, rt, bk, ct⟩ σ H1 else s2 ⟨nx, rt, bk, ct⟩ σ H1) : tIfS t s1 s2 ⟨nx, rt, bk, ct⟩ σ H := k
theorem g_aug1 {i : Nat} {f : Int → Int → Int} {a b : Int} (hx : σ[i]? = some (some (.int a))) (e : E1 te σ H (.int b)) (k : nx (σ.set i (some (.int (f a b)))) H) : tAug i te (ipI f) ⟨nx, rt, bk, ct⟩ σ H := ⟨.int a, hx, e _ ⟨a, b, rfl, rfl, k⟩⟩
theorem g_brk (k : bk σ H) : tBreak ⟨nx, rt, bk, ct⟩ σ H := k
theorem g_cnt (k : ct σ H) : tCont ⟨nx, rt, bk, ct⟩ σ H := k
/-- a pure part, then on -/
theorem g_e {Q : VK} (e : E1 te σ H v) (k : Q v H) : te σ H Q := e Q k
theorem g_a {ta : TA} {vs : List V} {Q : List V → Hp → Prop} (e : A1 ta σ H vs) (k : Q vs H) : ta σ H Q := e Q k
theorem g_op (k : ta σ H fun x H1 => tb σ H1 fun y H2 => r x y H2 Q) : tOp r ta tb σ H Q := k
theorem g_opl (e : E1 ta σ H x) (k : tb σ H fun y H2 => r x y H2 Q) : tOp r ta tb σ H Q := e _ k
theorem g_un {r : V → Hp → VK → Prop} (k : ta σ H fun x H1 => r x H1 Q) : tUn r ta σ H Q := k
theorem g_r {z : V} (e : R1 r x y H z) (k : Q z H) : r x y H Q := e Q k
theorem g_cb {r : List V → Hp → VK → Prop} {ta : TA} (k : ta σ H fun vs H1 => r vs H1 Q) : tCB r ta σ H Q := k
theorem g_cb1 {r : List V → Hp → VK → Prop} {ta : TA} {vs : List V} (e : A1 ta σ H vs) (k : r vs H Q) : tCB r ta σ H Q := e _ k
theorem g_c {r : List V → Hp → VK → Prop} {vs : List V} {z : V} (e : C1 r vs H z) (k : Q z H) : r vs H Q := e Q k
theorem g_call1 {sp : Sp} {dvs vs : List V} {E : XK} {ta : TA} (e : A1 ta σ H vs) (k : sp (vs ++ dvs) H Q E) : tCall sp dvs E ta σ H Q := e _ k
theorem g_call {sp : Sp} {dvs : List V} {E : XK} {ta : TA} (k : ta σ H fun vs H1 => sp (vs ++ dvs) H1 Q E) : tCall sp dvs E ta σ H Q := k
theorem g_acons {tr : TA} {Q : List V → Hp → Prop} (k : ta σ H fun x H1 => tr σ H1 fun vs H2 => Q (x :: vs) H2) : tCons ta tr σ H Q := k
theorem g_acons1 {tr : TA} {Q : List V → Hp → Prop} (e : E1 ta σ H x) (k : tr σ H fun vs H2 => Q (x :: vs) H2) : tCons ta tr σ H Q := e _ k
theorem g_anil {Q : List V → Hp → Prop} (k : Q [] H) : tNil σ H Q := k
theorem g_test (k : te σ H fun x H' => ∃ k, x = .bl k ∧ Q (.bl k) H') {R : Bool → Hp → Prop} (h : ∀ k H', Q (.bl k) H' → R k H') (mono : ∀ {Q Q' : VK}, (∀ x H, Q x H → Q' x H) → te σ H Q → te σ H Q') : tTest te σ H R := mono (fun x H' ⟨k, e, q⟩ => ⟨k, e, h k H' q⟩) k
theorem g_B {R : Bool → Hp → Prop} (k : te σ H fun x H' => ∃ c, x = .bl c ∧ R c H') : tB te σ H R := k
theorem g_T {R : Bool → Hp → Prop} (k : te σ H fun x H' => ∃ c, x = .bl c ∧ R c H') : tTest te σ H R := k
/-- a list made, a tuple made -/
theorem g_lst {ta : TA} {vs : List V} {ds : List Sat.D} (s : sat As H) (e : A1 ta σ H vs) (n : EntA As H vs ds) (hz : vs.length ≤ sizeLine) (k : ∀ p H1, sat (ol p ds :: As) H1 → Q (.ref p) H1) : tLst ta σ H Q := e _ ⟨hz, fun p hp => k p _ (s.newL hp n)⟩
theorem g_tup {ta : TA} {vs : List V} {ds : List Sat.D} (s : sat As H) (e : A1 ta σ H vs) (n : EntA As H vs ds) (hz : vs.length ≤ sizeLine) (k : ∀ p H1, sat (.rp (.ref p) (.tup ds) :: As) H1 → Q (.ref p) H1) : tTup ta σ H Q := e _ ⟨hz, fun p hp => k p _ (s.newT hp n)⟩
theorem x_lst {vs : List V} {ds : List Sat.D} (s : sat As H) (n : EntA As H vs ds) (hz : vs.length ≤ sizeLine) {Q : VK} (k : ∀ p H1, sat (ol p ds :: As) H1 → Q (.ref p) H1) : vs.length ≤ sizeLine ∧ ∀ p, H p = none → Q (.ref p) (upd H p (.lst vs)) := ⟨hz, fun p hp => k p _ (s.newL hp n)⟩
theorem x_tup {vs : List V} {ds : List Sat.D} (s : sat As H) (n : EntA As H vs ds) (hz : vs.length ≤ sizeLine) {Q : VK} (k : ∀ p H1, sat (.rp (.ref p) (.tup ds) :: As) H1 → Q (.ref p) H1) : vs.length ≤ sizeLine ∧ ∀ p, H p = none → Q (.ref p) (upd H p (.tup vs)) := ⟨hz, fun p hp => k p _ (s.newT hp n)⟩
theorem x_listL (s : sat As H) {p : Addr} {ds : List Sat.D} (e : Ent As H (.ref p) (.lst ds)) (k : ∀ p H1, sat (ol p ds :: As) H1 → Q (.ref p) H1) : rLO K [.ref p] H Q := by
  obtain ⟨xs, h1, h2, h3⟩ := s.rlv e
  exact ⟨p, xs, rfl, .inl (.inl (.inl h1)), fun l hl => k l _ (s.newL hl h3)⟩
theorem x_listT (s : sat As H) {p : Addr} {ds : List Sat.D} (e : Ent As H (.ref p) (.tup ds)) (k : ∀ p H1, sat (ol p ds :: As) H1 → Q (.ref p) H1) : rLO K [.ref p] H Q := by
  obtain ⟨xs, h1, h2, h3⟩ := s.rtv e
  exact ⟨p, xs, rfl, .inr (.inl (.inl h1)), fun l hl => k l _ (s.newL hl h3)⟩
theorem x_listO (s : sat As H) {p : Addr} {ds : List Sat.D} (m : Nat) (e : As[m]? = some (ol p ds)) (k : ∀ p H1, sat (ol p ds :: As) H1 → Q (.ref p) H1) : rLO K [.ref p] H Q := by
  obtain ⟨xs, h1, h2, h3⟩ := s.olv m e
  exact ⟨p, xs, rfl, .inl (.inl (.inl h1)), fun l hl => k l _ (s.newL hl h3)⟩
/-- an owned list's methods -/
theorem tyO (s : sat As H) {p : Addr} {ds : List Sat.D} (m : Nat) (e : As[m]? = some (ol p ds) := by rfl) : tyV K "list" (.ref p) H := by
  obtain ⟨xs, h1, _⟩ := s.olv m e
  exact .inl ⟨rfl, xs, .inl (.inl h1)⟩
theorem x_app (s : sat As H) {p : Addr} {ds : List Sat.D} {d : Sat.D} (m : Nat) (e : As[m]? = some (ol p ds)) (n : Ent As H x d) (hz : ds.length < sizeLine) (k : ∀ H1, sat (As.set m (ol p (ds ++ [d]))) H1 → Q .non H1) : rAppend (.ref p) [x] H Q := by
  obtain ⟨xs, h1, h2, h3⟩ := s.olv m e
  exact ⟨p, xs, x, rfl, rfl, h1, by rw [h2]; exact hz, k _ (s.updL m e (h3.append (.cons n .nil)))⟩
theorem x_clear (s : sat As H) {p : Addr} {ds : List Sat.D} (m : Nat) (e : As[m]? = some (ol p ds)) (k : ∀ H1, sat (As.set m (ol p [])) H1 → Q .non H1) : rClear (.ref p) [] H Q := by
  obtain ⟨xs, h1, h2, h3⟩ := s.olv m e
  exact ⟨p, xs, rfl, rfl, h1, k _ (s.updL m e .nil)⟩
theorem x_rev (s : sat As H) {p : Addr} {ds : List Sat.D} (m : Nat) (e : As[m]? = some (ol p ds)) (k : ∀ H1, sat (As.set m (ol p ds.reverse)) H1 → Q .non H1) : rReverse (.ref p) [] H Q := by
  obtain ⟨xs, h1, h2, h3⟩ := s.olv m e
  exact ⟨p, xs, rfl, rfl, h1, k _ (s.updL m e h3.reverse)⟩
theorem x_extL (s : sat As H) {p b : Addr} {ds es : List Sat.D} (m : Nat) (e : As[m]? = some (ol p ds)) (n : Ent As H (.ref b) (.lst es)) (hz : ds.length + es.length ≤ sizeLine) (k : ∀ H1, sat (As.set m (ol p (ds ++ es))) H1 → Q .non H1) : rExtend (.ref p) [.ref b] H Q := by
  obtain ⟨xs, h1, h2, h3⟩ := s.olv m e
  obtain ⟨ys, k1, k2, k3⟩ := s.rlv n
  exact ⟨p, b, xs, ys, rfl, rfl, h1, k1, by omega, k _ (s.updL m e (h3.append k3))⟩
theorem x_extO (s : sat As H) {p b : Addr} {ds es : List Sat.D} (m j : Nat) (e : As[m]? = some (ol p ds)) (n : As[j]? = some (ol b es)) (hz : ds.length + es.length ≤ sizeLine) (k : ∀ H1, sat (As.set m (ol p (ds ++ es))) H1 → Q .non H1) : rExtend (.ref p) [.ref b] H Q := by
  obtain ⟨xs, h1, h2, h3⟩ := s.olv m e
  obtain ⟨ys, k1, k2, k3⟩ := s.olv j n
  exact ⟨p, b, xs, ys, rfl, rfl, h1, k1, by omega, k _ (s.updL m e (h3.append k3))⟩
theorem x_ins (s : sat As H) {p : Addr} {ds : List Sat.D} {d : Sat.D} {i : Int} (m : Nat) (e : As[m]? = some (ol p ds)) (n : Ent As H x d) (hz : ds.length < sizeLine) (h0 : 0 ≤ i) (h9 : i < 2 ^ 63) (k : ∀ H1, sat (As.set m (ol p (ds.take i.toNat ++ [d] ++ ds.drop i.toNat))) H1 → Q .non H1) : rIns (.ref p) [.int i, x] H Q := by
  obtain ⟨xs, h1, h2, h3⟩ := s.olv m e
  exact ⟨p, xs, i, x, rfl, rfl, h1, by rw [h2]; exact hz, h0, h9, k _ (s.updL m e (((h3.take _).append (.cons n .nil)).append (h3.drop _)))⟩
/-- raw owned lists: store[i] = v -/
theorem x_setP (s : sat As H) {p : Addr} {xs : List V} {i : Int} {j : Nat} (m : Nat) (e : As[m]? = some (pt p (.lst xs))) (h : ixN xs.length i = some j) {R : Hp → Prop} (k : ∀ H1, sat (As.set m (pt p (.lst (xs.set j v)))) H1 → R H1) : rSetL (.ref p) (.int i) v H R := by
  obtain ⟨o, F, h1, h2, _⟩ := s.own m e
  subst h2
  exact ⟨p, xs, i, j, rfl, rfl, h1, h, k _ (s.updP m e)⟩
theorem x_setL (s : sat As H) {p : Addr} {ds : List Sat.D} {d : Sat.D} {i : Int} {j : Nat} (m : Nat) (e : As[m]? = some (ol p ds)) (n : Ent As H v d) (h : ixN ds.length i = some j) {R : Hp → Prop} (k : ∀ H1, sat (As.set m (ol p (ds.set j d))) H1 → R H1) : rSetL (.ref p) (.int i) v H R := by
  obtain ⟨xs, h1, h2, h3⟩ := s.olv m e
  exact ⟨p, xs, i, j, rfl, rfl, h1, by rw [h2]; exact h, k _ (s.updL m e (h3.set n j))⟩
/-! ### loops -/
theorem x_forL {p : Addr} {ds : List Sat.D} {g : TG} {tb : TS} {tl : TE} (s : sat As H) (n : Ent As H (.ref p) (.lst ds)) (e : E1 tl σ H (.ref p)) (Pv : Nat → L2.St → Hp → Prop) (h0 : Pv 0 σ H) (hl : ∀ i σ H, i ≤ ds.length → Pv i σ H → ∃ As, sat As H ∧ Ent As H (.ref p) (.lst ds))
    (hs : ∀ i d x σ H, ds[i]? = some d → Pv i σ H → (∀ {As}, Ent As H (.ref p) (.lst ds) → Ent As H x d) → g x σ H fun σ2 H2 => tb ⟨Pv (i + 1), rt, nx, Pv (i + 1)⟩ σ2 H2) (hd : ∀ σ H, Pv ds.length σ H → nx σ H) : tFor (iList K tl) g tb ⟨nx, rt, bk, ct⟩ σ H := e _ ⟨p, rfl, by
  obtain ⟨xs, h1, _⟩ := s.rlv n
  refine ⟨⟨xs, .inl (.inl h1)⟩, fun i m σ H => m = ds.length - i ∧ i ≤ ds.length ∧ Pv i σ H, ⟨ds.length, by simp, Nat.zero_le _, h0⟩, ?_⟩
  rintro i m σ H ⟨rfl, hi, q⟩
  obtain ⟨As, s, n⟩ := hl i σ H hi q
  obtain ⟨xs, h1, h2, h3⟩ := s.rlv n
  by_cases hlt : i < ds.length
  · have hx : i < xs.length := by omega
    refine .inr ⟨⟨xs, xs[i], .inl (.inl h1), List.getElem?_eq_getElem hx⟩, Pv (i + 1), fun σ' H' p' => ⟨ds.length - (i + 1), by omega, rfl, hlt, p'⟩, fun x H' y => ?_⟩
    obtain ⟨e, y⟩ := y
    subst e
    have ex := y xs (.inl (.inl h1))
    exact hs i ds[i] x σ _ (List.getElem?_eq_getElem hlt) q fun {As} n' F q' => by
      cases n' F q' with
      | lst f1 f2 =>
        have e1 := q'.ex _ _ f1
        rw [h1] at e1
        cases e1
        obtain ⟨z, e2, r⟩ := f2.get (List.getElem?_eq_getElem hlt)
        rw [ex] at e2
        cases e2
        exact r
  · have e : i = ds.length := by omega
    subst e
    exact .inl ⟨⟨xs, .inl (.inl h1), by omega⟩, hd σ H q⟩⟩
theorem x_forR1 {ta : TA} {g : TG} {tb : TS} {n : Int} (e : A1 ta σ H [.int n]) (hn : -(2 ^ 62) ≤ n ∧ n < 2 ^ 62) (Pv : Nat → L2.St → Hp → Prop) (h0 : Pv 0 σ H)
    (hs : ∀ (i : Nat) σ H, (i : Int) < n → Pv i σ H → g (.int (i : Int)) σ H fun σ2 H2 => tb ⟨Pv (i + 1), rt, nx, Pv (i + 1)⟩ σ2 H2) (hd : ∀ σ H, Pv n.toNat σ H → nx σ H) : tFor (iRng1 ta) g tb ⟨nx, rt, bk, ct⟩ σ H :=
  e _ ⟨n, rfl, hn.1, hn.2, for_range (lo := 0) (n := n.toNat) Pv h0 (fun i σ H hi q => by rw [Int.zero_add]; exact hs i σ H (by omega) q) hd⟩
theorem x_forR2 {ta : TA} {g : TG} {tb : TS} {lo n : Int} (e : A1 ta σ H [.int lo, .int n]) (hn : -(2 ^ 62) ≤ lo ∧ lo < 2 ^ 62 ∧ -(2 ^ 62) ≤ n ∧ n < 2 ^ 62) (Pv : Nat → L2.St → Hp → Prop) (h0 : Pv 0 σ H)
    (hs : ∀ (i : Nat) σ H, lo + (i : Int) < n → Pv i σ H → g (.int (lo + (i : Int))) σ H fun σ2 H2 => tb ⟨Pv (i + 1), rt, nx, Pv (i + 1)⟩ σ2 H2) (hd : ∀ σ H, Pv (n - lo).toNat σ H → nx σ H) : tFor (iRng2 ta) g tb ⟨nx, rt, bk, ct⟩ σ H :=
  e _ ⟨lo, n, rfl, hn, for_range (lo := lo) (n := (n - lo).toNat) Pv h0 (fun i σ H hi q => hs i σ H (by omega) q) hd⟩
theorem x_while {t : TT} {tb : TS} (Pv : Nat → L2.St → Hp → Prop) (m0 : Nat) (h0 : Pv m0 σ H) (hs : ∀ m σ H, Pv m σ H → ∃ P, T1 t σ H P ∧ (P → ∃ N : L2.St → Hp → Prop, (∀ σ2 H2, N σ2 H2 → ∃ m', m' < m ∧ Pv m' σ2 H2) ∧ tb ⟨N, rt, nx, N⟩ σ H) ∧ (¬ P → nx σ H)) : tWhile t tb ⟨nx, rt, bk, ct⟩ σ H :=
  ⟨Pv, ⟨m0, h0⟩, fun m σ H q => by
    obtain ⟨P, ht, h1, h2⟩ := hs m σ H q
    exact ht _ (fun p => by rw [if_pos rfl]; exact h1 p) fun n => by rw [if_neg Bool.false_ne_true]; exact h2 n⟩
/-! ### comprehensions: the new list is owned -/
/-- one turn's end: the item is appended to the owned list at place m -/
theorem x_lcE {Dl : Addr} {G : List V → Prop} {ds : List Sat.D} {d : Sat.D} (s : sat As H) (m : Nat) (e : As[m]? = some (ol Dl ds)) (n : Ent As H x d) (hz : ds.length < sizeLine) (k : ∀ acc, sat (As.set m (ol Dl (ds ++ [d]))) (upd H Dl (.lst (acc ++ [x]))) → G acc) : ∃ acc, H Dl = some (.lst acc) ∧ acc.length < sizeLine ∧ G acc := by
  obtain ⟨xs, h1, h2, h3⟩ := s.olv m e
  exact ⟨xs, h1, by rw [h2]; exact hz, k _ (s.updL m e (h3.append (.cons n .nil)))⟩
abbrev LcTurn (g : TG) (tt : TT) (te : TE) (vs : List Nat) (σ : L2.St) (Dl : Addr) (x : V) (H : Hp) (N : Hp → Prop) : Prop :=
  g x (wipe σ vs) H fun σ2 H2 => wipe σ2 vs = wipe σ vs ∧ tt σ2 H2 fun b H3 => if b = true then te σ2 H3 fun y H4 => ∃ acc, H4 Dl = some (.lst acc) ∧ acc.length < sizeLine ∧ N (upd H4 Dl (.lst (acc ++ [y]))) else N H3
theorem x_lcL {p : Addr} {ds : List Sat.D} {g : TG} {tt : TT} {te tl : TE} {vs : List Nat} (s : sat As H) (n : Ent As H (.ref p) (.lst ds)) (e : E1 tl σ H (.ref p)) (Pv : Addr → Nat → Hp → Prop) (h0 : ∀ Dl H1, sat (ol Dl [] :: As) H1 → Pv Dl 0 H1)
    (hl : ∀ Dl i H, i ≤ ds.length → Pv Dl i H → ∃ As, sat As H ∧ Ent As H (.ref p) (.lst ds))
    (hs : ∀ Dl i d x H, ds[i]? = some d → Pv Dl i H → (∀ {As}, Ent As H (.ref p) (.lst ds) → Ent As H x d) → LcTurn g tt te vs σ Dl x H (Pv Dl (i + 1))) (hd : ∀ Dl H, Pv Dl ds.length H → Q (.ref Dl) H) : tLc (iList K tl) g tt te vs σ H Q := e _ ⟨p, rfl, by
  obtain ⟨xs, h1, _⟩ := s.rlv n
  refine ⟨⟨xs, .inl (.inl h1)⟩, fun Dl hD => ⟨fun i m H => m = ds.length - i ∧ i ≤ ds.length ∧ Pv Dl i H, ⟨ds.length, by simp, Nat.zero_le _, h0 Dl _ (s.newL hD .nil)⟩, ?_⟩⟩
  rintro i m H ⟨rfl, hi, q⟩
  obtain ⟨As, s, n⟩ := hl Dl i H hi q
  obtain ⟨xs, h1, h2, h3⟩ := s.rlv n
  by_cases hlt : i < ds.length
  · have hx : i < xs.length := by omega
    refine .inr ⟨⟨xs, xs[i], .inl (.inl h1), List.getElem?_eq_getElem hx⟩, Pv Dl (i + 1), fun H' p' => ⟨ds.length - (i + 1), by omega, rfl, hlt, p'⟩, fun x H' y => ?_⟩
    obtain ⟨e, y⟩ := y
    subst e
    have ex := y xs (.inl (.inl h1))
    exact hs Dl i ds[i] x _ (List.getElem?_eq_getElem hlt) q fun {As} n' F q' => by
      cases n' F q' with
      | lst f1 f2 =>
        have e1 := q'.ex _ _ f1
        rw [h1] at e1
        cases e1
        obtain ⟨z, e2, r⟩ := f2.get (List.getElem?_eq_getElem hlt)
        rw [ex] at e2
        cases e2
        exact r
  · have e : i = ds.length := by omega
    subst e
    exact .inl ⟨⟨xs, .inl (.inl h1), by omega⟩, hd Dl H q⟩⟩
theorem x_lcR1 {ta : TA} {g : TG} {tt : TT} {te : TE} {vs : List Nat} {n : Int} (s : sat As H) (e : A1 ta σ H [.int n]) (hn : -(2 ^ 62) ≤ n ∧ n < 2 ^ 62) (Pv : Addr → Nat → Hp → Prop) (h0 : ∀ Dl H1, sat (ol Dl [] :: As) H1 → Pv Dl 0 H1)
    (hs : ∀ Dl (i : Nat) H, (i : Int) < n → Pv Dl i H → LcTurn g tt te vs σ Dl (.int (i : Int)) H (Pv Dl (i + 1))) (hd : ∀ Dl H, Pv Dl n.toNat H → Q (.ref Dl) H) : tLc (iRng1 ta) g tt te vs σ H Q :=
  e _ ⟨n, rfl, hn.1, hn.2, fun Dl hD => lc_range (lo := 0) (n := n.toNat) (Pv Dl) (h0 Dl _ (s.newL hD .nil)) (fun i H hi q => by rw [Int.zero_add]; exact hs Dl i H (by omega) q) (hd Dl)⟩
theorem x_lcR2 {ta : TA} {g : TG} {tt : TT} {te : TE} {vs : List Nat} {lo n : Int} (s : sat As H) (e : A1 ta σ H [.int lo, .int n]) (hn : -(2 ^ 62) ≤ lo ∧ lo < 2 ^ 62 ∧ -(2 ^ 62) ≤ n ∧ n < 2 ^ 62) (Pv : Addr → Nat → Hp → Prop) (h0 : ∀ Dl H1, sat (ol Dl [] :: As) H1 → Pv Dl 0 H1)
    (hs : ∀ Dl (i : Nat) H, lo + (i : Int) < n → Pv Dl i H → LcTurn g tt te vs σ Dl (.int (lo + (i : Int))) H (Pv Dl (i + 1))) (hd : ∀ Dl H, Pv Dl (n - lo).toNat H → Q (.ref Dl) H) : tLc (iRng2 ta) g tt te vs σ H Q :=
  e _ ⟨lo, n, rfl, hn, fun Dl hD => lc_range (lo := lo) (n := (n - lo).toNat) (Pv Dl) (h0 Dl _ (s.newL hD .nil)) (fun i H hi q => hs Dl i H (by omega) q) (hd Dl)⟩
end
end Sat

set_option Elab.async false
set_option linter.all false
set_option maxRecDepth 100000
set_option maxHeartbeats 1000000
/-! SatC: calls of the text's own defs, in short -/
namespace Sat
open PySem PySem.Spec PyProof.Rows L2
open Evl (Ex)
/-- a def of the module that is called: its promise -/
structure Cal (P : Program) (w : World) (K : PySem.W.Frag) (mg : Str → Option Value) (base : Heap) (CX : CXT) (k : Nat) (x : Str) (ps : List Str) (sp : Sp) where
  f : Addr
  fd : FuncData
  ok : FnOk P w K mg base CX k f fd ps sp
  kp : PySem.W.keepIn K (.ref f) = true
  b : Binds K fd ps []
  g : mg x = some (.ref f)
section
variable {X : Cx} {k j : Nat} {ps ks : List Str} {sp : Sp} {E : XK} {x : Str} {p pos kpos : Pos} {e : Expr} {es : List Expr} {kws : List Keyword} {t tk : TA} {CX : CXT}
theorem pe_fX (c : Cal X.prog X.w X.K X.mg X.base CX k x ps sp) (hr : Room j X.A) (hx : Passes CX X E) (ha : PA X (e :: es) t) (hg : Gl X x := by rfl) (hkj : k ≤ j := by decide) (hdb : (x == ("__debug__" : Str)) = false := by decide)
    (he : starEach (e :: es) X.env = (false, eval e X.env) :: starEach es X.env := by rfl) (hpl : (backTo pos (starEach es X.env)).any (·.1) = false := by rfl) : PE X (.Call (.Name x p) (e :: es) [] pos) (tCall sp [] E t) :=
  pe_call c.ok (hr.mono hkj) hg c.g c.kp c.b .nil hx ha hdb he hpl
theorem pe_f0X (c : Cal X.prog X.w X.K X.mg X.base CX k x ps sp) (hr : Room j X.A) (hx : Passes CX X E) (hg : Gl X x := by rfl) (hkj : k ≤ j := by decide) (hdb : (x == ("__debug__" : Str)) = false := by decide) : PE X (.Call (.Name x p) [] [] pos) (tCall sp [] E tNil) :=
  pe_call0 c.ok (hr.mono hkj) hg c.g c.kp c.b .nil hx hdb
theorem pe_f (c : Cal X.prog X.w X.K X.mg X.base CX0 k x ps sp) (hr : Room j X.A) (ha : PA X (e :: es) t) (hg : Gl X x := by rfl) (hkj : k ≤ j := by decide) (hdb : (x == ("__debug__" : Str)) = false := by decide)
    (he : starEach (e :: es) X.env = (false, eval e X.env) :: starEach es X.env := by rfl) (hpl : (backTo pos (starEach es X.env)).any (·.1) = false := by rfl) : PE X (.Call (.Name x p) (e :: es) [] pos) (tCall sp [] E0 t) :=
  pe_call c.ok (hr.mono hkj) hg c.g c.kp c.b .nil pass0 ha hdb he hpl
theorem pe_f0 (c : Cal X.prog X.w X.K X.mg X.base CX0 k x ps sp) (hr : Room j X.A) (hg : Gl X x := by rfl) (hkj : k ≤ j := by decide) (hdb : (x == ("__debug__" : Str)) = false := by decide) : PE X (.Call (.Name x p) [] [] pos) (tCall sp [] E0 tNil) :=
  pe_call0 c.ok (hr.mono hkj) hg c.g c.kp c.b .nil pass0 hdb
/-! the rules with K by name (within a comprehension's block X.K is not yet K to the sign) -/
variable {K : PySem.W.Frag}
theorem ix_listK (hK : X.K = K) : IxR X (rIxL K) := by subst hK; exact ix_list
theorem ix_seqK (hK : X.K = K) : IxR X (rIx K) := by subst hK; exact ix_seq
theorem ix_tupK (hK : X.K = K) : IxR X (rIxT K) := by subst hK; exact ix_tup
theorem call_lenK (hK : X.K = K) : CallR X (.builtin "len") (rLn K) := by subst hK; exact call_len'
theorem call_listK (hK : X.K = K) : CallR X (.type "list") (rLO K) := by subst hK; exact call_list'
theorem op_inK (hK : X.K = K) : OpR X (compareOp .In) (rIn K false) := by subst hK; exact op_in_seq
theorem op_notInK (hK : X.K = K) : OpR X (compareOp .NotIn) (rIn K true) := by subst hK; exact op_notIn_seq
theorem sl_listK (hK : X.K = K) : SlR X (rSlL K) := by subst hK; exact sl_list
theorem cr_sumK (hK : X.K = K) (hc : X.calm = true) : CallR X (.builtin "sum") (rSum K) := by subst hK; exact cr_sum hc
theorem call_isiK' (hK : X.K = K) : CallR X (.builtin "isinstance") (rIsi K) := by subst hK; exact call_isi
theorem pt_truK {a : Expr} {ta : TE} (hK : X.K = K) (ha : PE X a ta) (he : ∀ whole, isTrue a X.env whole = (do let v ← whole; standAt a.pos; holding [v] (truthy v)) := by intro _; rfl) : PT X a (tTru K ta) := by subst hK; exact pt_tru' ha he
theorem pi_listK {tg iter : Expr} {tl : TE} (hK : X.K = K) (h : PE X iter tl) : PI X tg iter (iList K tl) := by subst hK; exact pi_list h
theorem pi_tupK {tg iter : Expr} {tl : TE} (hK : X.K = K) (h : PE X iter tl) : PI X tg iter (iTup K tl) := by subst hK; exact pi_tup h
/-- keywords alone, in the parameters' order -/
def KAll (K : PySem.W.Frag) (fd : FuncData) (ps : List Str) : Prop := ∀ (s : Shared) (ws : List Value), K.In s.heap → ws.length = ps.length → BindsTo s fd ⟨[], ps.zip ws⟩ (ps.zip ws)
theorem KAll.of {K : PySem.W.Frag} {fd : FuncData} {ps : List Str} (h : ∀ ws : List Value, ws.length = ps.length → bindArgs fd ⟨[], ps.zip ws⟩ = pure (ps.zip ws)) : KAll K fd ps := fun s ws _ hl => .of_eq (h ws hl)
theorem Fun.kall {K : PySem.W.Frag} {x qual : Str} {st : Stmt} {f : Addr} {fd : FuncData} {ps : List Str} (F : Fun K x qual st f fd)
    (h : ∀ (kV doc pm : Value) (an : Option Addr) (cdv ct : Value) (us : List Value), us.length = ps.length → bindArgs (PySem.W.fnOf x qual (defArgs st) (defBody st) (defScope st) .none kV doc pm an cdv ct) ⟨[], ps.zip us⟩ = pure (ps.zip us)) : KAll K fd ps := by
  obtain ⟨oc, od, kV, doc, pm, an, cdv, ct, osl, rfl, lk, hcd⟩ := F.ex
  exact .of (h kV doc pm an cdv ct)
theorem pe_fK (c : Cal X.prog X.w X.K X.mg X.base CX k x ps sp) (hb : KAll X.K c.fd ps) (hr : Room j X.A) (hx : Passes CX X E) (hkw : PK X kws tk) (hg : Gl X x := by rfl) (hkj : k ≤ j := by decide) (hall : (backToKw pos (keywordEach kws X.env)).all (·.1.isSome) = true := by rfl)
    (hks : (backToKw pos (keywordEach kws X.env)).filterMap (·.1) = ps := by rfl) (hdb : (x == ("__debug__" : Str)) = false := by decide)
    (hpl : ((backTo pos (starEach [] X.env)).any (·.1) || (backToKw pos (keywordEach kws X.env)).any (·.1.isNone)) = false := by rfl) : PE X (.Call (.Name x p) [] kws pos) (tCall sp [] E tk) := by
  refine ⟨fun pins s σ H Q I h => ?_⟩
  refine wpAny_Call_Name_kw (ld_glob I hg c.g ?_ hdb)
  refine PySem.W.callWith_KW0 (h₀ := X.base) I.ok.mod.kin c.kp hall ?_ hpl
  refine thn (hkw.run pos pins s σ H _ I h) fun ws s2 ⟨zs, H2, I2, rz, q2⟩ => ⟨I2.kIn, ?_⟩
  rw [hks]
  have q2 : sp (zs ++ []) H2 Q E := q2
  rw [List.append_nil] at q2
  have hl : ws.length = ps.length := by rw [← rz.length]; exact c.ok.len _ _ _ _ q2
  refine wpAny_call (codeAny_mono (c.ok.run X.A X.stack s2 H2 ⟨[], ps.zip ws⟩ ws zs Q E (hr.mono hkj) I2.env0 (hb s2 ws I2.kIn hl) rz q2) fun r s' hq => ?_)
  cases r with
  | error e => exact hx pins σ H2 s2 e s' I2 hq
  | ok fl =>
    cases fl with
    | ret u => exact I2.after hq
    | next => exact False.elim hq
    | brk => exact False.elim hq
    | cont => exact False.elim hq
end
end Sat

set_option Elab.async false
set_option linter.all false
set_option maxRecDepth 100000
set_option maxHeartbeats 1000000
/-! SatV: lists that are read, owned or frozen; the draws' store -/
namespace Sat
open PySem PySem.Spec PyProof.Rows L2
open Evl (Ex)
/-- a list among the atoms, frozen or owned -/
def Vw (As : List A) (a : Addr) (ds : List D) : Prop := (∃ i : Nat, As[i]? = some (A.rp (.ref a) (.lst ds))) ∨ ∃ i : Nat, As[i]? = some (ol a ds)
section
variable {As Fr : List A} {a p : Addr} {ds : List D}
theorem Vw.r (i : Nat) (e : As[i]? = some (.rp (.ref a) (.lst ds)) := by rfl) : Vw As a ds := Or.inl ⟨i, e⟩
theorem Vw.o (i : Nat) (e : As[i]? = some (ol a ds) := by rfl) : Vw As a ds := Or.inr ⟨i, e⟩
theorem Vw.up {x : A} (h : Vw As a ds) : Vw (x :: As) a ds := by
  rcases h with ⟨i, e⟩ | ⟨i, e⟩
  · exact Or.inl ⟨i + 1, e⟩
  · exact Or.inr ⟨i + 1, e⟩
theorem Vw.up2 {x y : A} (h : Vw As a ds) : Vw (x :: y :: As) a ds := h.up.up
theorem Vw.up3 {x y z : A} (h : Vw As a ds) : Vw (x :: y :: z :: As) a ds := h.up.up.up
theorem Vw.up4 {x y z u : A} (h : Vw As a ds) : Vw (x :: y :: z :: u :: As) a ds := h.up.up.up.up
theorem sat.vw {H : Hp} (s : sat As H) (v : Vw As a ds) : ∃ xs, H a = some (.lst xs) ∧ xs.length = ds.length ∧ EntA As H xs ds := by
  rcases v with ⟨i, e⟩ | ⟨i, e⟩
  · exact s.rlv (.at i e)
  · exact s.olv i e
theorem sat.vwI {H : Hp} {ns : List Int} (s : sat As H) (v : Vw As a (ns.map dI)) : H a = some (.lst (ns.map V.int)) := by
  obtain ⟨xs, h1, _, h3⟩ := s.vw v
  obtain ⟨F, q⟩ := s
  rw [(h3 F q).ints] at h1
  exact h1
section
variable {K : PySem.W.Frag} {H : Hp} {σ : L2.St} {ta tb te tl : TE} {x v : V} {i : Int} {d : D} {Q : VK} {nx bk ct : L2.St → Hp → Prop} {rt : VK} {P : Prop}
theorem r_ixV (s : sat As H) (w : Vw As p ds) (h : atI ds i = some (.v v)) : R1 (rIxL K) (.ref p) (.int i) H v := fun Q q => by
  obtain ⟨xs, h1, h2, h3⟩ := s.vw w
  obtain ⟨j, x, e1, e2, e3⟩ := atI_len h2 h
  have z := s.flat (h3.get e1 e2)
  subst z
  exact ⟨p, xs, i, _, rfl, rfl, .inl (.inl h1), e3, q⟩
theorem x_ixV (s : sat As H) (w : Vw As p ds) (h : atI ds i = some d) (k : ∀ x, sat (.rp x d :: As) H → Q x H) : rIxL K (.ref p) (.int i) H Q := by
  obtain ⟨xs, h1, h2, h3⟩ := s.vw w
  obtain ⟨j, x, e1, e2, e3⟩ := atI_len h2 h
  exact ⟨p, xs, i, _, rfl, rfl, .inl (.inl h1), e3, k x (s.rp (h3.get e1 e2))⟩
theorem c_lenV (s : sat As H) (w : Vw As p ds) : C1 (rLn K) [.ref p] H (.int (ds.length : Int)) := fun Q q => by
  obtain ⟨xs, h1, h2, h3⟩ := s.vw w
  exact ⟨p, xs, rfl, .inl (.inl (.inl h1)), by rw [h2]; exact q⟩
theorem c_sumV (s : sat As H) {ns : List Int} (w : Vw As p (ns.map dI)) : C1 (rSum K) [.ref p] H (.int ns.sum) := fun Q q => ⟨p, ns, rfl, .inl (.inl (s.vwI w)), q⟩
theorem t_truV (s : sat As H) (w : Vw As p ds) (h : E1 ta σ H (.ref p)) : T1 (tTru K ta) σ H (ds ≠ []) := fun Q q1 q2 => by
  obtain ⟨xs, e1, e2, _⟩ := s.vw w
  refine h _ ⟨!xs.isEmpty, .inl ⟨xs, .inl (.inl e1), rfl⟩, ?_⟩
  cases xs with
  | nil =>
    have : ds = [] := List.length_eq_zero_iff.mp e2.symm
    exact q2 fun n => n this
  | cons _ _ => exact q1 fun n => by rw [n] at e2; cases e2
theorem x_listV (s : sat As H) (w : Vw As p ds) (k : ∀ p H1, sat (ol p ds :: As) H1 → Q (.ref p) H1) : rLO K [.ref p] H Q := by
  obtain ⟨xs, h1, h2, h3⟩ := s.vw w
  exact ⟨p, xs, rfl, .inl (.inl (.inl h1)), fun l hl => k l _ (s.newL hl h3)⟩
theorem x_extV (s : sat As H) {b : Addr} {es : List Sat.D} (m : Nat) (e : As[m]? = some (ol p ds)) (w : Vw As b es) (hz : ds.length + es.length ≤ sizeLine) (k : ∀ H1, sat (As.set m (ol p (ds ++ es))) H1 → Q .non H1) : rExtend (.ref p) [.ref b] H Q := by
  obtain ⟨xs, h1, h2, h3⟩ := s.olv m e
  obtain ⟨ys, k1, k2, k3⟩ := s.vw w
  exact ⟨p, b, xs, ys, rfl, rfl, h1, k1, by omega, k _ (s.updL m e (h3.append k3))⟩
theorem x_catV (s : sat As H) {b : Addr} {es : List Sat.D} (w : Vw As p ds) (w' : Vw As b es) (hz : ds.length + es.length ≤ sizeLine) (k : ∀ c H1, sat (ol c (ds ++ es) :: As) H1 → Q (.ref c) H1) : rCat (.ref p) (.ref b) H Q := by
  obtain ⟨xs, h1, h2, h3⟩ := s.vw w
  obtain ⟨ys, k1, k2, k3⟩ := s.vw w'
  exact ⟨p, b, xs, ys, rfl, rfl, h1, k1, by omega, fun c hc => k c _ (s.newL hc (h3.append k3))⟩
theorem flat_all : ∀ (ns : List Int), (ns.map V.int).all flatV = true
  | [] => rfl
  | n :: ns => by rw [List.map_cons, List.all_cons, flat_all ns]; rfl
theorem inV_int (n : Int) : ∀ ns : List Int, inV (.int n) (ns.map V.int) = decide (n ∈ ns)
  | [] => rfl
  | m :: ns => by
    have e : eqV (.int m) (.int n) = decide (m = n) := rfl
    unfold inV
    rw [List.map_cons, List.any_cons, e]
    have ih := inV_int n ns
    unfold inV at ih
    rw [ih]
    by_cases h : m = n
    · subst h; simp
    · have h' : n ≠ m := fun z => h z.symm
      simp [h, h']
theorem r_inV {n : Int} {ns : List Int} (s : sat As H) (w : Vw As p (ns.map dI)) : R1 (rIn K false) (.int n) (.ref p) H (.bl (decide (n ∈ ns))) := fun Q q => ⟨p, ns.map V.int, rfl, .inl (.inl (.inl (s.vwI w))), rfl, flat_all ns, by
  show Q (.bl (inV (.int n) (ns.map V.int))) H
  rw [inV_int]; exact q⟩
theorem r_ninV {n : Int} {ns : List Int} (s : sat As H) (w : Vw As p (ns.map dI)) : R1 (rIn K true) (.int n) (.ref p) H (.bl (!decide (n ∈ ns))) := fun Q q => ⟨p, ns.map V.int, rfl, .inl (.inl (.inl (s.vwI w))), rfl, flat_all ns, by
  show Q (.bl (!inV (.int n) (ns.map V.int))) H
  rw [inV_int]; exact q⟩
theorem x_forV {g : TG} {tb : TS} (s : sat As H) (w : Vw As p ds) (e : E1 tl σ H (.ref p)) (Pv : Nat → L2.St → Hp → Prop) (h0 : Pv 0 σ H) (hl : ∀ i σ H, i ≤ ds.length → Pv i σ H → ∃ As, sat As H ∧ Vw As p ds)
    (hs : ∀ i d x σ H, ds[i]? = some d → Pv i σ H → (∀ {As}, sat As H → Vw As p ds → Ent As H x d) → g x σ H fun σ2 H2 => tb ⟨Pv (i + 1), rt, nx, Pv (i + 1)⟩ σ2 H2) (hd : ∀ σ H, Pv ds.length σ H → nx σ H) : tFor (iList K tl) g tb ⟨nx, rt, bk, ct⟩ σ H := e _ ⟨p, rfl, by
  obtain ⟨xs, h1, _⟩ := s.vw w
  refine ⟨⟨xs, .inl (.inl h1)⟩, fun i m σ H => m = ds.length - i ∧ i ≤ ds.length ∧ Pv i σ H, ⟨ds.length, by simp, Nat.zero_le _, h0⟩, ?_⟩
  rintro i m σ H ⟨rfl, hi, q⟩
  obtain ⟨As, s, w⟩ := hl i σ H hi q
  obtain ⟨xs, h1, h2, h3⟩ := s.vw w
  by_cases hlt : i < ds.length
  · have hx : i < xs.length := by omega
    refine .inr ⟨⟨xs, xs[i], .inl (.inl h1), List.getElem?_eq_getElem hx⟩, Pv (i + 1), fun σ' H' p' => ⟨ds.length - (i + 1), by omega, rfl, hlt, p'⟩, fun x H' y => ?_⟩
    obtain ⟨e, y⟩ := y
    subst e
    have ex := y xs (.inl (.inl h1))
    exact hs i ds[i] x σ _ (List.getElem?_eq_getElem hlt) q fun {As} s' w' => by
      obtain ⟨ys, k1, k2, k3⟩ := s'.vw w'
      rw [h1] at k1
      cases k1
      exact k3.get ex (List.getElem?_eq_getElem hlt)
  · have e : i = ds.length := by omega
    subst e
    exact .inl ⟨⟨xs, .inl (.inl h1), by omega⟩, hd σ H q⟩⟩
theorem x_lcV {g : TG} {tt : TT} {vs : List Nat} (s : sat As H) (w : Vw As p ds) (e : E1 tl σ H (.ref p)) (Pv : Addr → Nat → Hp → Prop) (h0 : ∀ Dl H1, sat (ol Dl [] :: As) H1 → Pv Dl 0 H1)
    (hl : ∀ Dl i H, i ≤ ds.length → Pv Dl i H → ∃ As, sat As H ∧ Vw As p ds)
    (hs : ∀ Dl i d x H, ds[i]? = some d → Pv Dl i H → (∀ {As}, sat As H → Vw As p ds → Ent As H x d) → LcTurn g tt te vs σ Dl x H (Pv Dl (i + 1))) (hd : ∀ Dl H, Pv Dl ds.length H → Q (.ref Dl) H) : tLc (iList K tl) g tt te vs σ H Q := e _ ⟨p, rfl, by
  obtain ⟨xs, h1, _⟩ := s.vw w
  refine ⟨⟨xs, .inl (.inl h1)⟩, fun Dl hD => ⟨fun i m H => m = ds.length - i ∧ i ≤ ds.length ∧ Pv Dl i H, ⟨ds.length, by simp, Nat.zero_le _, h0 Dl _ (s.newL hD .nil)⟩, ?_⟩⟩
  rintro i m H ⟨rfl, hi, q⟩
  obtain ⟨As, s, w⟩ := hl Dl i H hi q
  obtain ⟨xs, h1, h2, h3⟩ := s.vw w
  by_cases hlt : i < ds.length
  · have hx : i < xs.length := by omega
    refine .inr ⟨⟨xs, xs[i], .inl (.inl h1), List.getElem?_eq_getElem hx⟩, Pv Dl (i + 1), fun H' p' => ⟨ds.length - (i + 1), by omega, rfl, hlt, p'⟩, fun x H' y => ?_⟩
    obtain ⟨e, y⟩ := y
    subst e
    have ex := y xs (.inl (.inl h1))
    exact hs Dl i ds[i] x _ (List.getElem?_eq_getElem hlt) q fun {As} s' w' => by
      obtain ⟨ys, k1, k2, k3⟩ := s'.vw w'
      rw [h1] at k1
      cases k1
      exact k3.get ex (List.getElem?_eq_getElem hlt)
  · have e : i = ds.length := by omega
    subst e
    exact .inl ⟨⟨xs, .inl (.inl h1), by omega⟩, hd Dl H q⟩⟩
theorem r_div {i j : Int} (h0 : 0 < j) (h1 : j < 1073741824) : R1 (rI CDiv fun i j => .int (i / j)) (.int i) (.int j) H (.int (i / j)) := r_I ⟨h0, h1⟩
theorem r_divW {i j : Int} (h0 : 0 < j) (h1 : j < 2 ^ 250) : R1 (rI CDivW fun i j => .int (i / j)) (.int i) (.int j) H (.int (i / j)) := r_I (wide_div h0 (b := 250) (by omega) (by decide) (by decide))
theorem r_mod {i j : Int} (h0 : 0 < j) : R1 (rI (fun _ j => 0 < j) fun i j => .int (i % j)) (.int i) (.int j) H (.int (i % j)) := r_I h0
theorem r_mulL {i j : Int} (h : -(2 ^ 64) < i ∧ i < 2 ^ 64) : R1 (rI CMul fun i j => .int (i * j)) (.int i) (.int j) H (.int (i * j)) := r_I (.inl h)
theorem r_mulR {i j : Int} (h : -(2 ^ 64) < j ∧ j < 2 ^ 64) : R1 (rI CMul fun i j => .int (i * j)) (.int i) (.int j) H (.int (i * j)) := r_I (.inr h)
theorem r_pow {i j : Int} (h : 0 ≤ j ∧ j ≤ 1000000 ∧ i.natAbs < 2 ^ 64) : R1 (rI CPow fun i j => .int (i ^ j.toNat)) (.int i) (.int j) H (.int (i ^ j.toNat)) := r_I h
theorem r_shl {i j : Int} (h : 0 ≤ j ∧ j ≤ 1000000 ∧ i.natAbs < 2 ^ 64) : R1 (rI CPow fun i j => .int (i * 2 ^ j.toNat)) (.int i) (.int j) H (.int (i * 2 ^ j.toNat)) := r_I h
theorem r_shr {i j : Int} (h : 0 ≤ j) : R1 (rI (fun _ j => 0 ≤ j) fun i j => .int (i / 2 ^ j.toNat)) (.int i) (.int j) H (.int (i / 2 ^ j.toNat)) := r_I h
theorem atI_at {α : Type} {xs : List α} {z : Int} (j : Nat) {v : α} (e : z = (j : Int)) (h : xs[j]? = some v) : atI xs z = some v := by
  rw [e]
  exact atI_nat h
theorem atI_ints {ns : List Int} {z : Int} {n : Int} (h0 : 0 ≤ z) (h : ns[z.toNat]? = some n) : atI (ns.map dI) z = some (.v (.int n)) := atI_at z.toNat (by omega) (by rw [List.getElem?_map, h]; rfl)
theorem getI {ns : List Int} {i : Nat} {d : Sat.D} (h : (ns.map dI)[i]? = some d) : ∃ n, ns[i]? = some n ∧ d = dI n := by
  rw [List.getElem?_map] at h
  cases e : ns[i]? with
  | none => rw [e] at h; cases h
  | some n => rw [e] at h; cases h; exact ⟨n, rfl, rfl⟩
theorem takeS {α : Type} {xs : List α} {i : Nat} {x : α} (h : xs[i]? = some x) : xs.take (i + 1) = xs.take i ++ [x] := by rw [List.take_add_one, h]; rfl
theorem perm_ins {es : List Sat.D} {d : Sat.D} {k : Nat} {fs : List Sat.D} (h : es.Perm fs) : (es.take k ++ [d] ++ es.drop k).Perm (fs ++ [d]) := by
  rw [List.append_assoc]
  refine (List.perm_middle (l₁ := es.take k) (l₂ := es.drop k)).trans ?_
  rw [List.take_append_drop]
  exact ((List.Perm.cons d h)).trans (List.perm_append_singleton d fs).symm
theorem perm_ints {es : List Sat.D} {ns : List Int} (h : es.Perm (ns.map dI)) : ∃ ms : List Int, es = ms.map dI ∧ ms.Perm ns := by
  let g : Sat.D → Int := fun d => match d with | .v (.int i) => i | _ => 0
  have e : (ns.map dI).map g = ns := by rw [List.map_map]; exact List.map_id'' (fun _ => rfl) ns
  have hp := h.map g
  rw [e] at hp
  refine ⟨es.map g, ?_, hp⟩
  have hm : ∀ d ∈ es, (dI ∘ g) d = d := fun d hd => by
    obtain ⟨n, _, rfl⟩ := List.mem_map.mp (h.mem_iff.mp hd)
    rfl
  rw [List.map_map]
  exact (List.map_congr_left hm).trans (List.map_id'' (fun _ => rfl) es) |>.symm
theorem sub_ints {es : List Sat.D} {ns : List Int} (h : es.Sublist (ns.map dI)) : ∃ ms : List Int, es = ms.map dI ∧ ms.Sublist ns := by
  obtain ⟨ms, h1, h2⟩ := List.sublist_map_iff.mp h
  exact ⟨ms, h2, h1⟩
def insI (ms : List Int) (k : Nat) (n : Int) : List Int := ms.take k ++ [n] ++ ms.drop k
theorem ins_ints (ms : List Int) (k : Nat) (n : Int) : (ms.map dI).take k ++ [dI n] ++ (ms.map dI).drop k = (insI ms k n).map dI := by
  unfold insI
  rw [List.map_append, List.map_append, List.map_take, List.map_drop]
  rfl
theorem ins_mem {ms ns : List Int} {k : Nat} {n : Int} (h : ∀ m ∈ ms, m ∈ ns) (hn : n ∈ ns) : ∀ m ∈ insI ms k n, m ∈ ns := fun m hm => by
  unfold insI at hm
  rcases List.mem_append.mp hm with q | q
  · rcases List.mem_append.mp q with q | q
    · exact h m (List.mem_of_mem_take q)
    · rw [List.mem_singleton.mp q]; exact hn
  · exact h m (List.mem_of_mem_drop q)
theorem ins_len {ms : List Int} {k : Nat} {n : Int} : (insI ms k n).length = ms.length + 1 := by
  unfold insI
  rw [List.length_append, List.length_append, List.length_take, List.length_drop, List.length_singleton]
  omega
theorem emod_lo {a b : Int} (h : 0 < b) : 0 ≤ a % b := Int.emod_nonneg _ (by omega)
def rangeI (a b : Int) : List Int := (List.range (b - a).toNat).map fun (i : Nat) => a + (i : Int)
theorem rgV_I (a b : Int) : rgV a b = (rangeI a b).map V.int := by unfold rgV rangeI; rw [List.map_map]; rfl
theorem rangeI_len (a b : Int) : (rangeI a b).length = (b - a).toNat := by unfold rangeI; rw [List.length_map, List.length_range]
theorem mem_rangeI {a b x : Int} : x ∈ rangeI a b ↔ a ≤ x ∧ x < b := by
  unfold rangeI
  rw [List.mem_map]
  constructor
  · rintro ⟨i, hi, rfl⟩
    rw [List.mem_range] at hi
    omega
  · rintro ⟨h0, h1⟩
    exact ⟨(x - a).toNat, by rw [List.mem_range]; omega, by omega⟩
theorem g_listR1 {n : Int} (s : sat As H) (e : E1 ta σ H (.int n)) (hn : 0 ≤ n ∧ n ≤ 100000) (k : ∀ p H1, sat (ol p ((rangeI 0 n).map dI) :: As) H1 → Q (.ref p) H1) : tLstRg (tRg1 ta) σ H Q := e _ ⟨n, rfl, ⟨by omega, by omega, by omega, by omega, by omega⟩, fun p hp => k p _ (by rw [rgV_I]; exact s.newL hp (EntA.ofI _))⟩
theorem g_listR2 {m n : Int} (s : sat As H) (e : E1 ta σ H (.int m)) (e' : E1 tb σ H (.int n)) (hn : -100000 ≤ m ∧ m ≤ 100000 ∧ -100000 ≤ n ∧ n ≤ 100000) (k : ∀ p H1, sat (ol p ((rangeI m n).map dI) :: As) H1 → Q (.ref p) H1) : tLstRg (tRg2 ta tb) σ H Q := e _ (e' _ ⟨m, n, rfl, rfl, ⟨by omega, by omega, by omega, by omega, by omega⟩, fun p hp => k p _ (by rw [rgV_I]; exact s.newL hp (EntA.ofI _))⟩)
/-! the walked thing is impure: first it is evaluated -/
def forLx (K : PySem.W.Frag) (g : TG) (tb : TS) (nx : L2.St → Hp → Prop) (rt : VK) (bk ct : L2.St → Hp → Prop) (σ : L2.St) (x : V) (H : Hp) : Prop := tFor (iList K (tC x)) g tb ⟨nx, rt, bk, ct⟩ σ H
def forRx (g : TG) (tb : TS) (nx : L2.St → Hp → Prop) (rt : VK) (bk ct : L2.St → Hp → Prop) (σ : L2.St) (vs : List V) (H : Hp) : Prop := tFor (iRng1 fun _ H Q => Q vs H) g tb ⟨nx, rt, bk, ct⟩ σ H
def forRRx (g : TG) (tb : TS) (nx : L2.St → Hp → Prop) (rt : VK) (bk ct : L2.St → Hp → Prop) (σ : L2.St) (vs : List V) (H : Hp) : Prop := tFor (iRng2 fun _ H Q => Q vs H) g tb ⟨nx, rt, bk, ct⟩ σ H
theorem g_forL {g : TG} {tb : TS} (k : tl σ H fun x H1 => forLx K g tb nx rt bk ct σ x H1) : tFor (iList K tl) g tb ⟨nx, rt, bk, ct⟩ σ H := k
theorem g_forR1 {g : TG} {tb : TS} {ta : TA} (k : ta σ H fun vs H1 => forRx g tb nx rt bk ct σ vs H1) : tFor (iRng1 ta) g tb ⟨nx, rt, bk, ct⟩ σ H := k
theorem g_forR2 {g : TG} {tb : TS} {ta : TA} (k : ta σ H fun vs H1 => forRRx g tb nx rt bk ct σ vs H1) : tFor (iRng2 ta) g tb ⟨nx, rt, bk, ct⟩ σ H := k
theorem y_forV {g : TG} {tb : TS} (s : sat As H) (w : Vw As p ds) (Pv : Nat → L2.St → Hp → Prop) (h0 : Pv 0 σ H) (hl : ∀ i σ H, i ≤ ds.length → Pv i σ H → ∃ As, sat As H ∧ Vw As p ds)
    (hs : ∀ i d x σ H, ds[i]? = some d → Pv i σ H → (∀ {As}, sat As H → Vw As p ds → Ent As H x d) → g x σ H fun σ2 H2 => tb ⟨Pv (i + 1), rt, nx, Pv (i + 1)⟩ σ2 H2) (hd : ∀ σ H, Pv ds.length σ H → nx σ H) : forLx K g tb nx rt bk ct σ (.ref p) H := x_forV s w e_c Pv h0 hl hs hd
theorem y_forR1 {g : TG} {tb : TS} {n : Int} (hn : -(2 ^ 62) ≤ n ∧ n < 2 ^ 62) (Pv : Nat → L2.St → Hp → Prop) (h0 : Pv 0 σ H)
    (hs : ∀ (i : Nat) σ H, (i : Int) < n → Pv i σ H → g (.int (i : Int)) σ H fun σ2 H2 => tb ⟨Pv (i + 1), rt, nx, Pv (i + 1)⟩ σ2 H2) (hd : ∀ σ H, Pv n.toNat σ H → nx σ H) : forRx g tb nx rt bk ct σ [.int n] H := x_forR1 (fun _ q => q) hn Pv h0 hs hd
theorem y_forR2 {g : TG} {tb : TS} {lo n : Int} (hn : -(2 ^ 62) ≤ lo ∧ lo < 2 ^ 62 ∧ -(2 ^ 62) ≤ n ∧ n < 2 ^ 62) (Pv : Nat → L2.St → Hp → Prop) (h0 : Pv 0 σ H)
    (hs : ∀ (i : Nat) σ H, lo + (i : Int) < n → Pv i σ H → g (.int (lo + (i : Int))) σ H fun σ2 H2 => tb ⟨Pv (i + 1), rt, nx, Pv (i + 1)⟩ σ2 H2) (hd : ∀ σ H, Pv (n - lo).toNat σ H → nx σ H) : forRRx g tb nx rt bk ct σ [.int lo, .int n] H := x_forR2 (fun _ q => q) hn Pv h0 hs hd
def lcLx (K : PySem.W.Frag) (g : TG) (tt : TT) (te : TE) (vs : List Nat) (σ : L2.St) (Q : VK) (x : V) (H : Hp) : Prop := tLc (iList K (tC x)) g tt te vs σ H Q
def lcRx (g : TG) (tt : TT) (te : TE) (vs : List Nat) (σ : L2.St) (Q : VK) (ws : List V) (H : Hp) : Prop := tLc (iRng1 fun _ H Q => Q ws H) g tt te vs σ H Q
theorem g_lcL {g : TG} {tt : TT} {vs : List Nat} (k : tl σ H fun x H1 => lcLx K g tt te vs σ Q x H1) : tLc (iList K tl) g tt te vs σ H Q := k
theorem g_lcR1 {g : TG} {tt : TT} {vs : List Nat} {ta : TA} (k : ta σ H fun ws H1 => lcRx g tt te vs σ Q ws H1) : tLc (iRng1 ta) g tt te vs σ H Q := k
theorem y_lcV {g : TG} {tt : TT} {vs : List Nat} (s : sat As H) (w : Vw As p ds) (Pv : Addr → Nat → Hp → Prop) (h0 : ∀ Dl H1, sat (ol Dl [] :: As) H1 → Pv Dl 0 H1)
    (hl : ∀ Dl i H, i ≤ ds.length → Pv Dl i H → ∃ As, sat As H ∧ Vw As p ds)
    (hs : ∀ Dl i d x H, ds[i]? = some d → Pv Dl i H → (∀ {As}, sat As H → Vw As p ds → Ent As H x d) → LcTurn g tt te vs σ Dl x H (Pv Dl (i + 1))) (hd : ∀ Dl H, Pv Dl ds.length H → Q (.ref Dl) H) : lcLx K g tt te vs σ Q (.ref p) H := x_lcV s w e_c Pv h0 hl hs hd
theorem y_lcR1 {g : TG} {tt : TT} {vs : List Nat} {n : Int} (s : sat As H) (hn : -(2 ^ 62) ≤ n ∧ n < 2 ^ 62) (Pv : Addr → Nat → Hp → Prop) (h0 : ∀ Dl H1, sat (ol Dl [] :: As) H1 → Pv Dl 0 H1)
    (hs : ∀ Dl (i : Nat) H, (i : Int) < n → Pv Dl i H → LcTurn g tt te vs σ Dl (.int (i : Int)) H (Pv Dl (i + 1))) (hd : ∀ Dl H, Pv Dl n.toNat H → Q (.ref Dl) H) : lcRx g tt te vs σ Q [.int n] H := x_lcR1 s (fun _ q => q) hn Pv h0 hs hd
/-! turns of comprehensions -/
theorem l_name {j : Nat} {tt : TT} {vs : List Nat} {Dl : Addr} {N : Hp → Prop} (hw : wipe ((wipe σ vs).set j (some x)) vs = wipe σ vs)
    (k : tt ((wipe σ vs).set j (some x)) H fun b H3 => if b = true then te ((wipe σ vs).set j (some x)) H3 fun y H4 => ∃ acc, H4 Dl = some (.lst acc) ∧ acc.length < sizeLine ∧ N (upd H4 Dl (.lst (acc ++ [y]))) else N H3) : LcTurn (gName j) tt te vs σ Dl x H N := ⟨hw, k⟩
theorem l_if {t : TT} {R R' : Hp → Prop} (e : T1 t σ H P) (k1 : P → R H) (k2 : ¬ P → R' H) : t σ H fun b H3 => if b = true then R H3 else R' H3 := e _ (fun p => by rw [if_pos rfl]; exact k1 p) fun n => by rw [if_neg Bool.false_ne_true]; exact k2 n
theorem l_yes {R R' : Hp → Prop} (k : R H) : tYes σ H fun b H3 => if b = true then R H3 else R' H3 := by
  show if true = true then R H else R' H
  rw [if_pos rfl]; exact k
end
section
variable {K : PySem.W.Frag} {H : Hp} {σ : L2.St} {ta tb te to ti : TE} {x o i v : V} {nx bk ct : L2.St → Hp → Prop} {rt : VK} {s1 s2 : TS} {t : TSet} {Q : L2.St → Hp → Prop}
theorem g_sub (e1 : E1 to σ H o) (e2 : E1 ti σ H i) (k : t o i v H fun H3 => Q σ H3) : gSub to ti t v σ H Q := e1 _ (e2 _ k)
theorem g_cut (Mid : L2.St → Hp → Prop) (h1 : s1 ⟨Mid, rt, bk, ct⟩ σ H) (h2 : ∀ σ' H', Mid σ' H' → s2 ⟨nx, rt, bk, ct⟩ σ' H') : C8.tCut s1 s2 ⟨nx, rt, bk, ct⟩ σ H := ⟨Mid, h1, h2⟩
theorem g_name {j : Nat} (k : Q (σ.set j (some v)) H) : gName j v σ H Q := k
theorem g_bm {T : String} {r : V → List V → Hp → VK → Prop} {tr : TA} {vs : List V} {R : VK} (e1 : E1 to σ H o) (ty : tyV K T o H) (e2 : A1 tr σ H vs) (k : r o vs H R) : tBM K T r to tr σ H R := e1 _ ⟨ty, e2 _ k⟩
theorem g_bm0 {T : String} {r : V → List V → Hp → VK → Prop} {R : VK} (e1 : E1 to σ H o) (ty : tyV K T o H) (k : r o [] H R) : tBM0 K T r to σ H R := e1 _ ⟨ty, k⟩
/-- the object's type first, then impure arguments -/
theorem g_bmI {T : String} {r : V → List V → Hp → VK → Prop} {tr : TA} {R : VK} (e1 : E1 to σ H o) (ty : tyV K T o H) (k : tr σ H fun vs H2 => r o vs H2 R) : tBM K T r to tr σ H R := e1 _ ⟨ty, k⟩
end
section
variable {σ : L2.St} {H : Hp} {ta : TA} {t u : TT} {Q : VK} {R : Bool → Hp → Prop} {b : Bool}
theorem g_lst0 (k : ta σ H fun vs H1 => vs.length ≤ sizeLine ∧ ∀ p, H1 p = none → Q (.ref p) (upd H1 p (.lst vs))) : tLst ta σ H Q := k
theorem g_tup0 (k : ta σ H fun vs H1 => vs.length ≤ sizeLine ∧ ∀ p, H1 p = none → Q (.ref p) (upd H1 p (.tup vs))) : tTup ta σ H Q := k
theorem x_lst0 {As : List A} {vs : List V} {ds : List Sat.D} {G : Addr → Prop} (s : sat As H) (n : EntA As H vs ds) (hz : vs.length ≤ sizeLine) (k : ∀ p, sat (ol p ds :: As) (upd H p (.lst vs)) → G p) : vs.length ≤ sizeLine ∧ ∀ p, H p = none → G p := ⟨hz, fun p hp => k p (s.newL hp n)⟩
theorem g_andV {ta tb : TE} (k : ta σ H fun x H1 => ∃ c, x = .bl c ∧ if c = true then tb σ H1 Q else Q (.bl false) H1) : tAndV ta tb σ H Q := k
theorem g_orV {ta tb : TE} (k : ta σ H fun x H1 => ∃ c, x = .bl c ∧ if c = true then Q (.bl true) H1 else tb σ H1 Q) : tOrV ta tb σ H Q := k
theorem x_lstP {As : List A} {vs : List V} {G : Addr → Prop} (s : sat As H) (hz : vs.length ≤ sizeLine) (k : ∀ p, sat (pt p (.lst vs) :: As) (upd H p (.lst vs)) → G p) : vs.length ≤ sizeLine ∧ ∀ p, H p = none → G p := ⟨hz, fun p hp => k p (s.newP hp)⟩
theorem x_tup0 {As : List A} {vs : List V} {ds : List Sat.D} {G : Addr → Prop} (s : sat As H) (n : EntA As H vs ds) (hz : vs.length ≤ sizeLine) (k : ∀ p, sat (.rp (.ref p) (.tup ds) :: As) (upd H p (.tup vs)) → G p) : vs.length ≤ sizeLine ∧ ∀ p, H p = none → G p := ⟨hz, fun p hp => k p (s.newT hp n)⟩
theorem g_and (k : t σ H fun c H1 => if c = true then u σ H1 R else R false H1) : tAnd t u σ H R := k
theorem g_or (k : t σ H fun c H1 => if c = true then R true H1 else u σ H1 R) : tOr t u σ H R := k
theorem g_not (k : t σ H fun c H1 => R (!c) H1) : tNot t σ H R := k
theorem g_dec {p : Prop} [Decidable p] {G : Bool → Prop} (h1 : p → G true) (h2 : ¬ p → G false) : ∃ c, V.bl (decide p) = .bl c ∧ G c := ⟨_, rfl, by
  by_cases h : p
  · rw [decide_eq_true h]; exact h1 h
  · rw [decide_eq_false h]; exact h2 h⟩
theorem g_ndec {p : Prop} [Decidable p] {G : Bool → Prop} (h1 : ¬ p → G true) (h2 : p → G false) : ∃ c, V.bl (!decide p) = .bl c ∧ G c := ⟨_, rfl, by
  by_cases h : p
  · rw [decide_eq_true h]; exact h2 h
  · rw [decide_eq_false h]; exact h1 h⟩
theorem g_bool {G : Bool → Prop} (h1 : b = true → G true) (h2 : b = false → G false) : ∃ c, V.bl b = .bl c ∧ G c := ⟨b, rfl, by
  cases b with
  | true => exact h1 rfl
  | false => exact h2 rfl⟩
theorem sz (n : Nat) (h : n ≤ 1000) : n ≤ sizeLine := Nat.le_of_lt (small1000 h)
end
/-! all frozen, for a call that gives nothing but a flat thing back -/
theorem sat.all {H : Hp} {xs : List V} {ds : List D} (h : RpA H xs ds) : sat ((xs.zip ds).map (fun p => A.rp p.1 p.2) ++ [.fr H]) H := by
  refine ⟨H, Ex.refl H, fun y hy => ?_, fun i j x y a e1 _ a1 _ => ?_⟩
  · rcases List.mem_append.mp hy with q | q
    · obtain ⟨⟨x, d⟩, hm, rfl⟩ := List.mem_map.mp q
      obtain ⟨i, e⟩ := List.getElem?_of_mem hm
      rw [List.getElem?_zip_eq_some] at e
      obtain ⟨z, e2, r⟩ := h.get e.2
      rw [e.1] at e2
      cases e2
      exact r
    · rw [List.mem_singleton.mp q]
      exact Ex.refl H
  · have q := List.mem_of_getElem? e1
    rcases List.mem_append.mp q with q | q
    · obtain ⟨⟨x, d⟩, hm, rfl⟩ := List.mem_map.mp q
      cases a1
    · rw [List.mem_singleton.mp q] at a1
      cases a1
theorem sat.back {H H' : Hp} {Bs : List A} (h : sat As H) (k : sat Bs H') (i : Nat) (e : Bs[i]? = some (.fr H) := by rfl) : sat As H' := by
  obtain ⟨F, q⟩ := k
  exact h.grow (Ex.trans (q.ok _ (List.mem_of_getElem? e)) q.ex)
/-! an owned thing seen another way -/
theorem sat.see {H : Hp} (h : sat As H) (i : Nat) {φ : Hp → HO → Prop} {m} (e : As[i]? = some (.own a φ m) := by rfl) : ∃ o F, H a = some o ∧ φ F o ∧ satF As H F := by
  obtain ⟨F, h⟩ := h
  obtain ⟨_, o, h1, h2⟩ := h.ok _ (List.mem_of_getElem? e)
  exact ⟨o, F, h1, h2, h⟩
theorem satF.re {H F : Hp} (h : satF As H F) (i : Nat) {φ ψ : Hp → HO → Prop} {m m'} {o : HO} (e : As[i]? = some (.own a φ m)) (ho : H a = some o) (k : ψ F o) : satF (As.set i (.own a ψ m')) H F := by
  have hi : i < As.length := (List.getElem?_eq_some_iff.mp e).1
  have e2 : ∀ (j : Nat) (y : A), (As.set i (.own a ψ m'))[j]? = some y → (j = i ∧ y = .own a ψ m') ∨ (j ≠ i ∧ As[j]? = some y) := fun j y q => by
    by_cases hj : j = i
    · subst hj
      rw [List.getElem?_set_self hi] at q
      exact .inl ⟨rfl, (Option.some.inj q).symm⟩
    · rw [List.getElem?_set_ne (fun z => hj z.symm)] at q
      exact .inr ⟨hj, q⟩
  refine ⟨h.ex, fun y hy => ?_, fun j l y z b p1 p2 a1 a2 => ?_⟩
  · obtain ⟨j, q⟩ := List.getElem?_of_mem hy
    rcases e2 j y q with ⟨_, r⟩ | ⟨hj, r⟩
    · rw [r]
      exact ⟨(h.ok _ (List.mem_of_getElem? e)).1, o, ho, k⟩
    · exact h.ok y (List.mem_of_getElem? r)
  · have to : ∀ (j : Nat) (y : A), (As.set i (.own a ψ m'))[j]? = some y → y.ad = some b → ∃ y', As[j]? = some y' ∧ y'.ad = some b := fun j y q hb => by
      rcases e2 j y q with ⟨hj, r⟩ | ⟨_, r⟩
      · rw [r] at hb
        cases hb
        exact ⟨_, by rw [hj]; exact e, rfl⟩
      · exact ⟨y, r, hb⟩
    obtain ⟨y', r1, b1⟩ := to j y p1 a1
    obtain ⟨z', r2, b2⟩ := to l z p2 a2
    exact h.inj j l y' z' b r1 r2 b1 b2
theorem satF.sat {H F : Hp} (h : satF As H F) : sat As H := ⟨F, h⟩

/-- the store's cells stand among the atoms -/
def Cl (Fr : List A) (c : Addr) : Prop := ∃ ns : List Int, Vw Fr c (ns.map dI)
theorem Cl.up {x : A} {c : Addr} (h : Cl Fr c) : Cl (x :: Fr) c := by obtain ⟨ns, v⟩ := h; exact ⟨ns, v.up⟩
/-! ### the draws' store: its cells at c -/
def stoOk (c : Addr) (o : HO) : Prop := ∃ (a1 a2 a3 a4 a5 : Int), o = .lst [.ref c, .int a1, .int a2, .int a3, .int a4, .int a5] ∧ 0 ≤ a1
abbrev sto (s c : Addr) : A := .own s (fun _ o => stoOk c o) fun _ _ _ _ h => h
theorem sto_open {H : Hp} {s c : Addr} (h : sat (sto s c :: Fr) H) : ∃ a1 a2 a3 a4 a5 : Int, 0 ≤ a1 ∧ sat (pt s (.lst [.ref c, .int a1, .int a2, .int a3, .int a4, .int a5]) :: Fr) H := by
  obtain ⟨o, F, h1, ⟨a1, a2, a3, a4, a5, rfl, h0⟩, q⟩ := h.see 0
  exact ⟨a1, a2, a3, a4, a5, h0, (q.re 0 rfl h1 (ψ := fun _ u => u = .lst [.ref c, .int a1, .int a2, .int a3, .int a4, .int a5]) rfl).sat⟩
theorem sto_close {H : Hp} {s c : Addr} {a1 a2 a3 a4 a5 : Int} (h0 : 0 ≤ a1) (h : sat (pt s (.lst [.ref c, .int a1, .int a2, .int a3, .int a4, .int a5]) :: Fr) H) : sat (sto s c :: Fr) H := by
  obtain ⟨o, F, h1, rfl, q⟩ := h.see 0
  exact (q.re 0 rfl h1 (ψ := fun _ o => stoOk c o) ⟨a1, a2, a3, a4, a5, rfl, h0⟩).sat
end
end Sat

set_option linter.all false
set_option maxRecDepth 100000
set_option maxHeartbeats 4000000
set_option autoImplicit true
/-! an own exception class over an own base over ValueError: super().__init__(..), then fields -/
namespace SupX
open PySem PySem.Spec PyProof.Rows L2 NdefX

/-- what the written part says of the class at D and of its __init__ with the code at c and the class's cell cc -/
structure SupC (P : Program) (K : PySem.W.Frag) (mg : Str → Option Value) (D cc c : Addr) : Prop where
  ex : OexC K D
  cell : ∃ cl cld csl, K.lookup cc = some ⟨cl, cld, .cell (some (.ref D)), csl⟩
  sub : PySem.W.mroIn K D (.ref D) = some true
  file : ∃ ccl cdd vs ccs file tf, K.lookup c = some ⟨ccl, cdd, .fields vs, ccs⟩ ∧ vs[2]? = some (.str file tf) ∧ ((P.main.file : Str) == file) = true
  top : (P.main.scope.names.lookup ("super" : Str)).isSome = false
  vi : PySem.W.ks_superIn K D D "__init__" = some (some (.builtin "ValueError.__init__"))
  ve : PySem.W.subIn K (.ref D) (.type "ValueError") = some true
  any : PySem.W.nsIn K cStatics "thirdparty.any" = some none
  ms : mg "super" = none

/-- the call of the bound wrapper -/
theorem call_mw {prog : Program} {w : World} {A : Around} {E : Value → Shared → Prop} {h : Heap} {g : Array GenState} {d : Drawn} {t : Nat} {os : OsState}
    {nm q : Str} {C N : Addr} {bs bm : List Value} {hdct : Bool} {sn : List Str} {sub : List Value} {ab : Bool} {col : Option Bool} {dd : Option Addr} {k0 k1 k2 k3 k5 : Option Value} {u e t0 : Addr} {rest : List Value} {Q : Value → Shared → Prop}
    (hC : h.get? C = some (excClassObj nm q C N bs bm hdct sn sub ab col dd k0 k1 k2 k3 k5 "ValueError.__new__")) (he : h.get? e = some (HandSPX.excO C t0)) (hu : h.get? u = some (PySem.W.kxs_mw "ValueError.__init__" e)) (hrest : rest.length ≤ sizeLine)
    (hq : ∀ h' t1, (∀ b o, b ≠ e → h.get? b = some o → h'.get? b = some o) → h'.get? e = some (HandSPX.excO C t1) → Q .none ⟨h', g, d, t, os⟩) :
    wpAny (model prog w) A (call (.ref u) rest) Q E ⟨h, g, d, t, os⟩ := by
  refine wpAny_call (codeAny_of_tree ?_)
  show wpAny _ A.in1 (callAny (.ref u) ⟨rest, []⟩) _ _ _
  simp only [callAny]
  refine wpAny_bind (wpAny_load hu ?_)
  simp only [PySem.W.kxs_mw, show (Value.type "method-wrapper" == Value.type "method" || Value.type "method-wrapper" == Value.type "builtin_function_or_method" || Value.type "method-wrapper" == Value.type "method-wrapper") = true by decide, if_true]
  refine W.KFB.if_so (by decide) ?_
  refine wpAny_bind (PySem.ESX.check_bound F.excBase_ValueError hC he rfl ?_)
  refine wpAny_bind (wpAny_pure (wpAny_pure ?_))
  refine ⟨Code.quiet_builtin _ (by decide +kernel), codeAny_builtin F.excBase_ValueError.initEntry ?_⟩
  rw [Around.under_plainId F.excBase_ValueError.init.plain _]
  wp_walk
  refine hq _ h.objs.size (fun b o hb ho => ?_) ?_
  · rw [Heap.get?_update_other _ _ (Ne.symm hb)]
    exact Heap.get?_push_of_some _ ho
  · rw [Heap.get?_update_self _ (Heap.get?_push_of_some _ he) rfl]
    rfl

theorem callWith_mw {M : Model} {A : Around} {E : Value → Shared → Prop} {s : Shared} {i : String} {u x : Addr} {pos : Pos} {env : Env} {e : Expr} {rest : List Expr} {Q : Value → Shared → Prop}
    (h : wpAny M A (spliced (backTo pos (starEach (e :: rest) env))) (fun vs s₁ => PySem.W.KxsAt i u x s₁.heap ∧ wpAny M A (call (.ref u) vs) Q E s₁) E s)
    (he : starEach (e :: rest) env = (false, eval e env) :: starEach rest env) (hplain : (backTo pos (starEach rest env)).any (·.1) = false) :
    wpAny M A (callWith pos (.ref u) [] (backTo pos (starEach (e :: rest) env)) []) Q E s := by
  rw [he] at h ⊢
  refine PySem.W.kxs_callWith (i := i) (x := x) (by show (false || (backTo pos (starEach rest env)).any (·.1)) = false; rw [hplain]; rfl) ?_
  exact PySem.Calls.evalArgs_plain h

section
variable {X : Cx} {pins : List (Addr × Obj)} {σ : L2.St} {H : Hp} {s : Shared} {E : Value → Shared → Prop}
theorem mw_ok {us : List Value} {Q : Value → Shared → Prop} {a C u : Addr} (T : OexC X.K C) (I : Inv X pins σ H s) (e : H a = some (exo a C none)) (hu : s.heap.get? u = some (PySem.W.kxs_mw "ValueError.__init__" a)) (hl : us.length ≤ sizeLine) (h : ∀ s', Inv X pins σ H s' → Q .none s') :
    wpAny (model X.prog X.w) X.A (call (.ref u) us) Q E s := by
  obtain ⟨nm, q, N, bs, bm, sn, sub, ab, col, dd, k0, k1, k2, k3, k5, hC, hbm⟩ := T.cls
  obtain ⟨t1, ho⟩ := exo_at I.hok e
  obtain ⟨hp, g, d, t, os⟩ := s
  refine call_mw (I.kIn _ _ hC) ho hu hl fun h' t2 k hx => ?_
  have J := I.write (t' := t) (x := a) (e := a) (o := exo a C none) (by rw [e]; exact True.intro) (.inl rfl) k ⟨_, hx⟩ (exo_ok hx)
  have eu : upd H a (exo a C none) = H := by
    funext b
    by_cases hb : b = a
    · rw [hb, upd_same, e]
    · rw [upd_ne hb]
  rw [eu] at J
  exact h _ J

/-- super().__init__(e, ..) as a statement of C's own __init__ -/
theorem sup_stmt {pl : Sem Bool} {F : NF} {f L a D cc : Addr} {fd : FuncData} {oc : Value} {od : Option Addr} {osl : Array (Option Value)} {ar : Arg} {p0 p1 p2 p3 p4 : Pos} {e : Expr} {es : List Expr} {ta : TA} {body : List Stmt} {Q : Flow → Shared → Prop}
    (T : SupC X.prog X.K X.mg D cc F.c) (henv : X.env = envF F f L) (hcl : F.cl = [(("__class__" : Str), cc)])
    (lk : X.K.lookup f = some ⟨oc, od, .func fd, osl⟩) (hp : (fd.params.posonlyargs ++ fd.params.args).head? = some ar)
    (hks : F.scope.names.lookup ("super" : Str) = some .globalImplicit) (hkc : F.scope.names.lookup ("__class__" : Str) = some .free) (hka : F.scope.names.lookup ar.arg = some .local) (hk : F.scope.kind = .function)
    (h0 : X.N[0]? = some ar.arg) (hs0 : σ[0]? = some (some (.ref a))) (I : Inv X pins σ H s) (ea : H a = some (exo a D none)) (ha : PA X (e :: es) ta)
    {R : Hp → Prop} (q : ta σ H fun vs H1 => vs.length ≤ 1000 ∧ H1 a = some (exo a D none) ∧ R H1) (hR : ∀ H1 s', R H1 → Inv X pins σ H1 s' → Q .next s')
    (hee : eval (.Call (.Attribute (.Call (.Name "super" p0) [] [] p1) "__init__" p2) (e :: es) [] p3) X.env = (do
      let ov ← attributeBase (.Call (.Name "super" p0) [] [] p1) "__init__" X.env (eval (.Call (.Name "super" p0) [] [] p1) X.env)
      standAt p2.atName
      let (f, first) ← holding [ov] (getMethod ov "__init__" pl)
      callWith p3 f first (backTo p3 (starEach (e :: es) X.env)) []) := by rfl)
    (hsw : swapsWith (.Call (.Attribute (.Call (.Name "super" p0) [] [] p1) "__init__" p2) (e :: es) [] p3) none p4.line X.env = pure false := by rfl)
    (he : starEach (e :: es) X.env = (false, eval e X.env) :: starEach es X.env := by rfl) (hpl : (backTo p3 (starEach es X.env)).any (·.1) = false := by rfl) :
    _root_.PySem.wpAt (model X.prog X.w) X.A (.func body X.env) (exec (.Expr (.Call (.Attribute (.Call (.Name "super" p0) [] [] p1) "__init__" p2) (e :: es) [] p3) p4) X.env) Q X.xe s := by
  obtain ⟨cl, cld, csl, lcell⟩ := T.cell
  obtain ⟨ccl, cdd, vs, ccs, file, tf, lcode, hvs, hfile⟩ := T.file
  obtain ⟨nm, qq, N, bs, bm, sn, sub, ab, col, dd, k0, k1, k2, k3, k5, hC, hbm⟩ := T.ex.cls
  obtain ⟨t1, ho⟩ := exo_at I.hok ea
  obtain ⟨m, hns, hm⟩ := I.loc
  have kind : X.env.scope.kind = .function := I.ok.kind
  have e1 : X.env.kindOf "super" = some .globalImplicit := by rw [henv]; exact hks
  have e2 : X.env.kindOf "__class__" = some .free := by rw [henv]; exact hkc
  have e3 : X.env.kindOf ar.arg = some .local := by rw [henv]; exact hka
  have e4 : X.env.func = some f := by rw [henv]
  have e5 : X.env.code = .ref F.c := by rw [henv]
  have e6 : X.env.cells.lookup ("__class__" : Str) = some cc := by
    rw [henv]
    show F.cl.lookup ("__class__" : Str) = some cc
    rw [hcl]
    rfl
  obtain ⟨uself, rself, lself⟩ := hm 0 ar.arg (.ref a) h0 hs0 (.inl (by rw [henv]; exact hka))
  have ms : m ar.arg = some (.ref a) := by
    rcases lself with ⟨_, z⟩ | ⟨z, _⟩
    · rw [z]
      exact congrArg some rself
    · rw [e3] at z
      rcases z with z | z <;> cases z
  have hclD : PySem.W.clsIn X.K D = some { name := nm, bases := bs, mro := .ref D :: bm, ns := N, qualname := qq, hasDict := true, slotNames := sn, subclasses := sub, abstract := ab, collection := col, hasDel := false } := by unfold PySem.W.clsIn; rw [hC]
  have naC : a ≠ D := fun z => by
    have y := I.kIn _ _ hC
    rw [← z, ho] at y
    cases y
  refine PySem.ks_wpAt_Expr_any (PySem.ks_wpAt_MethodCall ?_ hee) I.quiet hsw
  have hvi := T.vi
  unfold PySem.W.ks_superIn at hvi
  rw [hclD] at hvi
  have hsub := T.sub
  have KI := I.kIn
  refine PySem.ks_wpAt_super_base (env := X.env) e1 e2 (by decide) e4 (KI _ _ lk) rfl hp e5 (KI _ _ lcode) rfl hvs hfile T.top ?_
  refine PySem.W.ks_loadName_global kind e1 ?_
  obtain ⟨mb, b1, b2⟩ := I.mod.blt
  refine Calls.loadGlobal_builtin (by rw [I.ok.glob]; exact I.mod.glob.keeps I.bk) T.ms (by rw [I.ok.blt]; exact b1.keeps I.bk) ((b2 "super" (by decide)).trans (show bootBuiltins "super" = some (.type "super") by first | boot_by_name | rfl | kernel_rfl)) ⟨rfl, ?_⟩
  refine wpAny_loadName_free kind e2 e6 ⟨_, KI _ _ lcell, rfl⟩ ?_
  refine wpAny_loadName_local kind e3 hns ms ?_
  refine PySem.ks_wpAny_isType_cls (KI _ _ hC) rfl ⟨rfl, ?_⟩
  obtain ⟨hp', g, d, t, os⟩ := s
  refine PySem.ks_wpAny_call_super (KI _ _ hC) rfl ho rfl (fun c z => by cases z) (PySem.W.looks_mroIn KI hsub) fun h1 hso k1 => ?_
  have I1 : Inv X pins σ H ⟨h1, g, d, t, os⟩ := I.kept (t' := t) k1
  have hI1 : PySem.W.Looks (model X.prog X.w) h1 (isInstance (.ref a) (.type "ValueError")) true := by
    have ia : PySem.W.InstAt h1 a { cls := .ref D, dict := none, data := .fields #[.ref t1, .none, .none, .none, .bool false, .none] } D none := ⟨k1 _ _ ho, rfl, rfl, trivial⟩
    exact ia.type.andThen (PySem.W.looks_subIn I1.kIn T.ve)
  refine PySem.W.kxs_getMethod PySem.W.kxs_ValueError hso (PySem.W.looks_opaque I1.kIn T.any) (l₀ := .ref D :: bm) ?_ rfl I1.kIn hvi hI1 naC (by decide) ?_
  · exact fun A Q E s k q => wpAny_bind ((PySem.W.looks_clsIn I1.kIn hclD) A _ E s k (wpAny_pure q))
  · have k2 : ∀ b o, h1.get? b = some o → (h1.push (PySem.W.kxs_mw "ValueError.__init__" a)).get? b = some o := fun b o z => Heap.get?_push_of_some _ z
    have hu : (h1.push (PySem.W.kxs_mw "ValueError.__init__" a)).get? h1.objs.size = some (PySem.W.kxs_mw "ValueError.__init__" a) := Heap.get?_push_size _ rfl
    have I2 : Inv X pins σ H ⟨h1.push (PySem.W.kxs_mw "ValueError.__init__" a), g, d, t + 1, os⟩ := I1.kept (t' := t + 1) k2
    have nH : H h1.objs.size = none := I1.hok.fresh (Nat.le_refl _)
    have I3 : Inv X (pins ++ [(h1.objs.size, PySem.W.kxs_mw "ValueError.__init__" a)]) σ H ⟨h1.push (PySem.W.kxs_mw "ValueError.__init__" a), g, d, t + 1, os⟩ := I2.pins_of fun p hp => by
      rcases List.mem_append.mp hp with hp | hp
      · exact I2.pin p (List.mem_append_right _ hp)
      · obtain rfl := List.mem_singleton.mp hp
        exact ⟨hu, nH, Nat.ne_of_gt I1.lt, I1.nofs (Nat.le_refl _), fun v z => by cases z⟩
    show wpAny _ _ (callWith p3 (.ref h1.objs.size) [] (backTo p3 (starEach (e :: es) X.env)) []) _ _ _
    refine callWith_mw (i := "ValueError.__init__") (x := a) ?_ he hpl
    refine thn (ha.run p3 _ _ σ H _ I3 q) fun us s1 ⟨ws, H1, J, r1, hl, ea1, qq⟩ => ⟨(J.pin (h1.objs.size, PySem.W.kxs_mw "ValueError.__init__" a) (by simp)).1, ?_⟩
    have hlen : us.length ≤ sizeLine := by
      rw [← Paired.length r1, sizeLine_eq]
      omega
    refine mw_ok T.ex (J.pins_of fun p hp => J.pin p (List.mem_append_right _ (List.mem_append_left _ hp))) ea1 (J.pin (h1.objs.size, PySem.W.kxs_mw "ValueError.__init__" a) (by simp)).1 hlen fun s' J' => ?_
    exact hR _ s' qq J'
end

/-- THE RULE: an own exception's __init__, by the arguments of super().__init__ and the rest of its body -/
theorem fn_sup {pl : Env → Sem Bool} {CX : CXT} {P : Program} {w : World} {K : PySem.W.Frag} {mg : Str → Option Value} {base : Heap} {k : Nat} {F : NF} {f D cc : Addr} {N ps : List Str} {sp : Sp} {dV kV doc pm oc ct : Value} {an od : Option Addr} {osl : Array (Option Value)} {ar : Arg} {p0 p1 p2 p3 p4 : Pos} {e : Expr} {es : List Expr} {rest : List Stmt}
    (lk : K.lookup f = some ⟨oc, od, .func (PySem.W.fnX F.name F.qual F.params F.body F.scope F.cl dV kV doc pm an (.ref F.c) ct), osl⟩) (T : SupC P K mg D cc F.c) (hcl : F.cl = [(("__class__" : Str), cc)])
    (hb : F.body = .Expr (.Call (.Attribute (.Call (.Name "super" p0) [] [] p1) "__init__" p2) (e :: es) [] p3) p4 :: rest) (hcd : PySem.W.codeIn K (.ref F.c) F.qual = true) (S : NScope N ps ["__class__"] F.scope)
    (hp : (F.params.posonlyargs ++ F.params.args).head? = some ar) (hps : ps.head? = some ar.arg) (hks : F.scope.names.lookup ("super" : Str) = some .globalImplicit)
    (len : ∀ vs H Q E, sp vs H Q E → vs.length = ps.length)
    (hbody : ∀ (A : Around) (outer : List Env) (s : Shared) (H : Hp) (vs : List V) (Q : VK) (E : XK), Room k (A.deeper (envF F f s.heap.objs.size)) → sp vs H Q E →
      ∃ a ta t, vs.head? = some (.ref a) ∧ H a = some (exo a D none) ∧ PA (ncx CX P w K mg base N F f A outer s H E) (e :: es) ta ∧ PSs (ncx CX P w K mg base N F f A outer s H E) rest t ∧
        ta (startF N vs [some (.ref D)]) H fun ws H1 => ws.length ≤ 1000 ∧ H1 a = some (exo a D none) ∧ t { nx := fun _ H' => Q .non H', rt := Q } (startF N vs [some (.ref D)]) H1)
    (hee : ∀ env : Env, eval (.Call (.Attribute (.Call (.Name "super" p0) [] [] p1) "__init__" p2) (e :: es) [] p3) env = (do
      let ov ← attributeBase (.Call (.Name "super" p0) [] [] p1) "__init__" env (eval (.Call (.Name "super" p0) [] [] p1) env)
      standAt p2.atName
      let (f, first) ← holding [ov] (getMethod ov "__init__" (pl env))
      callWith p3 f first (backTo p3 (starEach (e :: es) env)) []) := by intro env; rfl)
    (hsw : ∀ env : Env, swapsWith (.Call (.Attribute (.Call (.Name "super" p0) [] [] p1) "__init__" p2) (e :: es) [] p3) none p4.line env = pure false := by intro env; rfl)
    (he : ∀ env : Env, starEach (e :: es) env = (false, eval e env) :: starEach es env := by intro env; rfl) (hpl : ∀ env : Env, (backTo p3 (starEach es env)).any (·.1) = false := by intro env; rfl) :
    FnOk P w K mg base CX (k + 1) f (PySem.W.fnX F.name F.qual F.params F.body F.scope F.cl dV kV doc pm an (.ref F.c) ct) ps sp := by
  refine ⟨len, fun A outer s H args us vs Q E hr e0 hbi r hsp => ?_⟩
  have hl := len _ _ _ _ hsp
  have KX : K.In s.heap := e0.mod.kin.keeps fun b o e => (e0.bs b o e).1
  have lim : s.heap.NoLimit := e0.mod.nolimit.keeps fun b o e => (e0.bs b o e).1
  obtain ⟨cl, cld, csl, lcell⟩ := T.cell
  have CA : CellsAt F.cl ["__class__"] [some (.ref D)] s.heap H := by
    have isc : s.heap.IsCell cc (some (.ref D)) := ⟨_, KX _ _ lcell, rfl⟩
    have key : ∀ y c, F.cl.lookup y = some c → y = "__class__" ∧ c = cc := fun y c z => by
      rw [hcl] at z
      by_cases g : (y == ("__class__" : Str)) = true
      · simp only [List.lookup, g] at z
        cases z
        exact ⟨beq_iff_eq.mp g, rfl⟩
      · simp only [List.lookup, Bool.eq_false_iff.mpr g] at z
        cases z
    refine ⟨rfl, fun y c z => ?_, fun x y c z1 z2 => ?_, fun i y z => ?_⟩
    · obtain ⟨rfl, rfl⟩ := key y c z
      exact ⟨(e0.bs _ _ (e0.mod.kin _ _ lcell)).2, _, isc⟩
    · exact (key x c z1).1.trans (key y c z2).1.symm
    · match i, z with
      | 0, z =>
        cases z
        refine ⟨cc, by rw [hcl]; rfl, fun v z => ?_⟩
        cases z
        exact ⟨_, rfl, isc⟩
      | i + 1, z => simp at z
  refine PySem.ks_codeAny_call_defAt (fd := PySem.W.fnX F.name F.qual F.params F.body F.scope F.cl dV kV doc pm an (.ref F.c) ct) (body := F.body) (binds := ps.zip us) hr.depth (KX _ _ lk) rfl lim (PySem.W.codeRec_of KX hcd) rfl hbi S.nocell (fun ⟨n, _⟩ hy => S.par n (List.of_mem_zip hy).1) (fun h₁ hns kp => ?_) S.co S.gen S.kind
  show _root_.PySem.wpAt (model P w) (A.deeper (envF F f s.heap.objs.size)) (.func F.body (envF F f s.heap.objs.size)) (execs F.body (envF F f s.heap.objs.size)) _ _ _
  obtain ⟨a, ta, t, hv0, ea, hta, ht, hq⟩ := hbody A outer s H vs Q E (hr.deeper _) hsp
  have I : Inv (ncx CX P w K mg base N F f A outer s H E) [] (startF N vs [some (.ref D)]) H { s with heap := h₁, toks := s.toks + (ps.zip us).length } := inv_startN S hr.hd e0 hl r CA hns kp
  have h0 : N[0]? = some ar.arg := by
    have z := S.pre
    cases hN : N with
    | nil => rw [hN] at z; cases ps <;> simp at z
    | cons n0 nr =>
      rw [hN] at z
      cases hP : ps with
      | nil => rw [hP] at hps; cases hps
      | cons p pr =>
        rw [hP] at z hps
        cases hps
        simp at z
        simp [z.1]
  have hs0 : (startF N vs [some (.ref D)])[0]? = some (some (.ref a)) := by
    cases vs with
    | nil => cases hv0
    | cons v vr => cases hv0; rfl
  have hka : F.scope.names.lookup ar.arg = some .local := S.par _ (List.mem_of_mem_head? hps)
  have hkc : F.scope.names.lookup ("__class__" : Str) = some .free := S.frk _ (by simp)
  rw [hb]
  refine PySem.ks_wpAt_execs_cons ?_
  rw [← hb]
  refine sup_stmt (X := ncx CX P w K mg base N F f A outer s H E) (F := F) (f := f) (L := s.heap.objs.size) (body := F.body) T rfl hcl lk hp hks hkc hka S.kind h0 hs0 I ea hta hq (fun H1 s' q J => ?_) (hee _) (hsw _) (he _) (hpl _)
  show _root_.PySem.wpAt _ _ _ (execs rest (envF F f s.heap.objs.size)) _ _ _
  refine wpAt_of_wpAny ?_
  refine wpAny_mono (ht.run [] s' _ H1 _ J q) (fun fl s2 hs => ?_) fun e s' hs => hs
  have fin : ∀ {σ' : L2.St} {H' : Hp} {v : V} {u : Value}, Inv (ncx CX P w K mg base N F f A outer s H E) [] σ' H' s2 → L2.RelV v u → Q v H' → CE outer P w H s Q u s2 :=
    fun {σ' H' v u} J rv q => ⟨v, H', J.os, J.bare, J.base, J.hok, rv, q⟩
  cases fl with
  | ret u =>
    obtain ⟨v, σ', H', J, rv, q⟩ := hs
    exact fin J rv q
  | next =>
    obtain ⟨σ', H', J, q⟩ := hs
    exact fin (v := V.non) (u := Value.none) J rfl q
  | brk =>
    obtain ⟨_, _, _, q⟩ := hs
    exact False.elim q
  | cont =>
    obtain ⟨_, _, _, q⟩ := hs
    exact False.elim q
end SupX

set_option Elab.async false
set_option linter.all false
set_option maxRecDepth 100000
set_option maxHeartbeats 2000000
set_option autoImplicit true
/-! SatX: own exceptions: raised, caught by several clauses (with and without a name), asked and read -/
namespace PySem.W
open PySem PySem.Spec PySem.Calls PyProof.Rows
section
variable {prog : Program} {w : World} {A : Around} {E : Value → Shared → Prop} {s : Shared} {K : Frag} {x D : Addr} {ox : Obj} {od : Option Obj}
theorem sx_find {C : Addr} {name : Str} {a g : Value} (hc : (clsIn K C).isSome = true) (ha : findIn K (.ref C) name = some (some a)) (hg : specialIn K a "__get__" = some (some g)) (ht : takesIn K a = some true) : findObj K C od name = some (.bind g a) := by
  obtain ⟨cd, hc⟩ := Option.isSome_iff_exists.mp hc
  unfold findObj
  rw [hc, Option.bind_some, ha, Option.bind_some]
  simp [hg, ht]
/-- e.__class__ of an exception with any dict -/
theorem sx_class {Q : Option Value → Shared → Prop} (hga : findIn K (.ref D) "__getattribute__" = some (some (.builtin "BaseException.__getattribute__"))) (hgt : findIn K (.ref D) "__getattr__" = some none) (hsub : subIn K (.ref D) (.type "BaseException") = some true)
    (hdct : hasDictIn K D = true) (ha : findIn K (.ref D) "__class__" = some (some (.builtin "object.__class__")))
    (hn : specialIn K (.builtin "object.__class__") "__get__" = some (some (.builtin "getset_descriptor.__get__"))) (htk : takesIn K (.builtin "object.__class__") = some true) (hm : mroIn K D (.type "object") = some true)
    (X : K.In s.heap) (I : InstAt s.heap x ox D od) (h : Q (some (.ref D)) { s with toks := s.toks + 1 }) : wpAny (model prog w) A (getAttr? (.ref x) "__class__") Q E s := by
  have hf : findObj K D od "__class__" = some (.bind (.builtin "getset_descriptor.__get__") (.builtin "object.__class__")) := sx_find (by obtain ⟨cd, hc, _⟩ := any_some hdct; rw [hc]; rfl) ha hn htk
  obtain ⟨hp, g, d, t, os⟩ := s
  have L0 := I.type (M := model prog w)
  have L1 := looks_findIn (M := model prog w) X hga
  have L2 := looks_findIn (M := model prog w) X hgt
  have L3 := looks_find (M := model prog w) X I hf
  have sub : Looks (model prog w) hp (isInstance (.ref x) (.type "BaseException")) true := L0.andThen (looks_subIn X hsub)
  have b2 : (Value.builtin "BaseException.__getattribute__" == Value.builtin "object.__getattribute__") = false := by decide +kernel
  have b1 : (onTheHeap (Value.ref D) && Value.builtin "BaseException.__getattribute__" == Value.builtin "object.__getattribute__") = false := by rw [b2]; rfl
  unfold getAttr? getAttrBy? getAttrBy
  refine wpAny_bind (wpAny_mkText (wpAny_bind (wpAny_attempt (wpAny_holding (wpAny_bind (L0.at (wpAny_bind (L1.at ?_))))))))
  show wpAny _ _ (if (onTheHeap (Value.ref D) && Value.builtin "BaseException.__getattribute__" == Value.builtin "object.__getattribute__") = true then _ else _) _ _ _
  rw [b1, if_neg Bool.false_ne_true]
  unfold getAttrByItsOwn hookBefore
  refine wpAny_bind ?_
  rw [if_pos (show onTheHeap (Value.ref D) = true from rfl)]
  refine L2.at (wpAny_bind (wpAny_attempt (wpAny_holding ?_)))
  unfold callGetattribute
  rw [show (false && onTheHeap (Value.builtin "BaseException.__getattribute__")) = false from rfl, if_neg Bool.false_ne_true]
  unfold boundAndCalled
  rw [PySem.F.excAttr_ValueError.ga.bind (.ref x)]
  refine wpAny_bind (wpAny_pure ?_)
  show wpAny _ _ (call (.builtin "BaseException.__getattribute__") [.ref x, .str "__class__" t]) _ _ _
  refine wpAny_call (codeAny_call_builtin PySem.F.excAttr_ValueError.ga.plain PySem.F.entry_bexc_ga ?_)
  refine @check_slot (model prog w) _ _ ⟨hp, g, d, t + 1, os⟩ "BaseException.__getattribute__" "BaseException" "__getattribute__" (.ref x) [.str "__class__" t] [] _ (by decide +kernel) (by decide +kernel) sub (PySem.F.args_bexc_ga (.ref x) (.str "__class__" t)) ?_
  unfold Builtin.«object.__getattribute__»
  refine wpAny_bind (wpAny_of_eq (a := ((Value.ref x : Value), [Value.str "__class__" t])) (by first | rfl | (simp only [slotArgs]; rfl)) ?_)
  refine wpAny_bind (wpAny_pure (wpAny_bind (L0.at (wpAny_bind (L3.at ?_)))))
  show wpAny _ _ (holding [Value.builtin "object.__class__"] (call (.builtin "getset_descriptor.__get__") [.builtin "object.__class__", .ref x, .ref D]) >>= ret) _ _ _
  refine wpAny_bind (wpAny_holding (wpAny_call (class_get (s := ⟨hp, g, d, t + 1, os⟩) (ox := ox) (od := od) X I hm (wpAny_pure ?_))))
  show wpAny _ _ (handedOut (.ref D)) _ _ _
  rw [handedOut_of (v := .ref D) rfl]
  first
    | exact wpAny_pure (wpAny_pure h)
    | exact wpAny_pure h
    | exact wpAny_pure (wpAny_bind (wpAny_pure (wpAny_pure h)))
theorem sx_kit (hga : findIn K (.ref D) "__getattribute__" = some (some (.builtin "BaseException.__getattribute__"))) (hgt : findIn K (.ref D) "__getattr__" = some none) (hsub : subIn K (.ref D) (.type "BaseException") = some true) (hdct : hasDictIn K D = true) (ha : findIn K (.ref D) "__class__" = some (some (.builtin "object.__class__")))
    (hn : specialIn K (.builtin "object.__class__") "__get__" = some (some (.builtin "getset_descriptor.__get__"))) (htk : takesIn K (.builtin "object.__class__") = some true) (hm : mroIn K D (.type "object") = some true) :
    KitX K (.ref x) (.ref D) (fun h => ∃ od, InstAt h x ox D od) where
  ty := fun _ _ _ ⟨_, I⟩ => I.type
  it := fun _ _ X _ => by
    obtain ⟨cdD, hcD, _⟩ := any_some hdct
    unfold clsIn at hcD
    split at hcD
    · rename_i c' d' cd' sl' ho
      intro A' Q' E' s' k q
      unfold isType loadHead
      exact wpAny_bind (wpAny_loadPart (k _ _ (X _ _ ho)) (wpAny_pure q))
    · cases hcD
  ne := fun h tp dd its n sl X htp => by
    obtain ⟨cdD, hcD, _⟩ := any_some hdct
    refine Bool.eq_false_iff.mpr fun q => ?_
    have e : D = tp := Value.ref.inj (beq_iff_eq.mp q)
    subst e
    unfold clsIn at hcD
    split at hcD
    · rename_i c' d' cd' sl' ho
      have z := (X _ _ ho).symm.trans htp
      cases z
    · cases hcD
  ca := fun X ⟨_, I⟩ k => sx_class hga hgt hsub hdct ha hn htk hm X I k
end
end PySem.W
namespace L2
open PySem PySem.Spec PyProof.Rows
/-- isinstance(e, c), e the exception that the suite holds, its dict (none, or d with fields told) -/
def rIsX (K : PySem.W.Frag) (cls : Value) (a : Addr) (d : Option Addr) : List V → Hp → VK → Prop := fun xs H Q => ∃ (D : Addr) (c : V) (cv : Value) (b : Bool), cls = .ref D ∧ ExcC K D ∧ xs = [.ref a, c] ∧ (∀ u, RelV c u → u = cv) ∧ PySem.W.kitOne K (.ref D) cv = some b ∧ (∀ dx, d = some dx → ∃ fs, H dx = some (.xd fs)) ∧ Q (.bl b) H
theorem call_isX {X : Cx} {a : Addr} {cls : Value} {d : Option Addr} {oe : Obj} {pn : List (Addr × Obj)} (hz : L2N.Zn cls d oe) (hf : ∃ vs, oe.data = .fields vs) : CallR (X.suite a ((a, oe) :: pn)) (.builtin "isinstance") (rIsX X.K cls a d) := by
  replace hz : Zc cls d oe := hz.zc
  intro pins s σ H xs us Q I r h
  obtain ⟨D, c, cv, b, rfl, C, rfl, hcv, e, hd, q⟩ := h
  cases r with
  | cons rx rr =>
    cases rr with
    | cons rt rr =>
      cases rr
      cases rx
      have ec := hcv _ rt
      subst ec
      obtain ⟨hget, _⟩ := I.pin (a, oe) (List.mem_append.mpr (.inl List.mem_cons_self))
      obtain ⟨vs, hv⟩ := hf
      have J : ∃ od, PySem.W.InstAt s.heap a oe D od := by
        obtain ⟨oc, odd, oda, osl⟩ := oe
        obtain ⟨h1, h2⟩ := hz
        dsimp only at h1 h2 hv
        subst h1 h2 hv
        cases d' : odd with
        | none => subst d'; exact ⟨none, hget, rfl, rfl, trivial⟩
        | some dx =>
          subst d'
          obtain ⟨fs, hx⟩ := hd dx rfl
          have z : ObjOk X.prog X.w H s.heap dx (.xd fs) := I.hok dx _ hx
          obtain ⟨mA, ⟨o, _, _, ho, _⟩, _⟩ := z
          exact ⟨some o, hget, rfl, rfl, ho⟩
      exact PySem.W.kia_one (PySem.W.sx_kit C.hg C.hk C.hs C.hd C.ha C.hn C.ht C.hm) I.kIn J e (fun z => nomatch z) fun tk => ⟨.bl b, H, I.kept (t' := tk) fun _ _ z => z, rfl, q⟩

/-! ### a try with several clauses -/
abbrev Ends.gone (D : Ends) (i : Nat) : Ends := { nx := fun σ' H' => D.nx (σ'.set i none) H', rt := D.rt, bk := fun σ' H' => D.bk (σ'.set i none) H', ct := fun σ' H' => D.ct (σ'.set i none) H' }
abbrev Cls1 := Value × Option Nat × (Addr → Value → Option Addr → TS)
/-- what the clauses wish of an exception of the body -/
def wMix (K : PySem.W.Frag) (Wout : WX) (D : Ends) : List Cls1 → WX
  | [] => Wout
  | (c, none, ts) :: r => fun cls d σ H => ∃ b, PySem.W.exmOne K cls c = some b ∧ (b = true → ∀ a, H a = none → ts a cls d D σ H) ∧ (b = false → wMix K Wout D r cls d σ H)
  | (c, some i, ts) :: r => fun cls d σ H => ∃ b, PySem.W.exmOne K cls c = some b ∧ (b = true → ∀ a, H a = none → ts a cls d (D.gone i) (σ.set i (some (.ref a))) H) ∧ (b = false → wMix K Wout D r cls d σ H)
inductive HdsX (X : Cx) : List ExceptHandler → List Cls1 → Prop
  | nil : HdsX X [] []
  | plain {x : Str} {c : Value} {ts : Addr → Value → Option Addr → TS} {b₀ : Stmt} {suite : List Stmt} {np pos' : Pos} {hds : List ExceptHandler} {l : List Cls1} (hc : Names X x c)
      (hsu : ∀ (a : Addr) (oe : Obj) (cls : Value) (d : Option Addr) (pn : List (Addr × Obj)), L2N.Zn cls d oe → (∃ vs, oe.data = .fields vs) → PSs (X.suite a ((a, oe) :: pn)) (b₀ :: suite) (ts a cls d)) (r : HdsX X hds l) :
      HdsX X (.ExceptHandler (some (.Name x np)) none (b₀ :: suite) pos' :: hds) ((c, none, ts) :: l)
  | named {x n : Str} {i : Nat} {c : Value} {ts : Addr → Value → Option Addr → TS} {b₀ : Stmt} {suite : List Stmt} {np pos' : Pos} {hds : List ExceptHandler} {l : List Cls1} (hc : Names X x c) (hi : X.N[i]? = some n) (hln : X.env.kindOf n = some .local)
      (hsu : ∀ (a : Addr) (oe : Obj) (cls : Value) (d : Option Addr) (pn : List (Addr × Obj)), L2N.Zn cls d oe → (∃ vs, oe.data = .fields vs) → PSs (X.suite a ((a, oe) :: pn)) (b₀ :: suite) (ts a cls d)) (r : HdsX X hds l) :
      HdsX X (.ExceptHandler (some (.Name x np)) (some n) (b₀ :: suite) pos' :: hds) ((c, some i, ts) :: l)

/-- an exception that has landed in a frame: what stands then -/
structure Landed (X : Cx) (pins : List (Addr × Obj)) (σ : L2.St) (H : Hp) (a : Addr) (cls : Value) (d : Option Addr) (B : Heap) (s sI : Shared) : Prop where
  J : Inv X pins σ H sI
  nb : ∀ b o, sI.heap.get? b = some o → b ∉ frs X.stack → B.get? b = some o
  up : sI.heap.UpToSlots s.heap
  os : s.os = sI.os
  ag : AllBare s.gens
  na : H a = none
  fl : HandSPX.FlyingZ B (X.env :: X.outer) a (L2N.Zn cls d) s.heap
  frm : a ∉ frs (X.env :: X.outer)
section
variable {X : Cx} {pins : List (Addr × Obj)} {σ : L2.St} {H : Hp} {a : Addr} {cls : Value} {d : Option Addr} {B : Heap} {s sI : Shared}
theorem Landed.inv (L : Landed X pins σ H a cls d B s sI) : Inv X pins σ H s := L.J.landed L.nb L.fl.1 L.up L.os L.ag
theorem Landed.suite (L : Landed X pins σ H a cls d B s sI) (hf : X.env.frame = some X.env.locals) : ∃ oe, L2N.Zn cls d oe ∧ (∃ vs, oe.data = .fields vs) ∧ Inv (X.suite a ((a, oe) :: (X.pn ++ pins))) [] σ H s ∧ s.heap.get? a = some oe := by
  obtain ⟨oe, vs, he, hz, hd⟩ := L.fl.there
  have nL : a ≠ X.env.locals := fun z => L.frm (List.mem_filterMap.mpr ⟨X.env, List.mem_cons_self, by rw [hf, z]⟩)
  have nF : a ∉ X.fs := fun hm => by
    obtain ⟨e, he, q⟩ := List.mem_filterMap.mp hm
    exact L.frm (List.mem_filterMap.mpr ⟨e, List.mem_cons_of_mem _ he, q⟩)
  exact ⟨oe, hz, ⟨vs, hd⟩, L.inv.suite he hd L.na nL nF, he⟩
theorem Landed.go (L : Landed X pins σ H a cls d B s sI) {h : Heap} (fl : HandSPX.FlyingZ B (X.env :: X.outer) a (L2N.Zn cls d) h) (up : s.heap.UpToSlots h) : Landed X pins σ H a cls d B { s with heap := h } sI :=
  ⟨L.J, L.nb, L.up.trans up, L.os, L.ag, L.na, fl, L.frm⟩
/-- the clauses, one behind another -/
theorem hds_run {hds : List ExceptHandler} {l : List Cls1} {D : Ends} {Wout : WX} (hs : X.stack = X.env :: X.outer) (hf : X.env.frame = some X.env.locals) (hN : X.N.Nodup) (tk : L2N.Takes X Wout) (hh : HdsX X hds l) (L : Landed X pins σ H a cls d B s sI) :
    wMix X.K Wout D l cls d σ H → wpAny (model X.prog X.w) X.A (handleBy (.ref a) X.env hds) (SP X pins D) X.xe s := by
  have ok := L.J.ok
  induction hh with
  | nil =>
    intro w
    refine wpAny_handleBy_nil ?_
    obtain ⟨k1, k2, k3, oe, vs, T, oT, ts', he, hz, hd, h1, hr⟩ := id L.fl
    unfold PySem.passOn
    refine wpAny_bind (wpAny_field he hd h1 ?_)
    rw [if_neg (show ¬ ((Value.ref T == Value.none) = true) from by simp)]
    have fin : wpAny (model X.prog X.w) X.A (setFlight (.ref a) X.env.frame) (fun _ s4 => wpAny (model X.prog X.w) X.A (throw (.ref a) : Sem Flow) (SP X pins D) X.xe s4) X.xe s := by
      rw [hf]
      refine HandSPX.setFlight_upZ L.fl fun h4 hh4 up4 => wpAny_throw (tk _ _ ?_)
      exact ⟨a, B, sI, pins, σ, H, cls, d, rfl, L.J, L.nb, L.up.trans up4, .inr (.inr (by rw [hs]; exact hh4)), L.na, L.os, L.ag, w⟩
    first
      | exact wpAny_bind (wpAny_pure (wpAny_bind fin))
      | exact wpAny_bind fin
  | @plain x c ts b₀ suite np pos' hds2 l2 hc hsu r ih =>
    rintro ⟨b, hb1, hyes, hno⟩
    obtain ⟨oe, hz, hd, S, he⟩ := L.suite hf
    refine wpAny_handleBy_cons (codeAny_handlers_test ?_) (by intro q; cases q)
    have LT : PySem.W.Looks (model X.prog X.w) s.heap (typeOf (.ref a)) cls := fun A Q E s k q => wpAny_typeOf_ref (k _ _ he) (by rw [hz.1]; exact q)
    have LM := PySem.W.exm_one (M := model X.prog X.w) L.inv.kIn LT hb1
    have test : ∀ {Q : Value → Shared → Prop} {E : Value → Shared → Prop}, Q c s → wpAny (model X.prog X.w) (X.A.mark (some (.ref a))) (eval (.Name x np) X.env) Q E s := fun {Q E} q => by
      obtain ⟨hg, hdbg, hm | ⟨hm, hv, hnn⟩⟩ := hc
      · exact ld_glob (X := X.suite a ((a, oe) :: (X.pn ++ pins))) S hg hm q hdbg
      · exact ld_blt (X := X.suite a ((a, oe) :: (X.pn ++ pins))) S hg hm hv q hnn hdbg
    refine test (LM.here ?_)
    cases b with
    | true =>
      refine codeAny_handlers_suite (HandSPX.lands_againZ L.fl fun h4 fl4 up4 => ?_)
      obtain ⟨oe4, hz4, hd4, S4, _⟩ := (L.go fl4 up4).suite hf
      refine wpAny_mono ((hsu a oe4 cls d (X.pn ++ pins) hz4 hd4).run [] _ _ H _ S4 (hyes rfl a L.na)) (fun f s6 hsp => ?_) (fun _ _ z => False.elim z)
      cases f with
      | next => obtain ⟨σ6, H6, S6, q6⟩ := hsp; exact ⟨_, _, S6.unsuite ok, q6⟩
      | brk => obtain ⟨σ6, H6, S6, q6⟩ := hsp; exact ⟨_, _, S6.unsuite ok, q6⟩
      | cont => obtain ⟨σ6, H6, S6, q6⟩ := hsp; exact ⟨_, _, S6.unsuite ok, q6⟩
      | ret u => obtain ⟨v6, σ6, H6, S6, r6, q6⟩ := hsp; exact ⟨_, _, _, S6.unsuite ok, r6, q6⟩
    | false => exact ih (hno rfl)
  | @named x n i c ts b₀ suite np pos' hds2 l2 hc hi hln hsu r ih =>
    rintro ⟨b, hb1, hyes, hno⟩
    obtain ⟨oe, hz, hd, S, he⟩ := L.suite hf
    refine wpAny_handleBy_cons (codeAny_handlers_test ?_) (by intro q; cases q)
    have LT : PySem.W.Looks (model X.prog X.w) s.heap (typeOf (.ref a)) cls := fun A Q E s k q => wpAny_typeOf_ref (k _ _ he) (by rw [hz.1]; exact q)
    have LM := PySem.W.exm_one (M := model X.prog X.w) L.inv.kIn LT hb1
    have test : ∀ {Q : Value → Shared → Prop} {E : Value → Shared → Prop}, Q c s → wpAny (model X.prog X.w) (X.A.mark (some (.ref a))) (eval (.Name x np) X.env) Q E s := fun {Q E} q => by
      obtain ⟨hg, hdbg, hm | ⟨hm, hv, hnn⟩⟩ := hc
      · exact ld_glob (X := X.suite a ((a, oe) :: (X.pn ++ pins))) S hg hm q hdbg
      · exact ld_blt (X := X.suite a ((a, oe) :: (X.pn ++ pins))) S hg hm hv q hnn hdbg
    refine test (LM.here ?_)
    cases b with
    | true =>
      refine codeAny_handlers_suite_as (HandSPX.lands_againZ L.fl fun h4 fl4 up4 => ?_)
      obtain ⟨oe4, hz4, hd4, S4, _⟩ := (L.go fl4 up4).suite hf
      refine store_ok (X := X.suite a ((a, oe4) :: (X.pn ++ pins))) (v := .ref a) S4 hN hi (.inl hln) rfl (fun s5 S5 => ?_) (.inr hln)
      refine wpAny_mono ((hsu a oe4 cls d (X.pn ++ pins) hz4 hd4).run [] s5 _ H (D.gone i) S5 (hyes rfl a L.na)) (fun f s6 hsp => ?_) (fun _ _ z => False.elim z)
      have end_ : ∀ {σ6 : L2.St} {H6 : Hp} {Q : Shared → Prop}, Inv (X.suite a ((a, oe4) :: (X.pn ++ pins))) [] σ6 H6 s6 → (∀ s7, Inv X pins (σ6.set i none) H6 s7 → Q s7) →
          wpAny (model X.prog X.w) X.A (do bindName X.env n .none; unbindBehindTheSuite X.env n pos') (fun _ s7 => Q s7) X.xe s6 := fun {σ6 H6 Q} S6 hq => gone_ok (S6.unsuite ok) hN hi hln hq
      cases f with
      | next => obtain ⟨σ6, H6, S6, q6⟩ := hsp; exact end_ S6 fun s7 J7 => ⟨_, _, J7, q6⟩
      | brk => obtain ⟨σ6, H6, S6, q6⟩ := hsp; exact end_ S6 fun s7 J7 => ⟨_, _, J7, q6⟩
      | cont => obtain ⟨σ6, H6, S6, q6⟩ := hsp; exact end_ S6 fun s7 J7 => ⟨_, _, J7, q6⟩
      | ret u => obtain ⟨v6, σ6, H6, S6, r6, q6⟩ := hsp; exact end_ S6 fun s7 J7 => ⟨_, _, _, J7, r6, q6⟩
    | false => exact ih (hno rfl)
end
section
variable {P : Program} {w : World} {K : PySem.W.Frag} {mg : Str → Option Value} {base : Heap}
theorem Fun.okN {x qual : Str} {st : Stmt} {f : Addr} {fd : FuncData} {N ps : List Str} {k : Nat} {sp : Sp} (F : Fun K x qual st f fd) (S : FnScope N ps (defScope st)) (len : ∀ vs H Q E, sp vs H Q E → vs.length = ps.length)
    (hbody : ∀ (cdv : Value) (A : Around) (outer : List Env) (s : Shared) (H : Hp) (vs : List V) (Q : VK) (E : XK), Room k (A.deeper (envOfC qual (defScope st) s.heap.objs.size f cdv)) → sp vs H Q E →
      ∃ t, PSs (cxOf (L2N.CX P w) P w K mg base N qual (defScope st) f cdv A outer s H E) (defBody st) t ∧ t { nx := fun _ H' => Q .non H', rt := Q } (start N vs) H) : FnOk P w K mg base (L2N.CX P w) (k + 1) f fd ps sp := by
  obtain ⟨_, _, _, _, _, _, cdv, _, _, rfl, lk, hcd⟩ := F.ex
  exact fn_of lk hcd S len fun A outer s H vs Q E hr hsp => hbody cdv A outer s H vs Q E hr hsp
end
section
variable {X : Cx} {body : List Stmt} {h₀ : ExceptHandler} {hds : List ExceptHandler} {l : List Cls1} {pos : Pos} {tb : WX → TS} {Wout : WX}
def tTryX (K : PySem.W.Frag) (Wout : WX) (l : List Cls1) (tb : WX → TS) : TS := fun D σ H => tb (wMix K Wout D l) D σ H
theorem takes0N {X : Cx} : L2N.Takes X (fun _ _ _ _ => False) := fun _ _ x => by
  obtain ⟨_, _, _, _, _, _, _, _, _, _, _, _, _, _, _, _, z⟩ := x
  exact z.elim
theorem ps_tryX (hs : X.stack = X.env :: X.outer) (hf : X.env.frame = some X.env.locals) (hN : X.N.Nodup) (tk : L2N.Takes X Wout)
    (hb : ∀ (W : WX) (pn : List (Addr × Obj)) (xe : Value → Shared → Prop), L2N.Takes (X.tr pn xe) W → PassesOwn (model X.prog X.w) X.A X.env xe → PSs (X.tr pn xe) body (tb W))
    (hh : HdsX X (h₀ :: hds) l) : PS X (.Try body (h₀ :: hds) [] [] pos) (tTryX X.K Wout l tb) := by
  refine ⟨fun pins s σ H D I h => ?_⟩
  have ok := I.ok
  have hfr : X.A.frames = some (X.env :: X.outer) := by rw [ok.frames, hs]
  refine wpAny_Try_except ?_
  refine wpAny_mono ((hb (wMix X.K Wout D l) (X.pn ++ pins) (fun e s₁ => wpAny (model X.prog X.w) X.A (noteFrame e X.env) (fun _ s₂ => wpAny (model X.prog X.w) X.A (setFlight e none) (fun _ s₃ =>
    wpAny (model X.prog X.w) X.A (handleBy e X.env (h₀ :: hds)) (SP X pins D) X.xe s₃) X.xe s₂) X.xe s₁) (fun u s' xx => ?_) PassesOwn.looking).run [] s σ H D (I.toTry _) h) (fun f s1 hsp => ?_) (fun e s1 he => he)
  · obtain ⟨a, B, sI, pins', σ', H', cls, d, rfl, J', nb, up, sky, na, os, ag, w⟩ := xx
    have J : Inv X pins σ' H' sI := J'.ofTry ok
    have sky' : Sky B (X.env :: X.outer) a (L2N.Zn cls d) X.env.locals s'.heap := by rw [← hs]; exact sky
    show wpAny (model X.prog X.w) X.A (noteFrame (.ref a) X.env) _ _ _
    refine L2N.Sky.land L2N.Zn.steady hfr hf sky' fun h3 fl3 up3 => ?_
    have frm : a ∉ frs (X.env :: X.outer) := fun hm => by
      obtain ⟨oe, vs, e, _, dd⟩ := fl3.there
      obtain ⟨_, o', e', hnf⟩ := fl3.2.2.1.mem hm
      rw [e] at e'; cases e'
      exact hnf _ dd
    exact hds_run hs hf hN tk hh (s := { s' with heap := h3 }) ⟨J, nb, up.trans up3, os, ag, na, fl3, frm⟩ w
  · cases f with
    | next => obtain ⟨σ', H', J', q⟩ := hsp; exact wpAny_execs_nil ⟨σ', H', J'.ofTry ok, q⟩
    | brk => obtain ⟨σ', H', J', q⟩ := hsp; exact ⟨σ', H', J'.ofTry ok, q⟩
    | cont => obtain ⟨σ', H', J', q⟩ := hsp; exact ⟨σ', H', J'.ofTry ok, q⟩
    | ret u => obtain ⟨v, σ', H', J', r, q⟩ := hsp; exact ⟨v, σ', H', J'.ofTry ok, r, q⟩
end
end L2

set_option Elab.async false
set_option linter.all false
set_option maxRecDepth 100000
set_option maxHeartbeats 2000000
set_option autoImplicit true
/-! SatY: raising; calls, makings and methods that may raise; sequences of either kind -/
namespace Sat
open PySem PySem.Spec PyProof.Rows L2
open Evl (Ex)
/-! ### an own exception with one field, a number -/
def sp_xi (C : Addr) (f : Str) : Sp := fun vs H Q _ => ∃ (a : Addr) (i : Int), vs = [.ref a, .int i] ∧ i.natAbs.log2 < 1920 ∧ H a = some (exo a C none) ∧
  ∀ dx, H dx = none → dx ≠ a → Q .non (upd (upd H dx (exd dx [(f, .int i)])) a (exo a C (some dx)))
theorem sp_xi_len {C f vs H Q E} (h : sp_xi C f vs H Q E) : vs.length = 2 := by obtain ⟨_, _, rfl, _⟩ := h; rfl
/-- the class x at C with the field f -/
structure XCl (P : Program) (w : World) (K : PySem.W.Frag) (mg : Str → Option Value) (base : Heap) (x : Str) (C : Addr) (f : Str) : Prop where
  ex : OexC K C
  no : PySem.W.findIn K (.ref C) f = some none
  g : mg x = some (.ref C)
  ini : ∃ fI fd ps, PySem.W.findIn K (.ref C) "__init__" = some (some (.ref fI)) ∧ PySem.W.typeIn K (.ref fI) = some (.type "function") ∧ FnOk P w K mg base CX0 1 fI fd ps (sp_xi C f) ∧ Binds K fd ps []
def tRaiseX (C : Addr) (f : Str) (W : WX) (te : TE) : TS := fun _ σ H => tMkO C (sp_xi C f) [] (tCons te tNil) σ H fun cls d H' => W cls d σ H'
theorem upd_del {H1 : Hp} {a d : Addr} {o o' u u2 : HO} (na : H1 a = none) (nd : d ≠ a) : upd (del (upd (upd (upd H1 a o) d o') a u) a) d u2 = upd H1 d u2 := by
  funext b
  by_cases hd : b = d
  · rw [hd, upd_same, upd_same]
  · rw [upd_ne hd, upd_ne hd]
    by_cases ha : b = a
    · rw [ha, del_same, na]
    · rw [del_ne ha, upd_ne ha, upd_ne hd, upd_ne ha]
section
variable {X : Cx} {e : Expr} {es : List Expr} {ta : TA} {C : Addr} {p pos : Pos}
/-- a new own exception, its context None -/
theorem pmk_oexN {CX : CXT} {x : Str} {fI : Addr} {k : Nat} {fd : FuncData} {ps : List Str} {sp : Sp} {ds : List Value} {dvs : List V} (T : OexC X.K C) (iC : PySem.W.findIn X.K (.ref C) "__init__" = some (some (.ref fI))) (tI : PySem.W.typeIn X.K (.ref fI) = some (.type "function"))
    (F1 : FnOk X.prog X.w X.K X.mg X.base CX k fI fd ps sp) (hr : Room (k + 1) X.A) (hb : Binds X.K fd ps ds) (hd : Vals dvs ds) (hx : Passes CX X (fun _ _ _ => False)) (hg : Gl X x) (hm : X.mg x = some (.ref C)) (ha : PA X (e :: es) ta)
    (hdb : (x == ("__debug__" : Str)) = false := by decide) (he : starEach (e :: es) X.env = (false, eval e X.env) :: starEach es X.env := by rfl) (hpl : (backTo pos (starEach es X.env)).any (·.1) = false := by rfl) :
    L2N.PMk X (.Call (.Name x p) (e :: es) [] pos) (tMkO C sp dvs ta) := by
  intro pins s σ H Q I h
  obtain ⟨nm, q, N, bs, bm, sn, sub, ab, col, dd, k0, k1, k2, k3, k5, hC, hbm⟩ := T.cls
  refine wpAny_Call_Name_kw (ld_glob I hg hm ?_ hdb)
  refine PySem.W.callWith_K (h₀ := X.base) I.ok.mod.kin T.kC (thn (ha.run pos pins s σ H _ I h) fun us s1 ⟨vs, H1, I1, r1, hz, q1⟩ => ⟨I1.kIn, ?_⟩) he hpl
  show wpAny _ _ (call (.ref C) us) _ _ _
  obtain ⟨hp, g, dr, tk, os⟩ := s1
  have le1 : hp.objs.size ≤ hp.objs.size + 1 := Nat.le_succ _
  have q2 := q1 (hp.objs.size + 1) (I1.hok.fresh le1)
  have kp : ∀ b o, hp.get? b = some o → ((hp.push (PySem.W.kdv_tup us)).push (PySem.HandSPX.excO C hp.objs.size)).get? b = some o := fun b o z => Heap.get?_push_of_some _ (Heap.get?_push_of_some _ z)
  have I2 : Inv X pins σ (upd H1 (hp.objs.size + 1) (exo (hp.objs.size + 1) C none)) ⟨(hp.push (PySem.W.kdv_tup us)).push (PySem.HandSPX.excO C hp.objs.size), g, dr, tk, os⟩ :=
    I1.laid (t' := tk) (a := hp.objs.size + 1) (o := exo (hp.objs.size + 1) C none) (h' := (hp.push (PySem.W.kdv_tup us)).push (PySem.HandSPX.excO C hp.objs.size)) kp le1 (exo_ok (by heap_get))
  have r2 : Vals (V.ref (hp.objs.size + 1) :: (vs ++ dvs)) (Value.ref (hp.objs.size + 1) :: (us ++ ds)) := .cons rfl (r1.append hd)
  have hl : (Value.ref (hp.objs.size + 1) :: us ++ ds).length = ps.length := by
    have z := r2.length
    rw [F1.len _ _ _ _ q2] at z
    exact z.symm
  have hus : us.length ≤ sizeLine := by
    have z := Paired.length r1
    have z1 := hz
    rw [sizeLine_eq]
    omega
  refine wpAny_call (PySem.HandSPX.call_own F.excBase_ValueError (fun Y => PySem.HandSPX.refsVE_contains Y bm hbm) (I1.kIn _ _ hC) (PySem.W.looks_findIn I1.kIn iC) (fun self => PySem.W.bind_fn I1.kIn self tI) hus
    (codeAny_mono (F1.run _ X.stack _ _ ⟨Value.ref (hp.objs.size + 1) :: us, []⟩ (Value.ref (hp.objs.size + 1) :: (us ++ ds)) _ _ (fun _ _ _ => False) (hr.make C us []) (I2.env0.make C us []) (hb _ (Value.ref (hp.objs.size + 1) :: us) I2.kIn hl) r2 q2) fun r s' hq => ?_))
  cases r with
  | error er => exact hx pins σ _ _ er s' I2 hq
  | ok fl =>
    cases fl with
    | ret u =>
      obtain ⟨v, H2, os2, bare2, un2, hok2, rv, ev, d, fs, ea, ed, hd1, q3⟩ := hq
      subst ev
      obtain ⟨h2, g2, d2, t2, os'⟩ := s'
      obtain ⟨t0, G, J, kG, ge, hoe, na⟩ := mk_end0 (d2 := d2) (t2 := t2) I1 le1 kp un2 hok2 os2 bare2 ea ed hd1
      exact ⟨rv, _, _, _, ⟨G, g2, d2, t2, os'⟩, _, .ref C, some d, rfl, J, kG, ge, hoe, ⟨rfl, rfl, fun vs h => by cases h; rfl⟩, rfl, rfl, na, rfl, bare2, raises_own T.exC T.tyC, q3⟩
    | next => exact False.elim hq
    | brk => exact False.elim hq
    | cont => exact False.elim hq
end
section
variable {X : Cx} {W : WX} {x f : Str} {C : Addr} {e : Expr} {te : TE} {p pos pos2 : Pos} {j : Nat}
theorem ps_raiseX (T : XCl X.prog X.w X.K X.mg X.base x C f) (tk : L2N.Takes X W) (he : PE X e te) (hr : Room j X.A) (hc : X.calm = true := by rfl) (hj : 2 ≤ j := by decide) (hg : Gl X x := by rfl) (hdb : (x == ("__debug__" : Str)) = false := by decide)
    (hs : starEach (e :: []) X.env = (false, eval e X.env) :: starEach [] X.env := by rfl) (hpl : (backTo pos (starEach [] X.env)).any (·.1) = false := by rfl) :
    PS X (.Raise (some (.Call (.Name x p) [e] [] pos)) none pos2) (tRaiseX C f W te) := by
  obtain ⟨fI, fd, ps, i1, i2, i3, i4⟩ := T.ini
  exact L2N.ps_raise (pos := pos2) hc tk (pmk_oexN (X := X) (x := x) (C := C) (dvs := []) (pos := pos) (p := p) T.ex i1 i2 i3 (hr.mono hj) i4 .nil pass0 hg T.g (pa_cons he pa_nil hs) hdb hs hpl)
end
section
variable {As : List A} {σ : L2.St} {H : Hp} {W : WX} {C : Addr} {f : Str} {te : TE} {i : Int} {nx : L2.St → Hp → Prop} {rt : VK} {bk ct : L2.St → Hp → Prop}
abbrev xo (d : Addr) (f : Str) (v : V) : A := pt d (.xd [(f, v)])
theorem g_raiseX (s : sat As H) (e : E1 te σ H (.int i)) (hi : i.natAbs.log2 < 1920) (k : ∀ d H', sat (xo d f (.int i) :: As) H' → W (.ref C) (some d) σ H') : tRaiseX C f W te ⟨nx, rt, bk, ct⟩ σ H := by
  refine e _ ⟨by show 1 ≤ 1000; omega, fun a na => ⟨a, i, rfl, hi, upd_same, fun dx nd ne => ?_⟩⟩
  have nd' : H dx = none := by rw [upd_ne ne] at nd; exact nd
  refine ⟨rfl, dx, _, upd_same, by rw [upd_ne ne, upd_same], nd', ?_⟩
  rw [upd_del na ne]
  exact k dx _ (s.newP nd')
end
/-! ### the __init__ of such a class -/
theorem tMkO_ok {C : Addr} {f : Str} : True := trivial

/-! ### calls of defs that may raise -/
section
variable {X : Cx} {W : WX} {k j : Nat} {ps ks : List Str} {sp : Sp} {x m : Str} {p pos apos : Pos} {e o : Expr} {es : List Expr} {kws : List Keyword} {ta : TE} {t tk : TA} {f C : Addr} {fd : FuncData}
theorem run_fnA {pins : List (Addr × Obj)} {σ : L2.St} {H : Hp} {s : Shared} {Q : VK} {us ws : List Value} {kw : List (Str × Value)} {vs : List V} (F : FnOk X.prog X.w X.K X.mg X.base (L2N.CX X.prog X.w) k f fd ps sp) (hr : Room k X.A) (hb : BindsTo s fd ⟨us, kw⟩ (ps.zip ws))
    (tk : L2N.Takes X W) (I : Inv X pins σ H s) (r : Vals vs ws) (h : sp vs H Q (WE W σ)) : wpAny (model X.prog X.w) X.A (call (.ref f) us kw) (EP X pins σ Q) X.xe s := by
  refine wpAny_call (codeAny_mono (F.run X.A X.stack s H ⟨us, kw⟩ ws vs Q (WE W σ) hr I.env0 hb r h) fun r s' hq => ?_)
  cases r with
  | error e => exact L2N.passAt tk σ pins H s e s' I hq
  | ok fl =>
    cases fl with
    | ret u => exact I.after hq
    | next => exact False.elim hq
    | brk => exact False.elim hq
    | cont => exact False.elim hq
theorem pe_fS (c : Cal X.prog X.w X.K X.mg X.base (L2N.CX X.prog X.w) k x ps sp) (hr : Room j X.A) (tk : L2N.Takes X W) (ha : PA X (e :: es) t) (hg : Gl X x := by rfl) (hkj : k ≤ j := by decide) (hdb : (x == ("__debug__" : Str)) = false := by decide)
    (he : starEach (e :: es) X.env = (false, eval e X.env) :: starEach es X.env := by rfl) (hpl : (backTo pos (starEach es X.env)).any (·.1) = false := by rfl) : PE X (.Call (.Name x p) (e :: es) [] pos) (tCallS sp (WE W) t) :=
  pe_callS c.ok (hr.mono hkj) hg c.g c.kp c.b (fun σ => L2N.passAt tk σ) ha hdb he hpl
theorem pe_fKS (c : Cal X.prog X.w X.K X.mg X.base (L2N.CX X.prog X.w) k x ps sp) (hb : KAll X.K c.fd ps) (hr : Room j X.A) (tk : L2N.Takes X W) (hkw : PK X kws t) (hg : Gl X x := by rfl) (hkj : k ≤ j := by decide) (hall : (backToKw pos (keywordEach kws X.env)).all (·.1.isSome) = true := by rfl)
    (hks : (backToKw pos (keywordEach kws X.env)).filterMap (·.1) = ps := by rfl) (hdb : (x == ("__debug__" : Str)) = false := by decide)
    (hpl : ((backTo pos (starEach [] X.env)).any (·.1) || (backToKw pos (keywordEach kws X.env)).any (·.1.isNone)) = false := by rfl) : PE X (.Call (.Name x p) [] kws pos) (tCallS sp (WE W) t) := by
  refine ⟨fun pins s σ H Q I h => ?_⟩
  refine wpAny_Call_Name_kw (ld_glob I hg c.g ?_ hdb)
  refine PySem.W.callWith_KW0 (h₀ := X.base) I.ok.mod.kin c.kp hall ?_ hpl
  refine thn (hkw.run pos pins s σ H _ I h) fun ws s2 ⟨zs, H2, I2, rz, q2⟩ => ⟨I2.kIn, ?_⟩
  rw [hks]
  have hl : ws.length = ps.length := by rw [← rz.length]; exact c.ok.len _ _ _ _ q2
  exact run_fnA c.ok (hr.mono hkj) (hb s2 ws I2.kIn hl) tk I2 rz q2

/-! ### new instances -/
/-- a class of the module that is called: what its __init__ promises -/
structure Mkr (P : Program) (w : World) (K : PySem.W.Frag) (mg : Str → Option Value) (base : Heap) (k : Nat) (x : Str) (C : Addr) (ps : List Str) (sp : Sp) where
  f : Addr
  fd : FuncData
  mk_ : Mk K C f
  ok : FnOk P w K mg base (L2N.CX P w) k f fd ps sp
  g : mg x = some (.ref C)
def tMakeS (C : Addr) (sp : Sp) (dvs : List V) (E : L2.St → XK) (t : TA) : TE := fun σ H Q => t σ H fun vs H1 => ∀ x dx, H1 x = none → H1 dx = none → dx ≠ x →
  sp (.ref x :: (vs ++ dvs)) (upd (upd H1 dx (.own x)) x (.ins C dx [])) (fun v H2 => v = .non ∧ Q (.ref x) H2) (E σ)
theorem run_mkA {pins : List (Addr × Obj)} {σ : L2.St} {H : Hp} {s : Shared} {Q : VK} {us ws : List Value} {kw : List (Str × Value)} {vs : List V} (M : Mk X.K C f) (F : FnOk X.prog X.w X.K X.mg X.base (L2N.CX X.prog X.w) k f fd ps sp) (hr : Room (k + 1) X.A)
    (hb : ∀ (x : Value) (s' : Shared), X.K.In s'.heap → BindsTo s' fd ⟨x :: us, kw⟩ (ps.zip (x :: ws))) (tk : L2N.Takes X W) (I : Inv X pins σ H s) (r : Vals vs ws)
    (h : ∀ x dx, H x = none → H dx = none → dx ≠ x → sp (.ref x :: vs) (upd (upd H dx (.own x)) x (.ins C dx [])) (fun v H2 => v = .non ∧ Q (.ref x) H2) (WE W σ)) :
    wpAny (model X.prog X.w) X.A (call (.ref C) us kw) (EP X pins σ Q) X.xe s := by
  have hq := h (s.heap.objs.size + 1) s.heap.objs.size (I.hok.fresh (Nat.le_succ _)) (I.hok.fresh (Nat.le_refl _)) (Nat.ne_of_lt (Nat.lt_succ_self _))
  have I2 := Inv.made (C := C) I
  have r2 : Vals (V.ref (s.heap.objs.size + 1) :: vs) (Value.ref (s.heap.objs.size + 1) :: ws) := .cons rfl r
  refine wpAny_call (make_map (f := f) I.kIn M.makes M.init (beq_iff_eq.mp M.fn) (codeAny_mono (F.run _ X.stack _ _ ⟨Value.ref (s.heap.objs.size + 1) :: us, kw⟩ (Value.ref (s.heap.objs.size + 1) :: ws) _ _ (WE W σ) (hr.make C us kw)
    (I2.env0.make C us kw) (hb _ _ I2.kIn) r2 hq) fun r s' hq' => ?_))
  cases r with
  | error e => exact L2N.passAt tk σ pins _ _ e s' I2 hq'
  | ok fl =>
    cases fl with
    | ret u =>
      obtain ⟨v, H', I3, rv, ev, q3⟩ := I2.after hq'
      subst ev
      exact ⟨rv, ⟨V.ref (s.heap.objs.size + 1), H', I3, rfl, q3⟩⟩
    | next => exact False.elim hq'
    | brk => exact False.elim hq'
    | cont => exact False.elim hq'
theorem pe_mkS {dvs : List V} {ds : List Value} (c : Mkr X.prog X.w X.K X.mg X.base k x C ps sp) (hb : Binds X.K c.fd ps ds) (hd : Vals dvs ds) (hr : Room j X.A) (tk : L2N.Takes X W) (ha : PA X (e :: es) t) (hg : Gl X x := by rfl) (hkj : k + 1 ≤ j := by decide) (hdb : (x == ("__debug__" : Str)) = false := by decide)
    (hl : ∀ vs H Q E, sp vs H Q E → vs.length = ps.length)
    (he : starEach (e :: es) X.env = (false, eval e X.env) :: starEach es X.env := by rfl) (hpl : (backTo pos (starEach es X.env)).any (·.1) = false := by rfl) : PE X (.Call (.Name x p) (e :: es) [] pos) (tMakeS C sp dvs (WE W) t) := by
  refine ⟨fun pins s σ H Q I h => ?_⟩
  refine wpAny_Call_Name_kw (ld_glob I hg c.g ?_ hdb)
  refine PySem.W.callWith_K (h₀ := X.base) I.ok.mod.kin c.mk_.kp (thn (ha.run pos pins s σ H _ I h) fun us s1 ⟨vs, H1, I1, r, q⟩ => ⟨I1.kIn, ?_⟩) he hpl
  have z := q (s1.heap.objs.size + 1) s1.heap.objs.size (I1.hok.fresh (Nat.le_succ _)) (I1.hok.fresh (Nat.le_refl _)) (Nat.ne_of_lt (Nat.lt_succ_self _))
  have l1 := hl _ _ _ _ z
  have rr := r.append hd
  refine run_mkA (vs := vs ++ dvs) (ws := us ++ ds) c.mk_ c.ok (hr.mono hkj) (fun y s' X' => ?_) tk I1 rr q
  refine hb s' (y :: us) X' ?_
  have := rr.length
  simp only [List.length_cons, List.cons_append] at l1 ⊢
  omega
/-- keywords only, in the parameters' order behind self -/
theorem pe_mkKS {s0 : Str} (c : Mkr X.prog X.w X.K X.mg X.base k x C (s0 :: ks) sp) (hb : ∀ (y : Value) (ws : List Value) (s' : Shared), X.K.In s'.heap → ws.length = ks.length → BindsTo s' c.fd ⟨[y], ks.zip ws⟩ (s0 :: ks |>.zip (y :: ws))) (hr : Room j X.A) (tk : L2N.Takes X W) (hkw : PK X kws t) (hl : ∀ vs H Q E, sp vs H Q E → vs.length = (s0 :: ks).length)
    (hg : Gl X x := by rfl) (hkj : k + 1 ≤ j := by decide) (hall : (backToKw pos (keywordEach kws X.env)).all (·.1.isSome) = true := by rfl)
    (hks : (backToKw pos (keywordEach kws X.env)).filterMap (·.1) = ks := by rfl) (hdb : (x == ("__debug__" : Str)) = false := by decide)
    (hpl : ((backTo pos (starEach [] X.env)).any (·.1) || (backToKw pos (keywordEach kws X.env)).any (·.1.isNone)) = false := by rfl) : PE X (.Call (.Name x p) [] kws pos) (tMakeS C sp [] (WE W) t) := by
  refine ⟨fun pins s σ H Q I h => ?_⟩
  refine wpAny_Call_Name_kw (ld_glob I hg c.g ?_ hdb)
  refine PySem.W.callWith_KW0 (h₀ := X.base) I.ok.mod.kin c.mk_.kp hall ?_ hpl
  refine thn (hkw.run pos pins s σ H _ I h) fun ws s2 ⟨zs, H2, I2, rz, q2⟩ => ⟨I2.kIn, ?_⟩
  rw [hks]
  have z := q2 (s2.heap.objs.size + 1) s2.heap.objs.size (I2.hok.fresh (Nat.le_succ _)) (I2.hok.fresh (Nat.le_refl _)) (Nat.ne_of_lt (Nat.lt_succ_self _))
  have l1 := hl _ _ _ _ z
  rw [List.append_nil] at l1
  refine run_mkA (us := []) (vs := zs) c.mk_ c.ok (hr.mono hkj) (fun y s' X' => hb y ws s' X' ?_) tk I2 rz fun x dx h1 h2 h3 => by
    have q := q2 x dx h1 h2 h3
    rw [List.append_nil] at q
    exact q
  have := rz.length
  simp only [List.length_cons] at l1
  omega

/-! ### methods -/
structure Mtd (P : Program) (w : World) (K : PySem.W.Frag) (mg : Str → Option Value) (base : Heap) (k : Nat) (C : Addr) (m : Str) (ps : List Str) (sp : Sp) where
  f : Addr
  fd : FuncData
  cls : Cls K C
  at_ : Meth K C m f
  ok : FnOk P w K mg base (L2N.CX P w) k f fd ps sp
  b : Binds K fd ps []
def tMethS (C : Addr) (m : Str) (sp : Sp) (E : L2.St → XK) (ta : TE) (t : TA) : TE := fun σ H Q => ta σ H fun x H1 => ∃ a dx fs, x = .ref a ∧ H1 a = some (.ins C dx fs) ∧ fs.lookup m = none ∧ t σ H1 fun vs H2 => sp (x :: vs) H2 Q (E σ)
theorem pe_mS {pl : Sem Bool} (c : Mtd X.prog X.w X.K X.mg X.base k C m ps sp) (hr : Room j X.A) (tk : L2N.Takes X W) (ho : PE X o ta) (ha : PA X (e :: es) t) (hkj : k ≤ j := by decide)
    (hst : starEach (e :: es) X.env = (false, eval e X.env) :: starEach es X.env := by rfl) (hpl : (backTo pos (starEach es X.env)).any (·.1) = false := by rfl)
    (ht : eval (.Call (.Attribute o m apos) (e :: es) [] pos) X.env = (do
      let ov ← eval o X.env
      standAt apos.atName
      let (f, first) ← holding [ov] (getMethod ov m pl)
      callWith pos f first (backTo pos (starEach (e :: es) X.env)) (backToKw pos (keywordEach [] X.env))) := by rfl) :
    PE X (.Call (.Attribute o m apos) (e :: es) [] pos) (tMethS C m sp (WE W) ta t) := by
  refine ⟨fun pins s σ H Q I h => ?_⟩
  refine PySem.W.methodCall_KW (pl := pl) (thn (ho.run pins s σ H _ I h) fun u s1 ⟨x, H1, I1, rx, a, dx, fs, ex, ea, l, q⟩ => ?_) ht
  subst ex
  obtain rfl : u = Value.ref a := rx
  refine getmeth_ok I1 ea c.cls c.at_ l ?_
  refine PySem.W.callWith_K (first := [.ref a]) (h₀ := X.base) I.ok.mod.kin c.at_.kp (thn (ha.run pos pins s1 σ H1 _ I1 q) fun us s2 ⟨vs, H2, I2, r, q2⟩ => ⟨I2.kIn, ?_⟩) hst hpl
  have r2 : Vals (V.ref a :: vs) (Value.ref a :: us) := .cons rfl r
  have hl : (Value.ref a :: us).length = ps.length := by rw [← r2.length]; exact c.ok.len _ _ _ _ q2
  refine run_fnA (us := .ref a :: us) (vs := .ref a :: vs) c.ok (hr.mono hkj) ?_ tk I2 r2 q2
  have b := c.b s2 (.ref a :: us) I2.kIn (by rw [List.append_nil]; exact hl)
  rw [List.append_nil] at b
  exact b
theorem pe_m0S {pl : Sem Bool} (c : Mtd X.prog X.w X.K X.mg X.base k C m ps sp) (hr : Room j X.A) (tk : L2N.Takes X W) (ho : PE X o ta) (hkj : k ≤ j := by decide)
    (ht : eval (.Call (.Attribute o m apos) [] [] pos) X.env = (do
      let ov ← eval o X.env
      standAt apos.atName
      let (f, first) ← holding [ov] (getMethod ov m pl)
      callWith pos f first (backTo pos (starEach [] X.env)) (backToKw pos (keywordEach [] X.env))) := by rfl) :
    PE X (.Call (.Attribute o m apos) [] [] pos) (tMethS C m sp (WE W) ta tNil) := by
  refine ⟨fun pins s σ H Q I h => ?_⟩
  refine PySem.W.methodCall_KW (pl := pl) (thn (ho.run pins s σ H _ I h) fun u s1 ⟨x, H1, I1, rx, a, dx, fs, ex, ea, l, q⟩ => ?_) ht
  subst ex
  obtain rfl : u = Value.ref a := rx
  refine getmeth_ok I1 ea c.cls c.at_ l ?_
  have r2 : Vals [V.ref a] [Value.ref a] := .cons rfl .nil
  have hl : ([Value.ref a] : List Value).length = ps.length := by rw [← r2.length]; exact c.ok.len _ _ _ _ q
  have b := c.b s1 [.ref a] I1.kIn (by rw [List.append_nil]; exact hl)
  rw [List.append_nil] at b
  exact PySem.W.callWith_K0 (first := [.ref a]) I1.kIn c.at_.kp (run_fnA (us := [.ref a]) (vs := [.ref a]) c.ok (hr.mono hkj) b tk I1 r2 q)
end
section
variable {X : Cx} {W : WX} {k j : Nat} {ps ks : List Str} {sp : Sp} {m : Str} {pos apos : Pos} {o : Expr} {kws : List Keyword} {ta : TE} {t : TA} {C : Addr}
/-- o.m(k = v, ..): keywords only, in the parameters' order behind self -/
theorem pe_mKS {pl : Sem Bool} {s0 : Str} (c : Mtd X.prog X.w X.K X.mg X.base k C m (s0 :: ks) sp) (hb : ∀ (y : Value) (ws : List Value) (s' : Shared), ws.length = ks.length → BindsTo s' c.fd ⟨[y], ks.zip ws⟩ ((s0 :: ks).zip (y :: ws))) (hr : Room j X.A) (tk : L2N.Takes X W) (ho : PE X o ta) (hkw : PK X kws t) (hkj : k ≤ j := by decide)
    (hall : (backToKw pos (keywordEach kws X.env)).all (·.1.isSome) = true := by rfl) (hks : (backToKw pos (keywordEach kws X.env)).filterMap (·.1) = ks := by rfl)
    (hpl : ((backTo pos (starEach [] X.env)).any (·.1) || (backToKw pos (keywordEach kws X.env)).any (·.1.isNone)) = false := by rfl)
    (ht : eval (.Call (.Attribute o m apos) [] kws pos) X.env = (do
      let ov ← eval o X.env
      standAt apos.atName
      let (f, first) ← holding [ov] (getMethod ov m pl)
      callWith pos f first (backTo pos (starEach [] X.env)) (backToKw pos (keywordEach kws X.env))) := by rfl) :
    PE X (.Call (.Attribute o m apos) [] kws pos) (tMethS C m sp (WE W) ta t) := by
  refine ⟨fun pins s σ H Q I h => ?_⟩
  refine PySem.W.methodCall_KW (pl := pl) (thn (ho.run pins s σ H _ I h) fun u s1 ⟨x, H1, I1, rx, a, dx, fs, ex, ea, l, q⟩ => ?_) ht
  subst ex
  obtain rfl : u = Value.ref a := rx
  refine getmeth_ok I1 ea c.cls c.at_ l ?_
  refine PySem.W.callWith_KW0 (first := [.ref a]) (h₀ := X.base) I.ok.mod.kin c.at_.kp hall ?_ hpl
  refine thn (hkw.run pos pins s1 σ H1 _ I1 q) fun ws s2 ⟨zs, H2, I2, rz, q2⟩ => ⟨I2.kIn, ?_⟩
  rw [hks]
  have r2 : Vals (V.ref a :: zs) (Value.ref a :: ws) := .cons rfl rz
  have hl : (Value.ref a :: ws).length = (s0 :: ks).length := by rw [← r2.length]; exact c.ok.len _ _ _ _ q2
  exact run_fnA (us := [.ref a]) (vs := .ref a :: zs) (ws := .ref a :: ws) c.ok (hr.mono hkj) (hb (.ref a) ws s2 (by simpa using hl)) tk I2 r2 q2
end
end Sat

set_option Elab.async false
set_option linter.all false
set_option maxRecDepth 100000
set_option maxHeartbeats 2000000
set_option autoImplicit true
/-! SupI: an own error class of one number, from its text: f'text {x}', f'{x} text', f'text {x} text' -/
namespace Sat
open PySem PySem.Spec PyProof.Rows L2 NdefX SupX
theorem xi_gen {pl : Env → Sem Bool} {P : Program} {w : World} {K : PySem.W.Frag} {mg : Str → Option Value} {base : Heap} {F : NF} {f D cc : Addr} {x : Str} {dV kV doc pm oc ct : Value} {an od : Option Addr} {osl : Array (Option Value)} {ar : Arg} {p0 p1 p2 p3 p4 pj q1 q2 q3 q4 : Pos} {v1 v2 : Expr} {rest : List Expr} {ts : List TE}
    (lk : K.lookup f = some ⟨oc, od, .func (PySem.W.fnX F.name F.qual F.params F.body F.scope F.cl dV kV doc pm an (.ref F.c) ct), osl⟩) (T : SupC P K mg D cc F.c) (hcl : F.cl = [(("__class__" : Str), cc)])
    (hb : F.body = [.Expr (.Call (.Attribute (.Call (.Name "super" p0) [] [] p1) "__init__" p2) [.JoinedStr (v1 :: v2 :: rest) pj] [] p3) p4, .Assign [.Attribute (.Name "self" q1) x q2] (.Name x q3) q4]) (hcd : PySem.W.codeIn K (.ref F.c) F.qual = true) (S : NScope [("self" : Str), x, ("__class__" : Str)] [("self" : Str), x] [("__class__" : Str)] F.scope)
    (hp : (F.params.posonlyargs ++ F.params.args).head? = some ar) (ha : ar.arg = "self") (hks : F.scope.names.lookup ("super" : Str) = some .globalImplicit) (hd : (x == ("__debug__" : Str)) = false) (hcdd : (x == ("__classdict__" : Str)) = false) (hno : PySem.W.findIn K (.ref D) x = some none)
    (hj : ∀ X : Cx, X.K = K → X.N = [("self" : Str), x, ("__class__" : Str)] → (Vis X.env.scope x) → PJ X (v1 :: v2 :: rest) ts)
    (hr : ∀ (a : Addr) (i : Int) (σ : L2.St) (H : Hp) (R : Str → Hp → Prop), σ[1]? = some (some (.int i)) → i.natAbs.log2 < 1920 → (∀ out, R out H) → tJs ts Str.empty σ H R)
    (hee : ∀ env : Env, eval (.Call (.Attribute (.Call (.Name "super" p0) [] [] p1) "__init__" p2) [.JoinedStr (v1 :: v2 :: rest) pj] [] p3) env = (do
      let ov ← attributeBase (.Call (.Name "super" p0) [] [] p1) "__init__" env (eval (.Call (.Name "super" p0) [] [] p1) env)
      standAt p2.atName
      let (f, first) ← holding [ov] (getMethod ov "__init__" (pl env))
      callWith p3 f first (backTo p3 (starEach [.JoinedStr (v1 :: v2 :: rest) pj] env)) []) := by intro env; rfl)
    (hsw : ∀ env : Env, swapsWith (.Call (.Attribute (.Call (.Name "super" p0) [] [] p1) "__init__" p2) [.JoinedStr (v1 :: v2 :: rest) pj] [] p3) none p4.line env = pure false := by intro env; rfl)
    (hst : ∀ env : Env, starEach [.JoinedStr (v1 :: v2 :: rest) pj] env = (false, eval (.JoinedStr (v1 :: v2 :: rest) pj) env) :: starEach [] env := by intro env; rfl) :
    FnOk P w K mg base CX0 1 f (PySem.W.fnX F.name F.qual F.params F.body F.scope F.cl dV kV doc pm an (.ref F.c) ct) [("self" : Str), x] (sp_xi D x) := by
  have hx : F.scope.names.lookup x = some .local := S.par x (by simp)
  have hsf : F.scope.names.lookup ("self" : Str) = some .local := S.par ("self" : Str) (by simp)
  refine fn_sup lk T hcl hb hcd S hp (by rw [ha]; rfl) hks (fun vs H Q E h => sp_xi_len h) (fun A outer s H vs Q E hrm h => ?_) hee hsw hst (fun _ => rfl)
  obtain ⟨a, i, rfl, hi, he, q⟩ := h
  refine ⟨a, _, _, rfl, he, pa_cons (pe_joined (hj _ rfl rfl (.inl hx))) pa_nil, pss_one (ps_ost (pe_var (i := 0) (x := "self") rfl (.inl hsf)) (pe_var (i := 1) (x := x) rfl (.inl hx) hd hcdd)), ?_⟩
  refine hr a i _ _ _ rfl hi fun out => ⟨by show 1 ≤ 1000; omega, he, ?_⟩
  exact ⟨_, rfl, _, rfl, a, D, rfl, T.ex, hno, .inl ⟨he, fun dx nd ne => q dx nd ne⟩⟩
end Sat

set_option Elab.async false
set_option linter.all false
set_option maxRecDepth 100000
set_option maxHeartbeats 1000000
/-! Same: what the laws' comparing def asks of data -/
namespace Sat
open PySem PySem.Spec PyProof.Rows L2
open Evl (Ex)
/-- data that may be compared -/
inductive okD : D → Prop
  | non : okD (.v .non)
  | bl (b : Bool) : okD (.v (.bl b))
  | int (i : Int) : okD (.v (.int i))
  | str (s : Str) : okD (.v (.str s))
  | lst {ds : List D} : (∀ d ∈ ds, okD d) → okD (.lst ds)
  | tup {ds : List D} : (∀ d ∈ ds, okD d) → okD (.tup ds)
def tyN : D → String
  | .lst _ => "list"
  | .tup _ => "tuple"
  | .v .non => "NoneType"
  | .v (.bl _) => "bool"
  | .v (.int _) => "int"
  | .v (.str _) => "str"
  | _ => ""
def isiS (t n : String) : Bool := t == n || (t == "bool" && n == "int")
def isi (d : D) (n : String) : Bool := isiS (tyN d) n
theorem kitS : ∀ t ∈ ["list", "tuple", "NoneType", "bool", "int", "str"], ∀ n ∈ ["list", "tuple", "bool", "int", "str"], kitB t n = some (isiS t n) := by decide +kernel
theorem tyN_mem {d : D} (h : okD d) : tyN d ∈ ["list", "tuple", "NoneType", "bool", "int", "str"] := by cases h <;> simp [tyN]
def kids : D → List D
  | .lst ds => ds
  | .tup ds => ds
  | _ => []
def lev (d : D) : Nat → List D
  | 0 => [d]
  | n + 1 => (lev d n).flatMap kids
theorem lev_ok {d : D} (h : okD d) : ∀ n, ∀ e ∈ lev d n, okD e
  | 0, e, he => by rw [List.mem_singleton.mp he]; exact h
  | n + 1, e, he => by
    obtain ⟨f, h1, h2⟩ := List.mem_flatMap.mp he
    cases lev_ok h n f h1 with
    | lst k => exact k e h2
    | tup k => exact k e h2
    | non => cases h2
    | bl => cases h2
    | int => cases h2
    | str => cases h2
section
variable {K : PySem.W.Frag} {As : List A} {H : Hp} {σ : L2.St} {x y v : V} {d : D}
theorem kit_isi {K : PySem.W.Frag} (h : okD d) {n : String} (hn : n ∈ ["list", "tuple", "bool", "int", "str"]) : PySem.W.kitOne K (.type (tyN d)) (.type n) = some (isi d n) := kit_ty (kitS _ (tyN_mem h) n hn)
theorem ty_of (s : sat As H) (e : Ent As H x d) (h : okD d) : TyX K H x (.type (tyN d)) := by
  cases h with
  | non => obtain rfl := s.flat e; exact .base .non
  | bl b => obtain rfl := s.flat e; exact .base (.bl b)
  | int i => obtain rfl := s.flat e; exact .base (.int i)
  | str z => obtain rfl := s.flat e; exact .base (.str z)
  | lst k =>
    cases s.of e with
    | lst h1 h2 => exact .base (.lst h1)
  | tup k =>
    cases s.of e with
    | tup h1 h2 => exact .base (.tup h1)
theorem e_isi {i : Nat} {n : String} (s : sat As H) (e : Ent As H x d) (h : okD d) (hv : σ[i]? = some (some x)) (hn : n ∈ ["list", "tuple", "bool", "int", "str"] := by decide) : E1 (tCB (rIsi K) (tCons (tVar i) (tCons (tC (.ty n)) tNil))) σ H (.bl (isi d n)) :=
  e_cb (e_cons (e_var hv) (e_cons e_c e_nil)) (c_isi (ty_of s e h) (kit_isi h hn))
theorem e_isiT {i : Nat} {n : String} {b : Bool} (s : sat As H) (e : Ent As H x d) (h : okD d) (hb : isiS (tyN d) n = b) (hv : σ[i]? = some (some x) := by rfl) (hn : n ∈ ["list", "tuple", "bool", "int", "str"] := by decide) : E1 (tCB (rIsi K) (tCons (tVar i) (tCons (tC (.ty n)) tNil))) σ H (.bl b) :=
  e_is (e_isi s e h hv hn) (by rw [← hb]; rfl)
theorem s_ll : isiS "list" "list" = true := by decide
theorem s_lt : isiS "list" "tuple" = false := by decide
theorem s_tl : isiS "tuple" "list" = false := by decide
theorem s_tt : isiS "tuple" "tuple" = true := by decide
theorem s_nl : isiS "NoneType" "list" = false := by decide
theorem s_nt : isiS "NoneType" "tuple" = false := by decide
theorem s_bl : isiS "bool" "list" = false := by decide
theorem s_bt : isiS "bool" "tuple" = false := by decide
theorem s_bb : isiS "bool" "bool" = true := by decide
theorem s_bi : isiS "bool" "int" = true := by decide
theorem s_il : isiS "int" "list" = false := by decide
theorem s_it : isiS "int" "tuple" = false := by decide
theorem s_ib : isiS "int" "bool" = false := by decide
theorem s_ii : isiS "int" "int" = true := by decide
theorem s_sl : isiS "str" "list" = false := by decide
theorem s_st : isiS "str" "tuple" = false := by decide
theorem s_sb : isiS "str" "bool" = false := by decide
theorem s_si : isiS "str" "int" = false := by decide
theorem s_ss : isiS "str" "str" = true := by decide
def prs (es : List D) : List D := es.map fun e => .tup [e, e]
theorem prs_len (es : List D) : (prs es).length = es.length := List.length_map ..
theorem prs_app (es fs : List D) : prs (es ++ fs) = prs es ++ prs fs := List.map_append
theorem prs_get {es : List D} {j : Nat} {p : D} (h : (prs es)[j]? = some p) : ∃ e, es[j]? = some e ∧ p = .tup [e, e] := by
  unfold prs at h
  rw [List.getElem?_map] at h
  cases q : es[j]? with
  | none => rw [q] at h; cases h
  | some e => rw [q] at h; cases h; exact ⟨e, rfl, rfl⟩
theorem flat_take_le {es : List D} (j : Nat) : ((es.take j).flatMap kids).length ≤ (es.flatMap kids).length := by
  have e : es.flatMap kids = (es.take j).flatMap kids ++ (es.drop j).flatMap kids := by rw [← List.flatMap_append, List.take_append_drop]
  rw [e, List.length_append]
  omega
theorem flat_snoc {es : List D} {j : Nat} {e : D} (h : es[j]? = some e) : (es.take (j + 1)).flatMap kids = (es.take j).flatMap kids ++ kids e := by
  rw [takeS h, List.flatMap_append]
  simp
theorem lev_le {d : D} {n : Nat} (h : lev d n = []) : ∀ {i : Nat}, n ≤ i → lev d i = []
  | 0, hi => by
    have : n = 0 := by omega
    subst this; exact h
  | i + 1, hi => by
    by_cases e : n = i + 1
    · rw [← e]; exact h
    · show (lev d i).flatMap kids = []
      rw [lev_le h (by omega)]
      rfl
theorem refL (s : sat As H) {ds : List D} (e : Ent As H x (.lst ds)) : ∃ a, x = .ref a := by
  cases s.of e with
  | lst _ _ => exact ⟨_, rfl⟩
theorem refT (s : sat As H) {ds : List D} (e : Ent As H x (.tup ds)) : ∃ a, x = .ref a := by
  cases s.of e with
  | tup _ _ => exact ⟨_, rfl⟩
/-- a, b = a pair -/
theorem g_pair {i j : Nat} {d1 d2 : D} {Q : L2.St → Hp → Prop} (s : sat As H) (e : Ent As H v (.tup [d1, d2])) (k : ∀ x y, sat (.rp x d1 :: .rp y d2 :: As) H → Q ((σ.set i (some x)).set j (some y)) H) : gTup K 2 (gCons (gName i) (gCons (gName j) gNil)) v σ H Q := by
  obtain ⟨a, rfl⟩ := refT s e
  obtain ⟨xs, h1, h2, h3⟩ := s.rtv e
  obtain ⟨x, y, rfl⟩ : ∃ x y, xs = [x, y] := by
    cases xs with
    | nil => cases h2
    | cons x xs =>
      cases xs with
      | nil => cases h2
      | cons y xs =>
        cases xs with
        | nil => exact ⟨x, y, rfl⟩
        | cons _ _ => cases h2
  have ex : Ent As H x d1 := h3.get (i := 0) rfl rfl
  have ey : Ent As H y d2 := h3.get (i := 1) rfl rfl
  have s1 := s.rp ey
  have s2 := s1.rp (x := x) (d := d1) (fun F q => ex F ⟨q.ex, fun z hz => q.ok z (List.mem_cons_of_mem _ hz), fun i j x y a e1 e2 a1 a2 => by
    have := q.inj (i + 1) (j + 1) x y a (by rw [List.getElem?_cons_succ]; exact e1) (by rw [List.getElem?_cons_succ]; exact e2) a1 a2
    omega⟩)
  exact ⟨a, [x, y], rfl, .inl (.inl h1), rfl, x, [y], rfl, y, [], rfl, rfl, k x y s2⟩
/-! how data of a few levels are bounded -/
theorem lev_flat {v : V} : lev (.v v) 1 = [] := rfl
theorem lev_flat_le {v : V} (k : Nat) : (lev (.v v) k).length ≤ 100000 := by
  cases k with
  | zero => show 1 ≤ 100000; omega
  | succ k => rw [lev_le (n := 1) rfl (by omega)]; exact Nat.zero_le _
theorem kids_flat : ∀ {es : List D}, (∀ e ∈ es, kids e = []) → es.flatMap kids = []
  | [], _ => rfl
  | e :: es, h => by
    rw [List.flatMap_cons, h e (List.mem_cons_self ..), kids_flat fun f hf => h f (List.mem_cons_of_mem _ hf)]
    rfl
theorem lev_ints {ns : List Int} : lev (dIs ns) 2 = [] := by
  show (([dIs ns] : List D).flatMap kids).flatMap kids = []
  rw [show ([dIs ns] : List D).flatMap kids = ns.map dI by simp [kids]]
  exact kids_flat fun e he => by
    obtain ⟨n, _, rfl⟩ := List.mem_map.mp he
    rfl
theorem lev_ints_le {ns : List Int} (h : ns.length ≤ 100000) (k : Nat) : (lev (dIs ns) k).length ≤ 100000 := by
  match k with
  | 0 => show 1 ≤ 100000; omega
  | 1 =>
    show (([dIs ns] : List D).flatMap kids).length ≤ 100000
    rw [show ([dIs ns] : List D).flatMap kids = ns.map dI by simp [kids], List.length_map]
    exact h
  | k + 2 => rw [lev_le lev_ints (by omega)]; exact Nat.zero_le _
theorem ok_ints {ns : List Int} : okD (dIs ns) := .lst fun d hd => by
  obtain ⟨n, _, rfl⟩ := List.mem_map.mp hd
  exact .int n
theorem vw_rp {a : Addr} {ds : List D} (s : sat As H) (w : Vw As a ds) : Rp H (.ref a) (.lst ds) := by
  obtain ⟨xs, h1, h2, h3⟩ := s.vw w
  obtain ⟨F, q⟩ := s
  exact .lst h1 ((h3 F q).mono q.ex)
end
end Sat

set_option Elab.async false
set_option linter.all false
set_option maxRecDepth 100000
set_option maxHeartbeats 2000000
set_option autoImplicit true
/-! SatZ: sequences of either kind; tuples taken apart; instances' fields; calls that may raise, read -/
namespace Sat
open PySem PySem.Spec PyProof.Rows L2
open Evl (Ex)
/-- an empty tuple of the program's own (a default) -/
def EmptyT (K : PySem.W.Frag) (a : Addr) : Prop := ∃ (o : Obj) (its : Array Value) (n : Nat), K.lookup a = some o ∧ o.cls = .type "tuple" ∧ o.data = .seq its n ∧ its.size ≤ sizeLine ∧ Vals [] its.toList
/-- a sequence in view: false a list, true a tuple -/
inductive Sv (K : PySem.W.Frag) (As : List A) (a : Addr) (ds : List D) : Bool → Prop
  | l : Vw As a ds → Sv K As a ds false
  | t (i : Nat) : As[i]? = some (.rp (.ref a) (.tup ds)) → Sv K As a ds true
  | k : ds = [] → EmptyT K a → Sv K As a ds true
section
variable {K : PySem.W.Frag} {As Fr : List A} {a p : Addr} {ds : List D} {b : Bool} {H : Hp}
theorem Sv.up {x : A} (h : Sv K As a ds b) : Sv K (x :: As) a ds b := by
  cases h with
  | l w => exact .l w.up
  | t i e => exact .t (i + 1) e
  | k e z => exact .k e z
def SqB (K : PySem.W.Frag) (H : Hp) (a : Addr) (xs : List V) : Bool → Prop
  | false => SqL K H a xs
  | true => SqT K H a xs
theorem sat.sv (s : sat As H) (w : Sv K As a ds b) : ∃ xs, SqB K H a xs b ∧ xs.length = ds.length ∧ EntA As H xs ds := by
  cases w with
  | l w =>
    obtain ⟨xs, h1, h2, h3⟩ := s.vw w
    exact ⟨xs, .inl (.inl h1), h2, h3⟩
  | t i e =>
    obtain ⟨xs, h1, h2, h3⟩ := s.rtv (.at i e)
    exact ⟨xs, .inl (.inl h1), h2, h3⟩
  | k e z =>
    obtain ⟨o, its, n, h1, h2, h3, h4, h5⟩ := z
    subst e
    exact ⟨[], .inr ⟨o, its, n, h1, h2, h3, h4, h5⟩, rfl, .nil⟩
def iSeq (K : PySem.W.Frag) (tl : TE) : TI := fun σ H R => tl σ H fun x H1 => ∃ a, x = .ref a ∧ (((∃ xs, SqL K H1 a xs) ∧ R (Itl K a) H1) ∨ ((∃ xs, SqT K H1 a xs) ∧ R (Itt K a) H1))
theorem pi_seq {X : Cx} {tg l : Expr} {tl : TE} (hl : PE X l tl) : PI X tg l (iSeq X.K tl) := by
  refine ⟨fun pins s σ H R I h => ?_⟩
  refine thn (hl.run pins s σ H _ I h) fun v s1 ⟨x, H1, I1, r1, a, e, q1⟩ => ?_
  subst e
  cases r1
  have fp : ∀ b ∈ ([s1.heap.objs.size] : List Addr), FpOk X pins H1 b := fun b hb => by
    have e : b = s1.heap.objs.size := by simpa using hb
    subst e
    exact I1.fpOk (Nat.le_refl _) (I1.hok.fresh (Nat.le_refl _))
  rcases q1 with ⟨⟨xs, hq⟩, q⟩ | ⟨⟨xs, hq⟩, q⟩
  · obtain ⟨its, rv, p, hz⟩ := I1.list hq
    refine wpAny_pyIter_list p.isList ?_
    exact ⟨s1.heap.objs.size, [s1.heap.objs.size], _, _, H1, rfl, I1.kept (t' := s1.toks) fun b o e => Heap.get?_push_of_some _ e, turn_list a _, ⟨_, Heap.get?_push_size _ rfl, rfl, rfl⟩, fp, q⟩
  · obtain ⟨its, rv, p, hz⟩ := I1.tuple hq
    refine wpAny_pyIter_tuple (show s1.heap.IsTuple a its.toArray from p) ?_
    exact ⟨s1.heap.objs.size, [s1.heap.objs.size], _, _, H1, rfl, I1.kept (t' := s1.toks) fun b o e => Heap.get?_push_of_some _ e, turn_tuple a _, ⟨_, Heap.get?_push_size _ rfl, rfl, rfl⟩, fp, q⟩
theorem pi_seqK {X : Cx} {tg l : Expr} {tl : TE} (hK : X.K = K) (h : PE X l tl) : PI X tg l (iSeq K tl) := by subst hK; exact pi_seq h
theorem sqT_inj {xs ys : List V} {H : Hp} (h1 : H a = some (.tup xs)) (h2 : SqT K H a ys) (hK : ∀ o, K.lookup a = some o → H a = none) : xs = ys := by
  rcases h2 with (h2 | h2) | ⟨o, _, _, e, _⟩
  · rw [h1] at h2; cases h2; rfl
  · exact absurd h2 (by rw [h1]; rintro ⟨_, z⟩; cases z)
  · rw [hK o e] at h1; cases h1
end
section
variable {K : PySem.W.Frag} {As : List A} {p : Addr} {ds : List D} {b : Bool} {H : Hp} {σ : L2.St} {tl : TE} {nx bk ct : L2.St → Hp → Prop} {rt : VK}
theorem x_forS {g : TG} {tb : TS} (s : sat As H) (w : Sv K As p ds b) (e : E1 tl σ H (.ref p)) (Pv : Nat → L2.St → Hp → Prop) (h0 : Pv 0 σ H) (hl : ∀ i σ H, i ≤ ds.length → Pv i σ H → ∃ As, sat As H ∧ Sv K As p ds b)
    (hs : ∀ i d x σ H, ds[i]? = some d → Pv i σ H → (∀ {As}, sat As H → Sv K As p ds b → Ent As H x d) → g x σ H fun σ2 H2 => tb ⟨Pv (i + 1), rt, nx, Pv (i + 1)⟩ σ2 H2) (hd : ∀ σ H, Pv ds.length σ H → nx σ H) : tFor (iSeq K tl) g tb ⟨nx, rt, bk, ct⟩ σ H := e _ ⟨p, rfl, by
  obtain ⟨xs, h1, _⟩ := s.sv w
  cases b with
  | false =>
    refine .inl ⟨⟨xs, h1⟩, fun i m σ H => m = ds.length - i ∧ i ≤ ds.length ∧ Pv i σ H, ⟨ds.length, by simp, Nat.zero_le _, h0⟩, ?_⟩
    rintro i m σ H ⟨rfl, hi, q⟩
    obtain ⟨As, s, w⟩ := hl i σ H hi q
    obtain ⟨xs, h1, h2, h3⟩ := s.sv w
    by_cases hlt : i < ds.length
    · have hx : i < xs.length := by omega
      refine .inr ⟨⟨xs, xs[i], h1, List.getElem?_eq_getElem hx⟩, Pv (i + 1), fun σ' H' p' => ⟨ds.length - (i + 1), by omega, rfl, hlt, p'⟩, fun x H' y => ?_⟩
      obtain ⟨e, y⟩ := y
      subst e
      exact hs i ds[i] x σ _ (List.getElem?_eq_getElem hlt) q fun {As} s' w' => by
        obtain ⟨ys, k1, k2, k3⟩ := s'.sv w'
        exact k3.get (y ys k1) (List.getElem?_eq_getElem hlt)
    · have e : i = ds.length := by omega
      subst e
      exact .inl ⟨⟨xs, h1, by omega⟩, hd σ H q⟩
  | true =>
    refine .inr ⟨⟨xs, h1⟩, fun i m σ H => m = ds.length - i ∧ i ≤ ds.length ∧ Pv i σ H, ⟨ds.length, by simp, Nat.zero_le _, h0⟩, ?_⟩
    rintro i m σ H ⟨rfl, hi, q⟩
    obtain ⟨As, s, w⟩ := hl i σ H hi q
    obtain ⟨xs, h1, h2, h3⟩ := s.sv w
    by_cases hlt : i < ds.length
    · have hx : i < xs.length := by omega
      refine .inr ⟨⟨xs, xs[i], h1, List.getElem?_eq_getElem hx⟩, Pv (i + 1), fun σ' H' p' => ⟨ds.length - (i + 1), by omega, rfl, hlt, p'⟩, fun x H' y => ?_⟩
      obtain ⟨e, y⟩ := y
      subst e
      exact hs i ds[i] x σ _ (List.getElem?_eq_getElem hlt) q fun {As} s' w' => by
        obtain ⟨ys, k1, k2, k3⟩ := s'.sv w'
        exact k3.get (y ys k1) (List.getElem?_eq_getElem hlt)
    · have e : i = ds.length := by omega
      subst e
      exact .inl ⟨⟨xs, h1, by omega⟩, hd σ H q⟩⟩
/-- for (i, x) in enumerate(xs) -/
theorem x_forE {ta : TA} {g : TG} {tb : TS} (s : sat As H) (w : Vw As p ds) (e : A1 ta σ H [.ref p]) (Pv : Nat → L2.St → Hp → Prop) (h0 : Pv 0 σ H) (hl : ∀ i σ H, i ≤ ds.length → Pv i σ H → ∃ As, sat As H ∧ Vw As p ds)
    (hs : ∀ i d T σ H H', ds[i]? = some d → Pv i σ H → (∀ {As}, sat As H → Vw As p ds → sat (.rp (.ref T) (.tup [dI (i : Int), d]) :: As) H') → g (.ref T) σ H' fun σ2 H2 => tb ⟨Pv (i + 1), rt, nx, Pv (i + 1)⟩ σ2 H2) (hd : ∀ σ H, Pv ds.length σ H → nx σ H) : tFor (iEnum K ta) g tb ⟨nx, rt, bk, ct⟩ σ H := by
  obtain ⟨xs, h1, _⟩ := s.vw w
  refine e _ ⟨p, xs, rfl, .inl (.inl h1), fun i m σ H => m = ds.length - i ∧ i ≤ ds.length ∧ Pv i σ H, ⟨ds.length, by simp, Nat.zero_le _, h0⟩, ?_⟩
  rintro i m σ H ⟨rfl, hi, q⟩
  obtain ⟨As, s, w⟩ := hl i σ H hi q
  obtain ⟨xs, h1, h2, h3⟩ := s.vw w
  by_cases hlt : i < ds.length
  · have hx : i < xs.length := by omega
    refine .inr ⟨⟨xs, xs[i], .inl (.inl h1), List.getElem?_eq_getElem hx⟩, Pv (i + 1), fun σ' H' p' => ⟨ds.length - (i + 1), by omega, rfl, hlt, p'⟩, fun v H' y => ?_⟩
    obtain ⟨T, x, rfl, hT, rfl, y⟩ := y
    refine hs i ds[i] T σ H _ (List.getElem?_eq_getElem hlt) q fun {As} s' w' => ?_
    obtain ⟨ys, k1, k2, k3⟩ := s'.vw w'
    exact s'.newT hT (.cons (.v) (.cons (k3.get (y ys (.inl (.inl k1))) (List.getElem?_eq_getElem hlt)) .nil))
  · have e : i = ds.length := by omega
    subst e
    exact .inl ⟨⟨xs, .inl (.inl h1), by omega⟩, hd σ H q⟩
/-- (a, b) = a pair of numbers -/
theorem g_pairI {x : V} {m n : Int} {i j : Nat} {Q : L2.St → Hp → Prop} (s : sat As H) (e : Ent As H x (.tup [dI m, dI n])) (k : Q ((σ.set i (some (.int m))).set j (some (.int n))) H) : gTup K 2 (gCons (gName i) (gCons (gName j) gNil)) x σ H Q := by
  have z := s.of e
  cases z with
  | tup h1 h2 =>
    cases h2 with
    | cons a1 h2 =>
      cases h2 with
      | cons a2 h2 =>
        cases h2
        cases a1.flat
        cases a2.flat
        exact ⟨_, _, rfl, .inl (.inl h1), rfl, _, _, rfl, _, _, rfl, rfl, k⟩
/-- calls that may raise -/
theorem g_callS {sp : Sp} {E : L2.St → XK} {ta : TA} {Q : VK} (k : ta σ H fun vs H1 => sp vs H1 Q (E σ)) : tCallS sp E ta σ H Q := k
theorem g_callS1 {sp : Sp} {E : L2.St → XK} {ta : TA} {vs : List V} {Q : VK} (e : A1 ta σ H vs) (k : sp vs H Q (E σ)) : tCallS sp E ta σ H Q := e _ k
theorem sat.newI (s : sat As H) {x dx C : Addr} (h1 : H x = none) (h2 : H dx = none) (h3 : dx ≠ x) : sat (oi x C [] :: As) (upd (upd H dx (.own x)) x (.ins C dx [])) :=
  (s.newX h2).newO (by rw [upd_ne (Ne.symm h3)]; exact h1) fun F _ => ⟨dx, [], rfl, .nil⟩
/-- a new instance: its __init__ runs at the bare one -/
theorem g_make {C : Addr} {sp : Sp} {dvs : List V} {E : L2.St → XK} {ta : TA} {vs : List V} {Q : VK} (s : sat As H) (e : A1 ta σ H vs) (k : ∀ x H', sat (oi x C [] :: As) H' → sp (.ref x :: (vs ++ dvs)) H' (fun v H2 => v = .non ∧ Q (.ref x) H2) (E σ)) : tMakeS C sp dvs E ta σ H Q :=
  e _ fun x dx h1 h2 h3 => k x _ (s.newI h1 h2 h3)
/-- a method of a frozen instance -/
theorem g_methF {C a : Addr} {m : Str} {gs : List (Str × D)} {sp : Sp} {E : L2.St → XK} {ta : TE} {t : TA} {vs : List V} {Q : VK} (s : sat As H) (w : Ent As H (.ref a) (.ob C gs)) (no : gs.lookup m = none) (eo : E1 ta σ H (.ref a)) (e : A1 t σ H vs) (k : sp (.ref a :: vs) H Q (E σ)) : tMethS C m sp E ta t σ H Q := by
  have z := s.of w
  cases z with
  | ob h1 h2 => exact eo _ ⟨_, _, _, rfl, h1, h2.lookN no, e _ k⟩
/-- a field of a frozen instance -/
theorem e_fldF {C a : Addr} {f : Str} {gs : List (Str × D)} {ta : TE} {v : V} (s : sat As H) (c : Cls K C) (no : NoAttr K C f) (w : Ent As H (.ref a) (.ob C gs)) (l : gs.lookup f = some (.v v)) (eo : E1 ta σ H (.ref a)) : E1 (tFld K ta f) σ H v := fun Q q => by
  obtain ⟨dx, fs, h1, h2⟩ := s.riv w
  obtain ⟨x, e1, e2⟩ := h2 l
  cases s.flat e2
  exact eo _ ⟨a, C, dx, fs, _, rfl, h1, c, no, e1, q⟩
theorem x_fldF {C a : Addr} {f : Str} {gs : List (Str × D)} {d : D} (s : sat As H) (c : Cls K C) (no : NoAttr K C f) (w : Ent As H (.ref a) (.ob C gs)) (l : gs.lookup f = some d) : ∃ x, Ent As H x d ∧ ∀ {σ ta}, E1 ta σ H (.ref a) → E1 (tFld K ta f) σ H x := by
  obtain ⟨dx, fs, h1, h2⟩ := s.riv w
  obtain ⟨x, e1, e2⟩ := h2 l
  exact ⟨x, e2, fun eo Q q => eo _ ⟨a, C, dx, fs, _, rfl, h1, c, no, e1, q⟩⟩
/-- an owned instance -/
theorem sat.oiv (h : sat As H) (i : Nat) {a C : Addr} {gs : List (Str × D)} (e : As[i]? = some (oi a C gs) := by rfl) : ∃ dx fs, H a = some (.ins C dx fs) ∧ fs.map (·.1) = gs.map (·.1) ∧ ∀ {n : Str} {d : D}, gs.lookup n = some d → ∃ x, fs.lookup n = some x ∧ Ent As H x d := by
  obtain ⟨F, h⟩ := h
  obtain ⟨n, o, h1, dx, fs, rfl, h2⟩ := h.ok _ (List.mem_of_getElem? e)
  have nm : ∀ {G : Hp} {fs : List (Str × V)} {gs : List (Str × D)}, RpF G fs gs → fs.map (·.1) = gs.map (·.1) := fun {G fs gs} r => by
    induction gs generalizing fs with
    | nil => cases r; rfl
    | cons g gs ih => cases r with | cons _ k => rw [List.map_cons, List.map_cons, ih k]
  refine ⟨dx, fs, h1, nm h2, fun {m d} l => ?_⟩
  obtain ⟨x, e1, _⟩ := h2.look l
  refine ⟨x, e1, fun G g => ?_⟩
  obtain ⟨_, o, k1, dx', fs', rfl, k2⟩ := g.ok _ (List.mem_of_getElem? e)
  rw [h1] at k1
  cases k1
  obtain ⟨y, e2, r⟩ := k2.look l
  rw [e1] at e2
  cases e2
  exact r
theorem x_fldO {C a : Addr} {f : Str} {gs : List (Str × D)} {d : D} (s : sat As H) (i : Nat) (c : Cls K C) (no : NoAttr K C f) (l : gs.lookup f = some d) (e : As[i]? = some (oi a C gs) := by rfl) : ∃ x, Ent As H x d ∧ ∀ {σ ta}, E1 ta σ H (.ref a) → E1 (tFld K ta f) σ H x := by
  obtain ⟨dx, fs, h1, _, h2⟩ := s.oiv i e
  obtain ⟨x, e1, e2⟩ := h2 l
  exact ⟨x, e2, fun eo Q q => eo _ ⟨a, C, dx, fs, _, rfl, h1, c, no, e1, q⟩⟩
theorem RpF.putN {F : Hp} {x : V} {d : D} {f : Str} (r : Rp F x d) : ∀ {fs : List (Str × V)} {gs : List (Str × D)}, RpF F fs gs → gs.lookup f = none → RpF F (putF f x fs) (gs ++ [(f, d)])
  | _, _, .nil, _ => .cons r .nil
  | _, _, .cons (n := m) h k, e => by
    rw [List.lookup_cons] at e
    have hm : m ≠ f := fun z => by
      subst z
      simp at e
    have e' : (f == m) = false := by
      simpa using fun z => hm z.symm
    rw [e'] at e
    unfold putF
    rw [if_neg hm]
    exact .cons h (RpF.putN r k e)
/-- self.f = e, a field that is not yet there -/
theorem x_stoO {C a : Addr} {f : Str} {gs : List (Str × D)} {d : D} {ta : TE} {y : V} (s : sat As H) (i : Nat) (c : Cls K C) (no : NoAttr K C f) (l : gs.lookup f = none) (hz : gs.length < 1000) (eo : E1 ta σ H (.ref a)) (n : Ent As H y d) (e : As[i]? = some (oi a C gs))
    (k : ∀ H', sat (As.set i (oi a C (gs ++ [(f, d)]))) H' → nx σ H') : (ta σ H fun x H2 => ∃ a C dx fs, x = .ref a ∧ H2 a = some (.ins C dx fs) ∧ Cls K C ∧ NoAttr K C f ∧ fs.length < 1000 ∧ nx σ (upd H2 a (.ins C dx (putF f y fs)))) := by
  obtain ⟨dx, fs, h1, h2, _⟩ := s.oiv i e
  have hl : fs.length = gs.length := by
    have := congrArg List.length h2
    simpa using this
  refine eo _ ⟨a, C, dx, fs, rfl, h1, c, no, by omega, k _ (s.updO i e fun F q => ⟨dx, _, rfl, ?_⟩)⟩
  obtain ⟨_, o, k1, dx', fs', rfl, k2⟩ := q.ok _ (List.mem_of_getElem? e)
  rw [h1] at k1
  cases k1
  exact k2.putN (n F q) l
theorem g_fld {f : Str} {ta tv : TE} (k : tv σ H fun y H1 => ta σ H1 fun x H2 => ∃ a C dx fs, x = .ref a ∧ H2 a = some (.ins C dx fs) ∧ Cls K C ∧ NoAttr K C f ∧ fs.length < 1000 ∧ nx σ (upd H2 a (.ins C dx (putF f y fs)))) : sFld K ta tv f ⟨nx, rt, bk, ct⟩ σ H := k
end
section
variable {X : Cx} {K : PySem.W.Frag} {e : Expr} {es : List Expr} {f : Str} {ta : TE} {pos : Pos} {k n : Nat} {t : TGs}
theorem pe_fldK (hK : X.K = K) (he : PE X e ta) (hb : attributeBase e f X.env (eval e X.env) = eval e X.env) : PE X (.Attribute e f pos) (tFld K ta f) := by subst hK; exact pe_fld he hb
theorem pg_tupK (hK : X.K = K) (hc : X.calm = true) (h : PGs X es t)
    (hn : (assignEach es X.env).length = n := by rfl) (hst : (assignEach es X.env).findIdx? (·.1) = none := by rfl) : PG X (.Tuple es k pos) (gTup K n t) := by subst hK; exact pg_tup hc h hn hst
end
/-! ### comprehensions of two clauses -/
abbrev In2 (g1 : TG) (tt1 : TT) (te : TE) (vs1 : List Nat) (σ2 : L2.St) (Dl : Addr) (Nx : Hp → Prop) (J1 : It) (H4 : Hp) : Prop := ∃ W1 : Nat → Nat → Hp → Prop, (∃ m, W1 0 m H4) ∧ ∀ j k H, W1 j k H →
  (J1.stop j H ∧ Nx H) ∨ (J1.go j H ∧ ∃ Nx1 : Hp → Prop, (∀ H', Nx1 H' → ∃ k', k' < k ∧ W1 (j + 1) k' H') ∧ ∀ x H', J1.yld j H x H' → LcTurn g1 tt1 te vs1 σ2 Dl x H' Nx1)
section
variable {K : PySem.W.Frag} {As : List A} {p : Addr} {ds : List D} {H : Hp} {σ : L2.St} {Q : VK}
theorem in2_list {g1 : TG} {tt1 : TT} {te : TE} {vs1 : List Nat} {σ2 : L2.St} {Dl : Addr} {Nx : Hp → Prop} (s : sat As H) (w : Vw As p ds) (Pj : Nat → Hp → Prop) (h0 : Pj 0 H) (hl : ∀ j H, j ≤ ds.length → Pj j H → ∃ As, sat As H ∧ Vw As p ds)
    (hs : ∀ j d x H, ds[j]? = some d → Pj j H → (∀ {As}, sat As H → Vw As p ds → Ent As H x d) → LcTurn g1 tt1 te vs1 σ2 Dl x H (Pj (j + 1))) (hd : ∀ H, Pj ds.length H → Nx H) : In2 g1 tt1 te vs1 σ2 Dl Nx (Itl K p) H := by
  refine ⟨fun j m H => m = ds.length - j ∧ j ≤ ds.length ∧ Pj j H, ⟨ds.length, by simp, Nat.zero_le _, h0⟩, ?_⟩
  rintro j m H ⟨rfl, hi, q⟩
  obtain ⟨As, s, w⟩ := hl j H hi q
  obtain ⟨xs, h1, h2, h3⟩ := s.vw w
  by_cases hlt : j < ds.length
  · have hx : j < xs.length := by omega
    refine .inr ⟨⟨xs, xs[j], .inl (.inl h1), List.getElem?_eq_getElem hx⟩, Pj (j + 1), fun H' p' => ⟨ds.length - (j + 1), by omega, rfl, hlt, p'⟩, fun x H' y => ?_⟩
    obtain ⟨e, y⟩ := y
    subst e
    have ex := y xs (.inl (.inl h1))
    exact hs j ds[j] x _ (List.getElem?_eq_getElem hlt) q fun {As} s' w' => by
      obtain ⟨ys, k1, k2, k3⟩ := s'.vw w'
      rw [h1] at k1
      cases k1
      exact k3.get ex (List.getElem?_eq_getElem hlt)
  · have e : j = ds.length := by omega
    subst e
    exact .inl ⟨⟨xs, .inl (.inl h1), by omega⟩, hd H q⟩
theorem x_lc2R1 {ta : TA} {g g1 : TG} {tt tt1 : TT} {te : TE} {wi1 : TI} {vs vs1 : List Nat} {n : Int} (s : sat As H) (e : A1 ta σ H [.int n]) (hn : -(2 ^ 62) ≤ n ∧ n < 2 ^ 62) (Pv : Addr → Nat → Hp → Prop) (h0 : ∀ Dl H1, sat (ol Dl [] :: As) H1 → Pv Dl 0 H1)
    (hs : ∀ Dl (i : Nat) H, (i : Int) < n → Pv Dl i H → g (.int (i : Int)) (wipe σ vs) H fun σ2 H2 => wipe σ2 vs = wipe σ vs ∧ tt σ2 H2 fun b H3 => if b = true then wi1 σ2 H3 fun J1 H4 => In2 g1 tt1 te vs1 σ2 Dl (Pv Dl (i + 1)) J1 H4 else Pv Dl (i + 1) H3)
    (hd : ∀ Dl H, Pv Dl n.toNat H → Q (.ref Dl) H) : tLc2 (iRng1 ta) g tt wi1 g1 tt1 te vs vs1 σ H Q := by
  refine e _ ⟨n, rfl, hn.1, hn.2, fun Dl hD => ⟨fun i m H => m = n.toNat - i ∧ i ≤ n.toNat ∧ Pv Dl i H, ⟨n.toNat, by simp, Nat.zero_le _, h0 Dl _ (s.newL hD .nil)⟩, ?_⟩⟩
  rintro i m H ⟨rfl, hi, q⟩
  by_cases hlt : i < n.toNat
  · refine .inr ⟨hlt, Pv Dl (i + 1), fun H' p' => ⟨n.toNat - (i + 1), by omega, rfl, hlt, p'⟩, fun x H' y => ?_⟩
    obtain ⟨rfl, rfl⟩ := y
    rw [Int.zero_add]
    exact hs Dl i _ (by omega) q
  · have e : i = n.toNat := by omega
    subst e
    exact .inl ⟨Nat.le_refl _, hd Dl H q⟩
end
theorem EntA.reps {As : List A} {H : Hp} {xs : List V} {ds : List D} (h : EntA As H xs ds) : ∀ k, EntA As H (List.replicate k xs).flatten (List.replicate k ds).flatten
  | 0 => .nil
  | k + 1 => by
    rw [List.replicate_succ, List.replicate_succ, List.flatten_cons, List.flatten_cons]
    exact h.append (EntA.reps h k)
theorem x_repV {As : List A} {H : Hp} {l : Addr} {ds : List D} {k : Int} {Q : VK} (s : sat As H) (w : Vw As l ds) (hk : -(2 ^ 63) ≤ k ∧ k < 2 ^ 63) (hz : ds.length * k.toNat ≤ sizeLine) (q : ∀ p H1, sat (ol p (List.replicate k.toNat ds).flatten :: As) H1 → Q (.ref p) H1) : rRep (.ref l) (.int k) H Q := by
  obtain ⟨xs, h1, h2, h3⟩ := s.vw w
  exact ⟨l, k, xs, rfl, rfl, h1, hk.1, hk.2, by rw [h2]; exact hz, fun p hp => q p _ (s.newL hp (h3.reps _))⟩
section
variable {As : List A} {H : Hp} {σ : L2.St} {C : Addr} {sp : Sp} {dvs : List V} {E : L2.St → XK} {Q : VK}
/-- the makings of an instance, the arguments known -/
def MkK (C : Addr) (sp : Sp) (dvs : List V) (E : XK) (Q : VK) (vs : List V) (H1 : Hp) : Prop := ∀ x dx, H1 x = none → H1 dx = none → dx ≠ x → sp (.ref x :: (vs ++ dvs)) (upd (upd H1 dx (.own x)) x (.ins C dx [])) (fun v H2 => v = .non ∧ Q (.ref x) H2) E
theorem g_mk {t : TA} (k : t σ H fun vs H1 => MkK C sp dvs (E σ) Q vs H1) : tMakeS C sp dvs E t σ H Q := k
theorem x_mk {E : XK} {vs : List V} (s : sat As H) (k : ∀ x H', sat (oi x C [] :: As) H' → sp (.ref x :: (vs ++ dvs)) H' (fun v H2 => v = .non ∧ Q (.ref x) H2) E) : MkK C sp dvs E Q vs H := fun x dx h1 h2 h3 => k x _ (s.newI h1 h2 h3)
end
def rTO (K : PySem.W.Frag) : List V → Hp → VK → Prop := fun xs H Q => ∃ p ys, xs = [.ref p] ∧ ((SqL K H p ys ∧ ∀ l, H l = none → Q (.ref l) (upd H l (.tup ys))) ∨ (SqT K H p ys ∧ Q (.ref p) H))
theorem call_tuple' {X : Cx} : CallR X (.type "tuple") (rTO X.K) := call_tuple_of
theorem x_tupleV {K : PySem.W.Frag} {As : List A} {H : Hp} {p : Addr} {ds : List D} {Q : VK} (s : sat As H) (w : Vw As p ds) (k : ∀ t H1, sat (.rp (.ref t) (.tup ds) :: As) H1 → Q (.ref t) H1) : rTO K [.ref p] H Q := by
  obtain ⟨xs, h1, h2, h3⟩ := s.vw w
  exact ⟨p, xs, rfl, .inl ⟨.inl (.inl h1), fun l hl => k l _ (s.newT hl h3)⟩⟩
/-- what a clause wishes, the class known -/
theorem wx_yes {K : PySem.W.Frag} {Wout : WX} {D : Ends} {c : Value} {ts : Addr → Value → Option Addr → TS} {r : List Cls1} {cls : Value} {d : Option Addr} {σ : L2.St} {H : Hp} {i : Nat} (e : PySem.W.exmOne K cls c = some true) (k : ∀ a, H a = none → ts a cls d (D.gone i) (σ.set i (some (.ref a))) H) : wMix K Wout D ((c, some i, ts) :: r) cls d σ H :=
  ⟨true, e, fun _ => k, fun z => nomatch z⟩
theorem wx_no {K : PySem.W.Frag} {Wout : WX} {D : Ends} {c : Value} {ts : Addr → Value → Option Addr → TS} {r : List Cls1} {cls : Value} {d : Option Addr} {σ : L2.St} {H : Hp} {i : Nat} (e : PySem.W.exmOne K cls c = some false) (k : wMix K Wout D r cls d σ H) : wMix K Wout D ((c, some i, ts) :: r) cls d σ H :=
  ⟨false, e, fun z => (nomatch z), fun _ => k⟩
theorem e_xf {C a dd : Addr} {f : Str} {te : TE} {σ : L2.St} {H : Hp} {v : V} {As : List A} {i : Nat} (s : sat As H) (e : E1 te σ H (.ref a)) (h : As[i]? = some (xo dd f v)) : E1 (tXf a (.ref C) (some dd) C f te) σ H v := fun Q q => by
  obtain ⟨o, _, h1, h2, _⟩ := s.own i h
  subst h2
  exact e _ ⟨rfl, rfl, dd, _, v, rfl, h1, by simp [List.lookup], q⟩
theorem g_try {K : PySem.W.Frag} {Wout : WX} {l : List Cls1} {tb : WX → TS} {nx bk ct : L2.St → Hp → Prop} {rt : VK} {σ : L2.St} {H : Hp} (k : tb (wMix K Wout ⟨nx, rt, bk, ct⟩ l) ⟨nx, rt, bk, ct⟩ σ H) : tTryX K Wout l tb ⟨nx, rt, bk, ct⟩ σ H := k
end Sat

set_option Elab.async false
set_option linter.all false
set_option maxRecDepth 100000
set_option maxHeartbeats 2000000
/-! Hd: the head of a law with own error classes and own classes, by one kernel run and named facts -/
namespace Hd
open PySem PySem.Spec PyProof.Rows L2 Sat He SupX
theorem num_short {i : Int} (hi : i.natAbs.log2 < 1920) : (Str.ofString (toString i)).length ≤ 2000 := by
  have e := int_text_length_le (k := 1920) (by decide) hi
  have e2 : (Str.ofString (toString i)).length = (toString i).length := PySem.ofString_length _
  omega
/-! ### Bool facts -/
def ecB (K : PySem.W.Frag) (D : Addr) : Bool := eqO (PySem.W.findIn K (.ref D) "__getattribute__") (some (some (.builtin "BaseException.__getattribute__"))) && (eqO (PySem.W.findIn K (.ref D) "__getattr__") (some none) &&
  (decide (PySem.W.subIn K (.ref D) (.type "BaseException") = some true) && (PySem.W.hasDictIn K D && (eqO (PySem.W.findIn K (.ref D) "__class__") (some (some (.builtin "object.__class__"))) &&
  (eqO (PySem.W.specialIn K (.builtin "object.__class__") "__get__") (some (some (.builtin "getset_descriptor.__get__"))) && (decide (PySem.W.takesIn K (.builtin "object.__class__") = some true) && decide (PySem.W.mroIn K D (.type "object") = some true)))))))
theorem ecB_ok {K : PySem.W.Frag} {D : Addr} (h : ecB K D = true) : ExcC K D := by
  obtain ⟨h1, h⟩ := ba h
  obtain ⟨h2, h⟩ := ba h
  obtain ⟨h3, h⟩ := ba h
  obtain ⟨h4, h⟩ := ba h
  obtain ⟨h5, h⟩ := ba h
  obtain ⟨h6, h⟩ := ba h
  obtain ⟨h7, h8⟩ := ba h
  exact ⟨eqO_ok h1, eqO_ok h2, of_decide_eq_true h3, h4, eqO_ok h5, eqO_ok h6, of_decide_eq_true h7, of_decide_eq_true h8⟩
/-- an own class's instances asked by isinstance -/
structure WebC (K : PySem.W.Frag) (C : Addr) : Prop where
  ha : PySem.W.findIn K (.ref C) "__class__" = some (some (.builtin "object.__class__"))
  hn : PySem.W.specialIn K (.builtin "object.__class__") "__get__" = some (some (.builtin "getset_descriptor.__get__"))
  ht : PySem.W.takesIn K (.builtin "object.__class__") = some true
  hm : PySem.W.mroIn K C (.type "object") = some true
def webB (K : PySem.W.Frag) (C : Addr) : Bool := eqO (PySem.W.findIn K (.ref C) "__class__") (some (some (.builtin "object.__class__"))) &&
  (eqO (PySem.W.specialIn K (.builtin "object.__class__") "__get__") (some (some (.builtin "getset_descriptor.__get__"))) && (decide (PySem.W.takesIn K (.builtin "object.__class__") = some true) && decide (PySem.W.mroIn K C (.type "object") = some true)))
theorem webB_ok {K : PySem.W.Frag} {D : Addr} (h : webB K D = true) : WebC K D := by
  obtain ⟨h1, h⟩ := ba h
  obtain ⟨h2, h⟩ := ba h
  obtain ⟨h3, h4⟩ := ba h
  exact ⟨eqO_ok h1, eqO_ok h2, of_decide_eq_true h3, of_decide_eq_true h4⟩
def oexB (K : PySem.W.Frag) (C : Addr) : Bool := (match K.lookup C with
  | some ⟨.type "type", _, .cls cd, sl⟩ => (match cd.mro, sl.toList with
    | .ref C' :: bm, [_, _, _, _, some (.builtin n), _] => C' == C && (n == "ValueError.__new__" && (!cd.hasDel && (cd.hasDict && PySem.HandSPX.refsVE bm)))
    | _, _ => false)
  | _ => false) && (eqO (PySem.W.findIn K (.ref C) "__setattr__") (some (some (.builtin "object.__setattr__"))) && (decide (PySem.W.subIn K (.ref C) (.type "BaseException") = some true) && (decide (PySem.W.typeIn K (.ref C) = some (.type "type")) && PySem.W.keepIn K (.ref C))))
theorem oexB_ok {K : PySem.W.Frag} {C : Addr} (h : oexB K C = true) : OexC K C := by
  obtain ⟨h1, h⟩ := ba h
  obtain ⟨h2, h⟩ := ba h
  obtain ⟨h3, h⟩ := ba h
  obtain ⟨h4, h5⟩ := ba h
  refine ⟨?_, eqO_ok h2, of_decide_eq_true h3, of_decide_eq_true h4, h5⟩
  split at h1
  · rename_i dd cd sl ho
    split at h1
    · rename_i C' bm k0 k1 k2 k3 n k5 hm hs
      obtain ⟨q1, q⟩ := ba h1
      obtain ⟨q2, q⟩ := ba q
      obtain ⟨q3, q⟩ := ba q
      obtain ⟨q4, q5⟩ := ba q
      obtain ⟨nm, bs, mro, ns, qn, hd, sn, sub, ab, col, del⟩ := cd
      dsimp only at hm q3 q4
      have e1 : C' = C := beq_iff_eq.mp q1
      have e2 : n = "ValueError.__new__" := beq_iff_eq.mp q2
      have e3 : del = false := by cases del with
        | false => rfl
        | true => cases q3
      subst e1 e2 e3 q4 hm
      have hsl : sl = #[k0, k1, k2, k3, some (.builtin "ValueError.__new__"), k5] := by
        obtain ⟨l⟩ := sl
        simp only at hs
        rw [hs]
      subst hsl
      exact ⟨nm, qn, ns, bs, bm, sn, sub, ab, col, dd, k0, k1, k2, k3, k5, ho, q5⟩
    · cases h1
  · cases h1
/-- an empty tuple of the written part -/
def emptyTB (K : PySem.W.Frag) (a : Addr) : Bool := match K.lookup a with
  | some ⟨.type c, _, .seq its _, _⟩ => decide (c = "tuple") && decide (its.toList = [])
  | _ => false
theorem emptyTB_ok {K : PySem.W.Frag} {a : Addr} (h : emptyTB K a = true) : EmptyT K a := by
  unfold emptyTB at h
  split at h
  · rename_i c od its n sl ho
    obtain ⟨h1, h2⟩ := ba h
    have e1 : c = "tuple" := of_decide_eq_true h1
    have e2 := of_decide_eq_true h2
    subst e1
    refine ⟨_, its, n, ho, rfl, rfl, ?_, by rw [e2]; exact .nil⟩
    have e3 : its.size = 0 := by rw [← Array.length_toList, e2]; rfl
    rw [e3]
    exact Nat.zero_le _
  · cases h
/-! ### the __init__ of an own error class -/
structure XI where
  cls : Str
  fld : Str
  qual : Str
  params : Arguments
  body : List Stmt
  scope : Scope
abbrev XV : Type := Option (Str × Str × Arguments × FuncBody × Scope × Addr × List Str × Value × Addr)
def iAd (K : PySem.W.Frag) (x : Str) : Addr := ma K (ga K x) "__init__"
def xv (K : PySem.W.Frag) (x : Str) : XV := match K.lookup (iAd K x) with
  | some ⟨_, _, .func fd, _⟩ => some (fd.name, fd.qualname, fd.params, fd.body, fd.scope, fd.globals, fd.closure.map (·.1), fd.defaults, fd.builtins)
  | _ => none
def XI.val (d : XI) : XV := some ("__init__", d.qual, d.params, .stmts d.body, d.scope, mainGlobals, ["__class__"], .none, builtinsNs)
def cellB (K : PySem.W.Frag) (cc D : Addr) : Bool := match K.lookup cc with
  | some ⟨_, _, .cell (some (.ref E)), _⟩ => decide (E = D)
  | _ => false
def fileB (K : PySem.W.Frag) (file : Str) (c : Addr) : Bool := match K.lookup c with
  | some ⟨_, _, .fields vs, _⟩ => (match (vs[2]? : Option Value) with
    | some (.str f _) => file == f
    | _ => false)
  | _ => false
def clB (K : PySem.W.Frag) (file qual : Str) (D : Addr) (cl : List (Str × Addr)) (cd : Value) : Bool := match cl, cd with
  | [(_, cc)], .ref c => cellB K cc D && (PySem.W.codeIn K (.ref c) qual && fileB K file c)
  | _, _ => false
theorem clB_ok {K : PySem.W.Frag} {file qual : Str} {D : Addr} {cl : List (Str × Addr)} {cd : Value} (h : clB K file qual D cl cd = true) (hm : cl.map (·.1) = [("__class__" : Str)]) :
    ∃ cc c, cl = [(("__class__" : Str), cc)] ∧ cd = .ref c ∧ (∃ a b e, K.lookup cc = some ⟨a, b, .cell (some (.ref D)), e⟩) ∧ PySem.W.codeIn K (.ref c) qual = true ∧ ∃ ccl cdd vs ccs f tf, K.lookup c = some ⟨ccl, cdd, .fields vs, ccs⟩ ∧ vs[2]? = some (.str f tf) ∧ (file == f) = true := by
  unfold clB at h
  split at h
  · rename_i y cc c
    obtain ⟨k1, k⟩ := ba h
    obtain ⟨k2, k3⟩ := ba k
    have ey : y = ("__class__" : Str) := (List.cons.inj hm).1
    subst ey
    refine ⟨cc, c, rfl, rfl, ?_, k2, ?_⟩
    · unfold cellB at k1
      split at k1
      · rename_i E sl ho
        have e3 : E = D := of_decide_eq_true k1
        subst e3
        exact ⟨_, _, _, ho⟩
      · cases k1
    · unfold fileB at k3
      split at k3
      · rename_i vs sl ho
        split at k3
        · rename_i f t hv
          exact ⟨_, _, vs, _, f, t, ho, hv, k3⟩
        · cases k3
      · cases k3
  · cases h
def XI.ok (file : Str) (K : PySem.W.Frag) (d : XI) : Bool := oexB K (ga K d.cls) && (decide (PySem.W.mroIn K (ga K d.cls) (.ref (ga K d.cls)) = some true) && (eqO (PySem.W.ks_superIn K (ga K d.cls) (ga K d.cls) "__init__") (some (some (.builtin "ValueError.__init__"))) &&
  (decide (PySem.W.subIn K (.ref (ga K d.cls)) (.type "ValueError") = some true) && (eqO (PySem.W.nsIn K cStatics "thirdparty.any") (some none) && (eqO (PySem.W.findIn K (.ref (ga K d.cls)) d.fld) (some none) &&
  (eqO (PySem.W.findIn K (.ref (ga K d.cls)) "__init__") (some (some (.ref (iAd K d.cls)))) && (decide (PySem.W.typeIn K (.ref (iAd K d.cls)) = some (.type "function")) && (eqO (PySem.W.nsIn K mainGlobals d.cls) (some (some (.ref (ga K d.cls)))) &&
  (match K.lookup (iAd K d.cls) with
  | some ⟨_, _, .func fd, _⟩ => clB K file d.qual (ga K d.cls) fd.closure fd.code
  | _ => false)))))))))
/-- all that a raised own error class asks of the written part -/
structure XIOk (P : Program) (K : PySem.W.Frag) (mg : Str → Option Value) (d : XI) : Prop where
  ex : ∃ oc od osl kV doc pm an ct cc c, K.lookup (iAd K d.cls) = some ⟨oc, od, .func (PySem.W.fnX "__init__" d.qual d.params d.body d.scope [(("__class__" : Str), cc)] .none kV doc pm an (.ref c) ct), osl⟩ ∧ SupC P K mg (ga K d.cls) cc c ∧ PySem.W.codeIn K (.ref c) d.qual = true
  no : PySem.W.findIn K (.ref (ga K d.cls)) d.fld = some none
  iC : PySem.W.findIn K (.ref (ga K d.cls)) "__init__" = some (some (.ref (iAd K d.cls)))
  tI : PySem.W.typeIn K (.ref (iAd K d.cls)) = some (.type "function")
  g : mg d.cls = some (.ref (ga K d.cls))
theorem xi_ok {P : Program} {K : PySem.W.Frag} {h : Heap} {mg : Str → Option Value} {d : XI} (X : K.In h) (G : h.Ns mainGlobals mg) (top : (P.main.scope.names.lookup ("super" : Str)).isSome = false) (ms : mg "super" = none) (e : xv K d.cls = d.val) (c : d.ok P.main.file K = true) : XIOk P K mg d := by
  obtain ⟨c1, c⟩ := ba c
  obtain ⟨c2', c⟩ := ba c
  obtain ⟨c3, c⟩ := ba c
  obtain ⟨c4, c⟩ := ba c
  obtain ⟨c5, c⟩ := ba c
  obtain ⟨c6, c⟩ := ba c
  obtain ⟨c7, c⟩ := ba c
  obtain ⟨c8, c⟩ := ba c
  obtain ⟨c9, c⟩ := ba c
  refine ⟨?_, eqO_ok c6, eqO_ok c7, of_decide_eq_true c8, PySem.W.mg_of X G (eqO_ok c9)⟩
  unfold xv at e
  cases q : K.lookup (iAd K d.cls) with
  | none => rw [q] at c; cases c
  | some o =>
    obtain ⟨oc, od, dt, osl⟩ := o
    rw [q] at c e
    cases dt with
    | func fd =>
      obtain ⟨n1, n2, n3, n4, n5, n6, n7, n8, n9, n10, n11, n12, n13, n14, n15⟩ := fd
      have e2 : (some (n1, n2, n3, n4, n5, n6, n7.map (·.1), n8, n15) : XV) = d.val := e
      unfold XI.val at e2
      simp only [Option.some.injEq, Prod.mk.injEq] at e2
      obtain ⟨h1, h2, h3, h4, h5, h6, h7, h8, h9⟩ := e2
      subst h1 h2 h3 h4 h5 h6 h8 h9
      obtain ⟨cc, c2, rfl, rfl, e3, e4, e5⟩ := clB_ok (show clB K P.main.file d.qual (ga K d.cls) n7 n13 = true from c) h7
      exact ⟨oc, od, osl, n9, n10, n11, n12, n14, cc, c2, rfl, ⟨oexB_ok c1, e3, of_decide_eq_true c2', e5, top, eqO_ok c3, of_decide_eq_true c4, eqO_ok c5, ms⟩, e4⟩
    | _ => cases c
/-! ### the Hook -/
abbrev AlM : Type := Bool × List He.FnW × List XV
def obsM (file : Str) (fa : List Fa) (fn : List DefD) (xs : List XI) (fx : List (PySem.W.Frag → Bool)) (K : PySem.W.Frag) : AlM :=
  ((fa.all fun f => f.ok K) && ((fn.all fun d => d.ok K) && ((xs.all fun d => d.ok file K) && fx.all fun f => f K)), fn.map fun d => fnW K d.at_, xs.map fun d => xv K d.cls)
def valM (fn : List DefD) (xs : List XI) : AlM := (true, fn.map DefD.val, xs.map XI.val)
def SaysM (file : Str) (fa : List Fa) (fn : List DefD) (xs : List XI) (fx : List (PySem.W.Frag → Bool)) (K : PySem.W.Frag) : Prop := obsM file fa fn xs fx K = valM fn xs
/-! the addresses that the facts look at: the module's names; their codes, defaults, cells, class dicts; these dicts' entries; the methods' codes, defaults, cells; the defaults -/
def vals_ (o : Obj) : List Addr := match o.data with
  | .dict es _ => es.toList.flatMap fun e => refV e.val
  | .seq its _ => its.toList.flatMap refV
  | _ => []
def part_ (o : Obj) : List Addr := match o.data with
  | .func fd => refV fd.code ++ (refV fd.defaults ++ fd.closure.map (·.2))
  | .cls cd => [cd.ns]
  | _ => []
def lvl (g : Addr → Option Obj) (f : Obj → List Addr) (as : List Addr) : List Addr := as.flatMap fun a => match g a with
  | some o => f o
  | none => []
/-- a list to its end, its numbers told -/
def frL {α : Type} : List Nat → (List Nat → α) → α
  | [], k => k []
  | a :: r, k => HandSHeadRun.frNat a fun a => frL r fun r => k (a :: r)
theorem frL_eq {α : Type} : ∀ (l : List Nat) (k : List Nat → α), frL l k = k l
  | [], _ => rfl
  | a :: r, k => by
    show HandSHeadRun.frNat a (fun a => frL r fun r => k (a :: r)) = _
    rw [HandSHeadRun.frNat_eq, frL_eq r]
def withAs {α : Type} (g : Addr → Option Obj) (k : List Addr → α) : α :=
  frL (lvl g vals_ [mainGlobals]) fun l1 => frL (lvl g part_ l1) fun l2 => frL (lvl g vals_ l2) fun l3 => frL (lvl g part_ l3) fun l4 => frL (lvl g vals_ l4) fun l5 => k (mainGlobals :: (l1 ++ (l2 ++ (l3 ++ (l4 ++ (l5 ++ [cStatics]))))))
theorem withAs_eq {α : Type} (g : Addr → Option Obj) (k : List Addr → α) : ∃ as, withAs g k = k as := by
  unfold withAs
  simp only [frL_eq]
  exact ⟨_, rfl⟩
def obsMG (file : Str) (fa : List Fa) (fn : List DefD) (xs : List XI) (fx : List (PySem.W.Frag → Bool)) (g : Addr → Option Obj) : AlM := withAs g fun as => obsM file fa fn xs fx (frG g as)
def hookM (file : Str) (fa : List Fa) (fn : List DefD) (xs : List XI) (fx : List (PySem.W.Frag → Bool)) : PySem.W.Hook where
  α := AlM
  obs := fun s => obsMG file fa fn xs fx s.heap.get?
  val := fun _ => valM fn xs
  says := fun _ h => ∃ K : PySem.W.Frag, K.In h ∧ SaysM file fa fn xs fx K
  of := fun w s e => by
    obtain ⟨as, q⟩ := withAs_eq s.heap.get? fun as => obsM file fa fn xs fx (frG s.heap.get? as)
    exact ⟨frG s.heap.get? as, frG_in, q.symm.trans e⟩
  keeps := fun _ _ _ ⟨K, hK, c⟩ k => ⟨K, PySem.W.Frag.In.keeps hK k, c⟩
theorem obsMG_eq {file : Str} {fa : List Fa} {fn : List DefD} {xs : List XI} {fx : List (PySem.W.Frag → Bool)} {g : Addr → Option Obj} {s : Shared} (h : ∀ a, g a = s.heap.get? a) : obsMG file fa fn xs fx g = (hookM file fa fn xs fx).obs s := by
  have e : g = s.heap.get? := funext h
  rw [e] <;> rfl
section
variable {file : Str} {fa : List Fa} {fn : List DefD} {xs : List XI} {fx : List (PySem.W.Frag → Bool)} {K : PySem.W.Frag}
theorem SaysM.bools (c : SaysM file fa fn xs fx K) : (fa.all fun f => f.ok K) = true ∧ (fn.all fun d => d.ok K) = true ∧ (xs.all fun d => d.ok file K) = true ∧ (fx.all fun f => f K) = true := by
  obtain ⟨h1, h⟩ := ba (show ((fa.all fun f => f.ok K) && ((fn.all fun d => d.ok K) && ((xs.all fun d => d.ok file K) && fx.all fun f => f K))) = true from congrArg (fun z : AlM => z.1) c)
  obtain ⟨h2, h⟩ := ba h
  obtain ⟨h3, h4⟩ := ba h
  exact ⟨h1, h2, h3, h4⟩
theorem SaysM.fact (c : SaysM file fa fn xs fx K) (i : Nat) {f : Fa} (h : fa[i]? = some f := by rfl) : f.ok K = true := List.all_eq_true.mp c.bools.1 f (List.mem_of_getElem? h)
theorem SaysM.fx_ (c : SaysM file fa fn xs fx K) (i : Nat) {f : PySem.W.Frag → Bool} (h : fx[i]? = some f := by rfl) : f K = true := List.all_eq_true.mp c.bools.2.2.2 f (List.mem_of_getElem? h)
theorem SaysM.def_ (c : SaysM file fa fn xs fx K) (i : Nat) {d : DefD} (h : fn[i]? = some d := by rfl) : ∃ fd, FunD K d.name d.qual d.params d.body d.scope (d.dvs K) (d.kws K) (fAd K d.at_) fd := by
  have e : fn.map (fun d => fnW K d.at_) = fn.map DefD.val := congrArg (fun z : AlM => z.2.1) c
  have e2 : (fn.map fun d => fnW K d.at_)[i]? = (fn.map DefD.val)[i]? := by rw [e]
  rw [List.getElem?_map, List.getElem?_map, h] at e2
  exact DefD.funD (Option.some.inj e2) (List.all_eq_true.mp c.bools.2.1 d (List.mem_of_getElem? h))
theorem SaysM.xi {P : Program} {h : Heap} {mg : Str → Option Value} (c : SaysM P.main.file fa fn xs fx K) (X : K.In h) (G : h.Ns mainGlobals mg) (top : (P.main.scope.names.lookup ("super" : Str)).isSome = false) (ms : mg "super" = none) (i : Nat) {d : XI} (hd : xs[i]? = some d := by rfl) : XIOk P K mg d := by
  have e : xs.map (fun d => xv K d.cls) = xs.map XI.val := congrArg (fun z : AlM => z.2.2) c
  have e2 : (xs.map fun d => xv K d.cls)[i]? = (xs.map XI.val)[i]? := by rw [e]
  rw [List.getElem?_map, List.getElem?_map, hd] at e2
  exact xi_ok X G top ms (Option.some.inj e2) (List.all_eq_true.mp c.bools.2.2.1 d (List.mem_of_getElem? hd))
end
/-! ### binding -/
section
variable {K : PySem.W.Frag} {x qual : Str} {params : Arguments} {body : List Stmt} {scope : Scope} {dvs : List V} {kws : List (Str × V)} {f : Addr} {fd : FuncData} {ps : List Str}
/-- positional values and keywords, some defaults in the text -/
theorem bindsKD (F : FunD K x qual params body scope dvs kws f fd) (hd : dvs ≠ []) (ks : List Str)
    (h : ∀ (T : Addr) (kV doc pm : Value) (an : Option Addr) (cdv ct y : Value) (ws its : List Value), ws.length = ks.length → its.length = dvs.length →
      ∃ k, bindArgs (PySem.W.fnOf x qual params body scope (.ref T) kV doc pm an cdv ct) ⟨[y], ks.zip ws⟩ = seqItems? (.ref T) >>= k ∧ k (some its.toArray) = pure (ps.zip (y :: ws))) :
    ∀ (y : Value) (ws : List Value) (s' : Shared), K.In s'.heap → ws.length = ks.length → BindsTo s' fd ⟨[y], ks.zip ws⟩ (ps.zip (y :: ws)) := by
  obtain ⟨oc, od, dV, kV, doc, pm, an, cdv, ct, osl, rfl, lk, hcd, hD, hK⟩ := F.ex
  rcases hD with ⟨e, _⟩ | ⟨_, T, o, its, m, rfl, lT, oT, rT⟩
  · exact absurd e hd
  · intro y ws s' X hl
    obtain ⟨k, e1, e2⟩ := h T kV doc pm an cdv ct y ws its hl rT.length.symm
    refine BindsTo.of_looks fun M => ?_
    rw [e1]
    exact looks_items X lT oT (PySem.W.Looks.of_pure e2)
theorem bindsK0 (F : FunD K x qual params body scope [] kws f fd) (ks : List Str)
    (h : ∀ (kV doc pm : Value) (an : Option Addr) (cdv ct y : Value) (ws : List Value), ws.length = ks.length → bindArgs (PySem.W.fnOf x qual params body scope .none kV doc pm an cdv ct) ⟨[y], ks.zip ws⟩ = pure (ps.zip (y :: ws))) :
    ∀ (y : Value) (ws : List Value) (s' : Shared), ws.length = ks.length → BindsTo s' fd ⟨[y], ks.zip ws⟩ (ps.zip (y :: ws)) := by
  obtain ⟨oc, od, dV, kV, doc, pm, an, cdv, ct, osl, rfl, lk, hcd, hD, hK⟩ := F.ex
  rcases hD with ⟨_, rfl⟩ | ⟨e, _⟩
  · intro y ws s' hl
    exact .of_eq (h kV doc pm an cdv ct y ws hl)
  · exact absurd rfl e
theorem kall0 (F : FunD K x qual params body scope [] kws f fd)
    (h : ∀ (kV doc pm : Value) (an : Option Addr) (cdv ct : Value) (ws : List Value), ws.length = ps.length → bindArgs (PySem.W.fnOf x qual params body scope .none kV doc pm an cdv ct) ⟨[], ps.zip ws⟩ = pure (ps.zip ws)) : KAll K fd ps := by
  obtain ⟨oc, od, dV, kV, doc, pm, an, cdv, ct, osl, rfl, lk, hcd, hD, hK⟩ := F.ex
  rcases hD with ⟨_, rfl⟩ | ⟨e, _⟩
  · exact .of (h kV doc pm an cdv ct)
  · exact absurd rfl e
end
end Hd

set_option Elab.async false
set_option linter.all false
set_option maxRecDepth 100000
set_option maxHeartbeats 1000000
/-! Masks: the numbers of a mask, plain -/
namespace Mk
open PySem
theorem land_even_odd (q r : Nat) : (2 * q) &&& (2 * r + 1) = 2 * (q &&& r) := by
  apply Nat.eq_of_testBit_eq
  intro i
  cases i with
  | zero => simp [Nat.testBit_and]
  | succ i =>
    rw [Nat.testBit_and, Nat.testBit_succ, Nat.testBit_succ, Nat.testBit_succ, show 2 * q / 2 = q by omega, show (2 * r + 1) / 2 = r by omega, show 2 * (q &&& r) / 2 = q &&& r by omega, Nat.testBit_and]
theorem land_odd_even (q : Nat) : (2 * q + 1) &&& (2 * q) = 2 * q := by
  apply Nat.eq_of_testBit_eq
  intro i
  cases i with
  | zero => simp [Nat.testBit_and]
  | succ i =>
    rw [Nat.testBit_and, Nat.testBit_succ, Nat.testBit_succ, show 2 * q / 2 = q by omega, show (2 * q + 1) / 2 = q by omega, Bool.and_self]
/-- the least bit of m -/
theorem low (m : Nat) (h : 0 < m) : ∃ k, m.testBit k = true ∧ (∀ j, j < k → m.testBit j = false) ∧ (m &&& (m - 1)) + 2 ^ k = m ∧ ∀ j, (m &&& (m - 1)).testBit j = (m.testBit j && decide (j ≠ k)) := by
  induction m using Nat.strongRecOn with
  | _ m ih =>
    by_cases e : m % 2 = 1
    · obtain ⟨q, rfl⟩ : ∃ q, m = 2 * q + 1 := ⟨m / 2, by omega⟩
      refine ⟨0, by simp, fun j hj => absurd hj (Nat.not_lt_zero j), ?_, fun j => ?_⟩
      · rw [Nat.add_sub_cancel, land_odd_even]
      · rw [Nat.add_sub_cancel, land_odd_even]
        cases j with
        | zero => simp
        | succ j =>
          rw [Nat.testBit_succ, Nat.testBit_succ, show 2 * q / 2 = q by omega, show (2 * q + 1) / 2 = q by omega]
          simp
    · obtain ⟨q, rfl⟩ : ∃ q, m = 2 * q := ⟨m / 2, by omega⟩
      obtain ⟨k, h1, h2, h3, h4⟩ := ih q (by omega) (by omega)
      have hm : 2 * q - 1 = 2 * (q - 1) + 1 := by omega
      refine ⟨k + 1, ?_, fun j hj => ?_, ?_, fun j => ?_⟩
      · rw [Nat.testBit_succ, show 2 * q / 2 = q by omega]; exact h1
      · cases j with
        | zero => simp
        | succ j =>
          rw [Nat.testBit_succ, show 2 * q / 2 = q by omega]
          exact h2 j (by omega)
      · rw [hm, land_even_odd, Nat.pow_succ]; omega
      · rw [hm, land_even_odd]
        cases j with
        | zero => simp
        | succ j =>
          rw [Nat.testBit_succ, Nat.testBit_succ, show 2 * (q &&& (q - 1)) / 2 = q &&& (q - 1) by omega, show 2 * q / 2 = q by omega, h4]
          simp
/-- the numbers of a mask -/
def nums (m : Nat) : List Nat := (List.range 64).filter m.testBit
def bits (m : Nat) : List Int := (nums m).map fun (i : Nat) => (i : Int)
theorem mem_nums {m i : Nat} : i ∈ nums m ↔ i < 64 ∧ m.testBit i = true := by
  unfold nums
  rw [List.mem_filter, List.mem_range]
theorem bits_len (m : Nat) : (bits m).length = (nums m).length := List.length_map ..
theorem nums_le (m : Nat) : (nums m).length ≤ 64 := by
  unfold nums
  have := List.length_filter_le m.testBit (List.range 64)
  rw [List.length_range] at this
  exact this
theorem filter_drop {p : Nat → Bool} {k : Nat} (hk : p k = true) : ∀ {l : List Nat}, l.Nodup → k ∈ l → (l.filter p).length = (l.filter fun j => p j && decide (j ≠ k)).length + 1
  | [], _, h => by cases h
  | x :: l, nd, h => by
    have nd' := List.nodup_cons.mp nd
    by_cases e : x = k
    · subst e
      rw [List.filter_cons_of_pos (by exact hk), List.filter_cons_of_neg (by simp)]
      have q : l.filter (fun j => p j && decide (j ≠ x)) = l.filter p := List.filter_congr fun j hj => by
        have : j ≠ x := fun z => nd'.1 (z ▸ hj)
        simp [this]
      rw [q, List.length_cons]
    · have hl : k ∈ l := by
        rcases List.mem_cons.mp h with z | z
        · exact absurd z.symm e
        · exact z
      have ih := filter_drop hk nd'.2 hl
      cases hp : p x with
      | true =>
        rw [List.filter_cons_of_pos (by exact hp), List.filter_cons_of_pos (by simp [hp, e]), List.length_cons, List.length_cons, ih]
      | false =>
        rw [List.filter_cons_of_neg (by simp [hp]), List.filter_cons_of_neg (by simp [hp]), ih]
theorem pop_step {m : Nat} (h : 0 < m) (h2 : m < 2 ^ 64) : (nums m).length = (nums (m &&& (m - 1))).length + 1 := by
  obtain ⟨k, h1, _, _, h4⟩ := low m h
  have hk : k < 64 := by
    rcases Nat.lt_or_ge k 64 with z | z
    · exact z
    · rw [Nat.testBit_lt_two_pow (Nat.lt_of_lt_of_le h2 (Nat.pow_le_pow_right (by omega) z))] at h1; cases h1
  unfold nums
  rw [filter_drop h1 List.nodup_range (List.mem_range.mpr hk)]
  congr 2
  exact List.filter_congr fun j _ => (h4 j).symm
theorem nums_zero : nums 0 = [] := by
  unfold nums
  rw [List.filter_eq_nil_iff]
  intro a _
  simp
theorem nums_pos {m : Nat} (h : 0 < m) (h2 : m < 2 ^ 64) : 0 < (nums m).length := by rw [pop_step h h2]; omega
theorem and_lt {m : Nat} (h : 0 < m) : m &&& (m - 1) < m := Nat.lt_of_le_of_lt Nat.and_le_right (by omega)
/-- the first of them -/
theorem nums_head {m k : Nat} (hk : k < 64) (h1 : m.testBit k = true) (h2 : ∀ j, j < k → m.testBit j = false) : (nums m)[0]? = some k := by
  have e : List.range 64 = List.range k ++ (k :: (List.range (63 - k)).map (fun x => k + (x + 1))) := by
    conv => lhs; rw [show 64 = k + ((63 - k) + 1) by omega]
    rw [List.range_add, List.range_succ_eq_map]
    simp [List.map_map, Function.comp_def]
  unfold nums
  rw [e, List.filter_append, List.filter_eq_nil_iff.mpr (fun j hj => by rw [h2 j (List.mem_range.mp hj)]; decide), List.nil_append, List.filter_cons_of_pos (by exact h1)]
  rfl
theorem intBits_nat (m : Nat) : Builtin.Int.intBits (m : Int) = if m = 0 then 0 else m.log2 + 1 := by
  unfold Builtin.Int.intBits
  by_cases h : m = 0
  · subst h; rfl
  · rw [if_neg h, if_neg (by simpa using h)]
    rfl
theorem intBits_le {m : Nat} (h : m < 2 ^ 64) : Builtin.Int.intBits (m : Int) ≤ 64 := by
  rw [intBits_nat]
  split
  · omega
  · rename_i h0
    have := (Nat.log2_lt h0).mpr h
    omega
theorem intBits_gt {m i : Nat} (h : m.testBit i = true) : i < Builtin.Int.intBits (m : Int) := by
  rw [intBits_nat]
  have h0 : m ≠ 0 := fun z => by subst z; simp at h
  rw [if_neg h0]
  rcases Nat.lt_or_ge i (m.log2 + 1) with z | z
  · exact z
  · have : m < 2 ^ i := Nat.lt_of_lt_of_le ((Nat.log2_lt h0).mp (Nat.lt_succ_self _)) (Nat.pow_le_pow_right (by omega) z)
    rw [Nat.testBit_lt_two_pow this] at h; cases h
theorem intBits_pow (k : Nat) : Builtin.Int.intBits ((2 ^ k : Nat) : Int) = k + 1 := by
  rw [intBits_nat, if_neg (by have := Nat.two_pow_pos k; omega), Nat.log2_two_pow]
/-- the members' list goes over the bits below bit_length alone -/
def numsTo (m n : Nat) : List Nat := (List.range n).filter m.testBit
theorem numsTo_all {m : Nat} (h : m < 2 ^ 64) : numsTo m (Builtin.Int.intBits (m : Int)) = nums m := by
  have hb := intBits_le h
  unfold numsTo nums
  generalize hn : Builtin.Int.intBits (m : Int) = n at hb
  have e : List.range 64 = List.range n ++ (List.range (64 - n)).map (n + ·) := by rw [← List.range_add]; congr 1; omega
  rw [e, List.filter_append]
  have : ((List.range (64 - n)).map (n + ·)).filter m.testBit = [] := by
    rw [List.filter_eq_nil_iff]
    intro a ha hb
    obtain ⟨x, _, rfl⟩ := List.mem_map.mp ha
    have := intBits_gt hb
    omega
  rw [this, List.append_nil]
theorem numsTo_yes {m n : Nat} (h : m.testBit n = true) : numsTo m (n + 1) = numsTo m n ++ [n] := by
  unfold numsTo
  rw [List.range_succ, List.filter_append, List.filter_cons_of_pos (by exact h)]
  rfl
theorem numsTo_no {m n : Nat} (h : m.testBit n = false) : numsTo m (n + 1) = numsTo m n := by
  unfold numsTo
  rw [List.range_succ, List.filter_append, List.filter_cons_of_neg (by rw [h]; decide)]
  exact List.append_nil _
theorem tb_iff (m n : Nat) : m.testBit n = true ↔ m / 2 ^ n % 2 = 1 := by rw [Nat.testBit_eq_decide_div_mod_eq, decide_eq_true_iff]
theorem pow_cast (k : Nat) : (2 : Int) ^ k = ((2 ^ k : Nat) : Int) := by rw [Int.natCast_pow]; rfl
/-- the test of members: (m >> n) & 1 -/
theorem mem_test (m n : Nat) : Builtin.bitAnd ((m : Int) / 2 ^ n) 1 ≠ 0 ↔ m.testBit n = true := by
  rw [PyProof.Rows.bitAnd_m1, tb_iff, pow_cast, ← Int.natCast_ediv]
  omega
theorem law_test (m n : Nat) : (m : Int) / 2 ^ n % 2 = 1 ↔ m.testBit n = true := by
  rw [tb_iff, pow_cast, ← Int.natCast_ediv]
  omega
theorem bitAnd_pred {m : Nat} (h : 0 < m) : Builtin.bitAnd (m : Int) ((m : Int) - 1) = ((m &&& (m - 1) : Nat) : Int) := by
  unfold Builtin.bitAnd
  rw [decide_eq_true (by omega : (0 : Int) ≤ (m : Int)), decide_eq_true (by omega : (0 : Int) ≤ (m : Int) - 1)]
  show ((((m : Int).toNat) &&& ((m : Int) - 1).toNat : Nat) : Int) = _
  rw [Int.toNat_natCast, show ((m : Int) - 1).toNat = m - 1 by omega]
theorem bitAnd_neg {m : Nat} (h : 0 < m) : Builtin.bitAnd (m : Int) (-(m : Int)) = ((m - (m &&& (m - 1)) : Nat) : Int) := by
  unfold Builtin.bitAnd
  rw [decide_eq_true (by omega : (0 : Int) ≤ (m : Int)), decide_eq_false (by omega : ¬ (0 : Int) ≤ -(m : Int))]
  show (m : Int) - ((((m : Int).toNat) &&& (Builtin.bitNot (-(m : Int))).toNat : Nat) : Int) = _
  rw [Int.toNat_natCast, show (Builtin.bitNot (-(m : Int))).toNat = m - 1 by unfold Builtin.bitNot; omega]
  have := and_lt h
  omega
/-- the mask of a list of numbers -/
def maskOf (ns : List Int) : Nat := ns.foldl (fun m n => m ||| 2 ^ n.toNat) 0
theorem maskOf_snoc (ns : List Int) (n : Int) : maskOf (ns ++ [n]) = maskOf ns ||| 2 ^ n.toNat := by unfold maskOf; rw [List.foldl_append]; rfl
theorem tb_fold (j : Nat) : ∀ (ns : List Int) (m : Nat), (ns.foldl (fun m n => m ||| 2 ^ n.toNat) m).testBit j = (m.testBit j || ns.any fun n => decide (n.toNat = j))
  | [], m => by simp
  | n :: ns, m => by
    rw [List.foldl_cons, tb_fold j ns, Nat.testBit_or, Nat.testBit_two_pow, List.any_cons, Bool.or_assoc]
theorem tb_maskOf (ns : List Int) (j : Nat) : (maskOf ns).testBit j = ns.any fun n => decide (n.toNat = j) := by
  unfold maskOf
  rw [tb_fold, Nat.zero_testBit, Bool.false_or]
theorem tb_maskOf_mem {ns : List Int} (h : ∀ n ∈ ns, 0 ≤ n) (j : Nat) : (maskOf ns).testBit j = true ↔ (j : Int) ∈ ns := by
  rw [tb_maskOf, List.any_eq_true]
  constructor
  · rintro ⟨n, hn, e⟩
    have e := of_decide_eq_true e
    have := h n hn
    have : n = (j : Int) := by omega
    rw [← this]; exact hn
  · intro hj
    exact ⟨_, hj, by simp⟩
theorem maskOf_lt {ns : List Int} (h : ∀ n ∈ ns, 0 ≤ n ∧ n < 64) : maskOf ns < 2 ^ 64 := by
  apply Nat.lt_pow_two_of_testBit
  intro i hi
  cases e : (maskOf ns).testBit i with
  | false => rfl
  | true =>
    have := (tb_maskOf_mem (fun n hn => (h n hn).1) i).mp e
    have := (h _ this).2
    omega
theorem maskOf_perm {ns ms : List Int} (h : ns.Perm ms) : maskOf ns = maskOf ms := by
  apply Nat.eq_of_testBit_eq
  intro i
  rw [tb_maskOf, tb_maskOf]
  exact h.any_eq
/-- a number is the sum of its bits -/
def sumTo (m n : Nat) : Nat := ((List.range n).map fun j => if m.testBit j then 2 ^ j else 0).sum
theorem sumTo_eq (m : Nat) : ∀ n, sumTo m n = m % 2 ^ n
  | 0 => by simp [sumTo, Nat.mod_one]
  | n + 1 => by
    have ih := sumTo_eq m n
    unfold sumTo at ih ⊢
    rw [List.range_succ, List.map_append, List.sum_append, ih]
    have hm : m % 2 ^ (n + 1) = m % 2 ^ n + 2 ^ n * (m / 2 ^ n % 2) := by rw [Nat.pow_succ, Nat.mod_mul]
    rw [hm, List.map_singleton, List.sum_singleton]
    by_cases e : m.testBit n = true
    · rw [if_pos e, (tb_iff m n).mp e, Nat.mul_one]
    · rw [if_neg e]
      have h2 : ¬ m / 2 ^ n % 2 = 1 := fun z => e ((tb_iff m n).mpr z)
      have h3 : m / 2 ^ n % 2 = 0 := by omega
      rw [h3, Nat.mul_zero]
theorem sum_nums {m : Nat} (h : m < 2 ^ 64) : ((nums m).map fun (j : Nat) => (2 : Int) ^ j).sum = (m : Int) := by
  have e : ∀ l : List Nat, ((l.filter m.testBit).map fun (j : Nat) => (2 : Int) ^ j).sum = (((l.map fun j => if m.testBit j then 2 ^ j else 0).sum : Nat) : Int) := fun l => by
    induction l with
    | nil => rfl
    | cons x l ih =>
      rw [List.map_cons, List.sum_cons, Int.natCast_add, ← ih]
      cases hx : m.testBit x with
      | true => rw [List.filter_cons_of_pos (by exact hx), List.map_cons, List.sum_cons, if_pos rfl, pow_cast]
      | false => rw [List.filter_cons_of_neg (by rw [hx]; decide), if_neg Bool.false_ne_true]; simp
  unfold nums
  rw [e]
  have := sumTo_eq m 64
  unfold sumTo at this
  rw [this, Nat.mod_eq_of_lt h]
/-- the powers of 2 -/
def pows (n : Nat) : List Int := (List.range n).map fun (i : Nat) => (2 : Int) ^ i
theorem pows_succ (n : Nat) : pows (n + 1) = pows n ++ [(2 : Int) ^ n] := by unfold pows; rw [List.range_succ, List.map_append]; rfl
theorem pows_len (n : Nat) : (pows n).length = n := by unfold pows; rw [List.length_map, List.length_range]
theorem pows_get {n i : Nat} (h : i < n) : (pows n)[i]? = some ((2 : Int) ^ i) := by
  unfold pows
  rw [List.getElem?_map, List.getElem?_range h]
  rfl
end Mk

set_option Elab.async false
set_option linter.all false
set_option maxRecDepth 100000
set_option maxHeartbeats 1000000
/-! ListRev: list(reversed(xs)) -/
namespace LRv
open PySem PySem.Spec PyProof.Rows
section
variable {prog : Program} {w : World} {A : Around} {E : Value → Shared → Prop} {s : Shared}
theorem ext_rev {R : Result → Shared → Prop} {it l S : Addr} {items : Array Value} {c₀ : Nat} {res : Value} (hh : A.handled = none) (hit : s.heap.IsRevIter it l ((items.size : Int) - 1)) (hl : s.heap.IsList l items) (hne : l ≠ it) (hn : items.size ≤ sizeLine)
    (hS : s.heap.get? S = some { cls := .type "list", data := .seq #[] c₀ }) (hSi : S ≠ it) (hSl : S ≠ l)
    (hR : ∀ h' tk acc' c', (∀ b o, b ≠ S → b ≠ it → s.heap.get? b = some o → h'.get? b = some o) → h'.get? S = some { cls := .type "list", dict := none, data := .seq acc' c', slots := #[] } →
      ItemsOf (fun i v => items[items.size - 1 - i]? = some v) acc' items.size → R (.ok (.ret res)) { s with heap := h', toks := tk }) :
    wpAny (model prog w) A.in1 (Builtin.List.listExtendWith (.ref S) (.ref it) res)
      (fun fin s' => match fin with | .done f => R (.ok f) s' | .again c' => c'.quiet = true ∧ codeAny (model prog w) A c' R s') (fun e s' => R (.error e) s') s := by
  have W := (Walks.listRev (prog := prog) (w := w) (A := A.in1) hh it l hne items).toS
  have hSf : S ∉ [it, l] := by simp only [List.mem_cons, List.not_mem_nil, or_false, not_or]; exact ⟨hSi, hSl⟩
  have hT : s.TypeIs (.ref it) "list_reverseiterator" := Heap.IsRevIter.typeIs hit
  have h1 : Builtin.List.listSameRef (.ref S) (.ref it) = false := by simp [Builtin.List.listSameRef, hSi]
  unfold Builtin.List.listExtendWith
  refine wpAny_bind (wpAny_typeOf hT ?_)
  rw [if_neg (by rw [h1]; decide)]
  refine wpAny_bind (wpAny_pyIter_revIter hit ?_)
  refine wpAny_bind (wpAny_holding ?_)
  unfold Builtin.List.listLengthHint
  refine wpAny_bind (wpAny_specialOf hT RT.nolen_lri ?_)
  show wpAny _ A.in1 (specialOf (Value.ref it) (Str.ofString "__length_hint__") >>= _) _ _ _
  refine wpAny_bind (wpAny_specialOf hT RT.hint_lri ?_)
  generalize hid : ("list_reverseiterator.__length_hint__" : String) = id0
  wp_delta
  rw [show splitId id0 = some ("list_reverseiterator", "__length_hint__") from by subst hid; decide +kernel]
  subst hid
  refine wpAny_bind (wpAny_isInstance (b := true) hT (by rw [isSubtype_type]; kernel_rfl) ?_)
  refine wpAny_pure ?_
  rw [if_neg (by decide)]
  have e0 : ((items.size : Nat) : Int) - 1 - ((0 : Nat) : Int) = (items.size : Int) - 1 := by omega
  refine wpAny_pure ⟨plainId_quiet F.plain_extend_loop _, codeAny_extend_loopS W hn _ hSf _ items.size 0 _ _ _ rfl (Nat.zero_le _) ⟨Nat.zero_le _, by rw [e0]; exact hit, hl⟩ hS (ItemsOf.nil _) fun s' acc' c' hm hS' hacc => ?_⟩
  rw [Moved.eq_with hm]
  refine hR s'.heap s'.toks acc' c' (fun b o hb hb2 e => hm.heap b o (fun hmem => ?_) e) hS' hacc
  rcases List.mem_cons.mp hmem with e' | hmem
  · exact hb e'
  · exact hb2 (List.mem_singleton.mp hmem)
theorem init_rev {R : Result → Shared → Prop} {it l S : Addr} {items : Array Value} (hh : A.handled = none) (hit : s.heap.IsRevIter it l ((items.size : Int) - 1)) (hl : s.heap.IsList l items) (hne : l ≠ it) (hn : items.size ≤ sizeLine)
    (hS : s.heap.get? S = some { cls := .type "list", data := .seq #[] }) (hSi : S ≠ it) (hSl : S ≠ l)
    (hR : ∀ h' tk acc' c', (∀ b o, b ≠ S → b ≠ it → s.heap.get? b = some o → h'.get? b = some o) → h'.get? S = some { cls := .type "list", dict := none, data := .seq acc' c', slots := #[] } →
      ItemsOf (fun i v => items[items.size - 1 - i]? = some v) acc' items.size → R (.ok (.ret .none)) { s with heap := h', toks := tk }) :
    wpAny (model prog w) A.in1 (Builtin.«list.__init__» ⟨[.ref S, .ref it], []⟩)
      (fun fin s' => match fin with | .done f => R (.ok f) s' | .again c' => c'.quiet = true ∧ codeAny (model prog w) A c' R s') (fun e s' => R (.error e) s') s := by
  show wpAny _ _ (do let old ← Builtin.List.listItems (.ref S); Builtin.List.listUpdate (.ref S) (fun _ => #[]); letGo old.toList.reverse; Builtin.List.listExtendWith (.ref S) (.ref it) .none) _ _ s
  refine wpAny_bind ?_
  unfold Builtin.List.listItems
  refine wpAny_bind (wpAny_seqItems hS rfl (wpAny_pure ?_))
  show wpAny _ _ (updateSeq S (fun _ => #[]) >>= fun _ => letGo (#[] : Array Value).toList.reverse >>= fun _ => Builtin.List.listExtendWith (.ref S) (.ref it) .none) _ _ s
  refine wpAny_bind (wpAny_updateSeq hS rfl ?_)
  have hS₂ := Heap.get?_update_self (Obj.mapSeq (fun _ => (#[] : Array Value))) hS rfl
  have oth : ∀ b o, b ≠ S → s.heap.get? b = some o → (s.heap.update S (Obj.mapSeq (fun _ => (#[] : Array Value)))).get? b = some o :=
    fun b o hb e => (Heap.get?_update_other _ _ (Ne.symm hb)).trans e
  refine wpAny_bind (wpAny_letGo ?_)
  obtain ⟨o1, n1, m1⟩ := id hit
  obtain ⟨o2, n2, m2⟩ := id hl
  refine ext_rev hh ⟨o1, oth _ _ (Ne.symm hSi) n1, m1⟩ ⟨o2, oth _ _ (Ne.symm hSl) n2, m2⟩ hne hn hS₂ hSi hSl fun h' tk acc' c' hk hS' hacc => ?_
  exact hR h' tk acc' c' (fun b o hb hb2 e => hk b o hb hb2 (oth b o hb e)) hS' hacc
theorem call_list_rev {Q : Value → Shared → Prop} {it l : Addr} {items : Array Value} (hh : A.handled = none) (hit : s.heap.IsRevIter it l ((items.size : Int) - 1)) (hl : s.heap.IsList l items) (hne : l ≠ it) (hn : items.size ≤ sizeLine)
    (hQ : ∀ h' tk acc' c', (∀ b o, b ≠ it → s.heap.get? b = some o → h'.get? b = some o) → h'.get? s.heap.objs.size = some { cls := .type "list", dict := none, data := .seq acc' c', slots := #[] } →
      ItemsOf (fun i v => items[items.size - 1 - i]? = some v) acc' items.size → Q (.ref s.heap.objs.size) { s with heap := h', toks := tk }) :
    wpAny (model prog w) A (call (.type "list") [.ref it]) Q E s := by
  obtain ⟨o1, n1, m1⟩ := id hit
  obtain ⟨o2, n2, m2⟩ := id hl
  refine callType_codes (Q₁ := fun obj s₁ => obj = .ref s.heap.objs.size ∧ s₁ = { s with heap := s.heap.push { cls := .type "list", data := .seq #[] } }) F.called_list (F.typeCall_list_1 _) F.entry_list_init
    (code_list_new _ ⟨rfl, rfl⟩) fun obj s₁ h₁ => ?_
  obtain ⟨rfl, rfl⟩ := h₁
  have hS : (s.heap.push { cls := .type "list", data := .seq #[] }).get? s.heap.objs.size = some { cls := .type "list", data := .seq #[] } := Heap.get?_push_size _ rfl
  refine ⟨⟨_, hS, rfl⟩, F.args_list_init_2 _ _, init_rev (A := A.in1) hh (it := it) (l := l) (items := items) ⟨o1, Heap.get?_push_of_some _ n1, m1⟩ ⟨o2, Heap.get?_push_of_some _ n2, m2⟩ hne hn hS (Nat.ne_of_gt (Heap.lt_size n1)) (Nat.ne_of_gt (Heap.lt_size n2)) fun h' tk acc' c' hk hS' hacc => ?_⟩
  exact ⟨rfl, hQ h' tk acc' c' (fun b o hb e => hk b o (Nat.ne_of_lt (Heap.lt_size e)) hb (Heap.get?_push_of_some _ e)) hS' hacc⟩
end
end LRv
namespace Sat
open PySem PySem.Spec PyProof.Rows L2
open Evl (Ex)
def tLstRev (K : PySem.W.Frag) (te : TE) : TE := fun σ H Q => te σ H fun v H1 => ∃ (a : Addr) (xs : List V), v = .ref a ∧ SqL K H1 a xs ∧ ∀ q, H1 q = none → Q (.ref q) (upd H1 q (.lst xs.reverse))
theorem pe_listRev {X : Cx} {e : Expr} {te : TE} {p p2 pos pos2 : Pos} (hc : X.calm = true) (hg : Gl X "list") (hm : X.mg "list" = none) (hg2 : Gl X "reversed") (hm2 : X.mg "reversed" = none) (he : PE X e te)
    (hs : starEach [e] X.env = (false, eval e X.env) :: starEach [] X.env := by rfl)
    (hs2 : starEach [.Call (.Name "reversed" p2) [e] [] pos2] X.env = (false, eval (.Call (.Name "reversed" p2) [e] [] pos2) X.env) :: starEach [] X.env := by rfl) :
    PE X (.Call (.Name "list" p) [.Call (.Name "reversed" p2) [e] [] pos2] [] pos) (tLstRev X.K te) := by
  refine ⟨fun pins s σ H Q I h => ?_⟩
  refine Call_ (ld_blt I hg hm boot_list (PyProof.Rows.callWith_type1 (args_cons (Call_ (ld_blt I hg2 hm2 PyProof.Rows.boot_reversed (PyProof.Rows.callWith_type1 (args_cons (thn (he.run pins s σ H _ I h) fun u s1 ⟨v, H1, I1, r1, q1⟩ => args_nil ?_) hs) hs rfl))) hs2) hs2 rfl))
  obtain ⟨a, xs, ev, hq, q⟩ := q1
  subst ev
  obtain rfl : u = Value.ref a := r1
  obtain ⟨its, rv, p', hz⟩ := I1.list hq
  refine call_reversed_list p'.isList (args_nil ?_)
  have k0 : ∀ b o, s1.heap.get? b = some o → (s1.heap.push (revObj a ((its.toArray.size : Int) - 1))).get? b = some o := fun b o e => Heap.get?_push_of_some _ e
  have I2 : Inv X pins σ H1 { s1 with heap := s1.heap.push (revObj a ((its.toArray.size : Int) - 1)) } := I1.kept (t' := s1.toks) k0
  obtain ⟨f0, f1, f2, f3, f4, f5⟩ := I1.fpOk (H' := H1) (b := s1.heap.objs.size) (Nat.le_refl _) (I1.hok.fresh (Nat.le_refl _))
  have hl := p'.isList
  obtain ⟨ol, hol, _⟩ := id hl
  have hne : a ≠ s1.heap.objs.size := Nat.ne_of_lt (Heap.lt_size hol)
  have hn : its.toArray.size ≤ sizeLine := by rw [List.size_toArray, ← rv.length]; exact hz
  refine LRv.call_list_rev (s := { s1 with heap := s1.heap.push (revObj a ((its.toArray.size : Int) - 1)) }) (I1.ok.hd hc) ⟨_, Heap.get?_push_size _ rfl, rfl, rfl⟩ (hl.push _) hne hn fun h' tk acc c' hk hS' hi => ?_
  have hnone : H1 (s1.heap.push (revObj a ((its.toArray.size : Int) - 1))).objs.size = none := I2.hok.fresh (Nat.le_refl _)
  have hSi : s1.heap.objs.size ≠ (s1.heap.push (revObj a ((its.toArray.size : Int) - 1))).objs.size := by rw [Heap.size_push]; omega
  have I3 : Inv X pins σ (upd H1 (s1.heap.push (revObj a ((its.toArray.size : Int) - 1))).objs.size (.lst xs.reverse)) { s1 with heap := (s1.heap.push (revObj a ((its.toArray.size : Int) - 1))).push { cls := .type "list", dict := none, data := .seq acc c', slots := #[] }, toks := tk } :=
    I2.laid (t' := tk) (fun b o e => Heap.get?_push_of_some _ e) (Nat.le_refl _) (show ObjOk X.prog X.w _ _ _ (.lst xs.reverse) from ⟨by rw [List.length_reverse]; exact hz, acc.toList, c', RT.vals_rev rv hi, by rw [Array.toArray_toList]; exact Heap.get?_push_size _ rfl⟩)
  refine ⟨.ref (s1.heap.push (revObj a ((its.toArray.size : Int) - 1))).objs.size, _, I3.turned (h' := h') (t' := tk) (fun b o hb e => ?_) (by rw [upd_ne hSi]; exact f0) f1 f3 f4 f5, rfl, q _ hnone⟩
  by_cases hbS : b = (s1.heap.push (revObj a ((its.toArray.size : Int) - 1))).objs.size
  · subst hbS
    rw [Heap.get?_push_size _ rfl] at e
    cases e
    exact hS'
  · exact hk b o hb (by rw [Heap.get?_push_ne _ _ _ hbS] at e; exact e)
section
variable {K : PySem.W.Frag} {As : List A} {a : Addr} {ds : List Sat.D} {σ : L2.St} {H : Hp} {te : TE} {Q : VK}
theorem g_listRev (s : sat As H) (w : Vw As a ds) (e : E1 te σ H (.ref a)) (k : ∀ p H1, sat (ol p ds.reverse :: As) H1 → Q (.ref p) H1) : tLstRev K te σ H Q := by
  obtain ⟨xs, h1, h2, h3⟩ := s.vw w
  exact e _ ⟨a, xs, rfl, .inl (.inl h1), fun q hq => k q _ (s.newL hq h3.reverse)⟩
end
end Sat

set_option linter.all false
set_option autoImplicit true
/-! Webs: relations kept as masks; the closure, step by step -/
namespace Wb
open PySem PySem.Spec PyProof.Rows L2 Sat
abbrev Ps := List (Int × Int)
abbrev dP (p : Int × Int) : Sat.D := .tup [dI p.1, dI p.2]
abbrev dPs (ps : Ps) : List Sat.D := ps.map dP
/-! ### the faults of a web's parts -/
/-- the numbers in the order in which they are asked -/
def flat (ps : Ps) : List Int := ps.flatMap fun p => [p.1, p.2]
def bad (n i : Int) : Bool := decide (i < 0) || decide (n ≤ i)
def firstBad (n : Int) (ps : Ps) : Option Int := (flat ps).find? (bad n)
theorem firstBad_none {n : Int} {ps : Ps} (h : firstBad n ps = none) : ∀ p ∈ ps, (0 ≤ p.1 ∧ p.1 < n) ∧ (0 ≤ p.2 ∧ p.2 < n) := fun p hp => by
  unfold firstBad at h
  rw [List.find?_eq_none] at h
  have h1 := h p.1 (List.mem_flatMap.mpr ⟨p, hp, by simp⟩)
  have h2 := h p.2 (List.mem_flatMap.mpr ⟨p, hp, by simp⟩)
  simp [bad] at h1 h2
  omega
theorem firstBad_take {n : Int} {ps : Ps} {i : Nat} {p : Int × Int} (hi : ps[i]? = some p) (h : firstBad n (ps.take i) = none) : firstBad n (ps.take (i + 1)) = ([p.1, p.2] : List Int).find? (bad n) := by
  unfold firstBad flat at h ⊢
  rw [takeS hi, List.flatMap_append, List.find?_append, h]
  simp
theorem firstBad_all {n : Int} {ps : Ps} {i : Nat} {v : Int} (h : firstBad n (ps.take i) = some v) : firstBad n ps = some v := by
  unfold firstBad flat at h ⊢
  rw [← List.take_append_drop i ps, List.flatMap_append, List.find?_append, h]
  rfl
/-! ### relations -/
def put (M : Nat → Nat) (a b : Nat) : Nat → Nat := fun x => if x = b then M x ||| 2 ^ a else M x
def init (ps : Ps) : Nat → Nat := ps.foldl (fun M p => put M p.1.toNat p.2.toNat) fun _ => 0
theorem init_snoc (ps : Ps) (p : Int × Int) : init (ps ++ [p]) = put (init ps) p.1.toNat p.2.toNat := by unfold init; rw [List.foldl_append]; rfl
def step (M : Nat → Nat) (m : Nat) : Nat → Nat := fun d => if (M d).testBit m = true then M d ||| M m else M d
def stepTo (M : Nat → Nat) (m k : Nat) : Nat → Nat := fun d => if d < k then step M m d else M d
def clTo (ps : Ps) (k : Nat) : Nat → Nat := (List.range k).foldl step (init ps)
theorem clTo_succ (ps : Ps) (k : Nat) : clTo ps (k + 1) = step (clTo ps k) k := by unfold clTo; rw [List.range_succ, List.foldl_append]; rfl
theorem stepTo_zero (M : Nat → Nat) (m : Nat) : stepTo M m 0 = M := by funext d; unfold stepTo; rw [if_neg (Nat.not_lt_zero d)]
theorem step_self (M : Nat → Nat) (m : Nat) : step M m m = M m := by
  unfold step
  split
  · exact Nat.or_self _
  · rfl
theorem stepTo_mid (M : Nat → Nat) (m k : Nat) : stepTo M m k m = M m := by
  unfold stepTo
  split
  · exact step_self M m
  · rfl
theorem stepTo_at (M : Nat → Nat) (m k : Nat) : stepTo M m k k = M k := by unfold stepTo; rw [if_neg (Nat.lt_irrefl k)]
def row (n : Nat) (M : Nat → Nat) : List Int := (List.range n).map fun (d : Nat) => ((M d : Nat) : Int)
theorem row_len (n : Nat) (M : Nat → Nat) : (row n M).length = n := by unfold row; rw [List.length_map, List.length_range]
theorem row_get {n i : Nat} (M : Nat → Nat) (h : i < n) : (row n M)[i]? = some ((M i : Nat) : Int) := by
  unfold row
  rw [List.getElem?_map, List.getElem?_range h]
  rfl
theorem row_ext {n : Nat} {M N : Nat → Nat} (h : ∀ d, d < n → M d = N d) : row n M = row n N := by
  unfold row
  refine List.map_congr_left fun d hd => ?_
  rw [h d (List.mem_range.mp hd)]
theorem row_set {n i : Nat} (M : Nat → Nat) (v : Nat) : (row n M).set i (v : Int) = row n fun x => if x = i then v else M x := by
  refine List.ext_getElem? fun j => ?_
  rw [List.getElem?_set]
  by_cases hj : j < n
  · by_cases hij : i = j
    · subst hij
      rw [if_pos rfl, row_len, if_pos hj, row_get _ hj, if_pos rfl]
    · rw [if_neg hij, row_get _ hj, row_get _ hj, if_neg (fun z => hij z.symm)]
  · have e : ∀ N, (row n N)[j]? = none := fun N => List.getElem?_eq_none (by rw [row_len]; omega)
    rw [e, e]
    split
    · rename_i z
      rw [row_len, if_neg (by omega)]
    · rfl
theorem row_zero (n : Nat) : row n (fun _ => 0) = List.replicate n 0 := by
  unfold row
  refine List.ext_getElem (by simp) fun i h1 h2 => by simp
theorem row_step {n m k : Nat} {M : Nat → Nat} (c : (M k).testBit m = true) : (row n (stepTo M m k)).set k ((M k ||| M m : Nat) : Int) = row n (stepTo M m (k + 1)) := by
  rw [row_set]
  refine row_ext fun d _ => ?_
  by_cases h : d = k
  · subst h
    unfold stepTo step
    rw [if_pos rfl, if_pos (Nat.lt_succ_self d), if_pos c]
  · rw [if_neg h]
    unfold stepTo
    by_cases h2 : d < k
    · rw [if_pos h2, if_pos (by omega)]
    · rw [if_neg h2, if_neg (by omega)]
theorem row_same {n m k : Nat} {M : Nat → Nat} (c : ¬ (M k).testBit m = true) : row n (stepTo M m k) = row n (stepTo M m (k + 1)) := by
  refine row_ext fun d _ => ?_
  by_cases h : d = k
  · subst h
    unfold stepTo step
    rw [if_neg (Nat.lt_irrefl d), if_pos (Nat.lt_succ_self d), if_neg c]
  · unfold stepTo
    by_cases h2 : d < k
    · rw [if_pos h2, if_pos (by omega)]
    · rw [if_neg h2, if_neg (by omega)]
theorem row_end {n m : Nat} {M : Nat → Nat} : row n (stepTo M m n) = row n (step M m) := row_ext fun d hd => by unfold stepTo; rw [if_pos hd]
/-- masks stay below 2 ^ n -/
def Low (n : Nat) (M : Nat → Nat) : Prop := ∀ d, M d < 2 ^ n
theorem low_put {n a b : Nat} {M : Nat → Nat} (h : Low n M) (ha : a < n) : Low n (put M a b) := fun d => by
  unfold put
  split
  · exact Nat.or_lt_two_pow (h d) (Nat.pow_lt_pow_right (by decide) ha)
  · exact h d
theorem low_step {n m : Nat} {M : Nat → Nat} (h : Low n M) : Low n (step M m) := fun d => by
  unfold step
  split
  · exact Nat.or_lt_two_pow (h d) (h m)
  · exact h d
theorem low_init {n : Nat} {ps : Ps} (h : ∀ p ∈ ps, (0 ≤ p.1 ∧ p.1 < n) ∧ (0 ≤ p.2 ∧ p.2 < n)) : Low n (init ps) := by
  have key : ∀ (ps : Ps) (M : Nat → Nat), (∀ p ∈ ps, (0 ≤ p.1 ∧ p.1 < (n : Int)) ∧ (0 ≤ p.2 ∧ p.2 < (n : Int))) → Low n M → Low n (ps.foldl (fun M p => put M p.1.toNat p.2.toNat) M) := fun ps => by
    induction ps with
    | nil => intro M _ h; exact h
    | cons p ps ih =>
      intro M hp h
      exact ih _ (fun q hq => hp q (List.mem_cons_of_mem _ hq)) (low_put h (by have := hp p (List.mem_cons_self ..); omega))
  exact key ps _ h fun _ => Nat.pow_pos (by decide)
theorem low_cl {n : Nat} {ps : Ps} (h : ∀ p ∈ ps, (0 ≤ p.1 ∧ p.1 < n) ∧ (0 ≤ p.2 ∧ p.2 < n)) : ∀ k, Low n (clTo ps k)
  | 0 => low_init h
  | k + 1 => by rw [clTo_succ]; exact low_step (low_cl h k)
theorem orNN (a b : Nat) : Builtin.bitOr (a : Int) (b : Int) = ((a ||| b : Nat) : Int) := by
  rw [bitOr_nn (Int.natCast_nonneg _) (Int.natCast_nonneg _), Int.toNat_natCast, Int.toNat_natCast]
theorem shl_int (a : Nat) : (1 : Int) * 2 ^ a = ((2 ^ a : Nat) : Int) := by rw [Int.one_mul, Mk.pow_cast]
/-! ### the turned relation -/
/-- of the first j masks: the masks of the numbers that have a -/
def turnTo (M : Nat → Nat) : Nat → Nat → Nat
  | 0, _ => 0
  | j + 1, a => if (M j).testBit a = true then turnTo M j a ||| 2 ^ j else turnTo M j a
/-- within the j-th: behind the numbers of l -/
def turnIn (M : Nat → Nat) (j : Nat) (l : List Nat) : Nat → Nat := fun a => if a ∈ l then turnTo M j a ||| 2 ^ j else turnTo M j a
theorem turnIn_nil (M : Nat → Nat) (j : Nat) : turnIn M j [] = turnTo M j := by funext a; unfold turnIn; rw [if_neg (by simp)]
theorem turnIn_at {M : Nat → Nat} {j e : Nat} {l : List Nat} (h : e ∉ l) : turnIn M j l e = turnTo M j e := by unfold turnIn; rw [if_neg h]
theorem turnIn_snoc {M : Nat → Nat} {j e n : Nat} {l : List Nat} (h : e ∉ l) : (row n fun x => if x = e then turnTo M j e ||| 2 ^ j else turnIn M j l x) = row n (turnIn M j (l ++ [e])) := row_ext fun d _ => by
  unfold turnIn
  by_cases z : d = e
  · subst z
    rw [if_pos rfl, if_pos (by simp)]
  · rw [if_neg z]
    by_cases y : d ∈ l
    · rw [if_pos y, if_pos (by simp [y])]
    · rw [if_neg y, if_neg (by simp [y, z])]
theorem turnIn_all {M : Nat → Nat} {j n : Nat} (hn : n ≤ 64) (h : M j < 2 ^ n) : row n (turnIn M j (Mk.nums (M j))) = row n (turnTo M (j + 1)) := row_ext fun d hd => by
  unfold turnIn
  show _ = if (M j).testBit d = true then _ else _
  by_cases c : (M j).testBit d = true
  · rw [if_pos c, if_pos (Mk.mem_nums.mpr ⟨by omega, c⟩)]
  · rw [if_neg c, if_neg (fun z => c (Mk.mem_nums.mp z).2)]
theorem nums_lt {m n : Nat} (h : m < 2 ^ n) : ∀ i ∈ Mk.nums m, i < n := fun i hi => by
  have c := (Mk.mem_nums.mp hi).2
  by_cases z : i < n
  · exact z
  · have := Nat.testBit_lt_two_pow (Nat.lt_of_lt_of_le h (Nat.pow_le_pow_right (by decide) (Nat.le_of_not_lt z)))
    rw [this] at c
    cases c
theorem nums_nodup (m : Nat) : (Mk.nums m).Nodup := List.nodup_range.filter _
theorem tb_turn {M : Nat → Nat} {a d : Nat} : ∀ {j : Nat}, (turnTo M j a).testBit d = (decide (d < j) && (M d).testBit a)
  | 0 => by simp [turnTo]
  | j + 1 => by
    unfold turnTo
    split
    · rename_i c
      rw [Nat.testBit_or, tb_turn, Nat.testBit_two_pow]
      by_cases e : j = d
      · subst e; simp [c]
      · have : decide (d < j + 1) = decide (d < j) := by
          by_cases z : d < j
          · rw [decide_eq_true z, decide_eq_true (by omega)]
          · rw [decide_eq_false z, decide_eq_false (by omega)]
        simp [e, this]
    · rename_i c
      rw [tb_turn]
      by_cases e : j = d
      · subst e
        have c' : (M j).testBit a = false := by simpa using c
        simp [c']
      · have : decide (d < j + 1) = decide (d < j) := by
          by_cases z : d < j
          · rw [decide_eq_true z, decide_eq_true (by omega)]
          · rw [decide_eq_false z, decide_eq_false (by omega)]
        rw [this]
theorem low_turn {n : Nat} (M : Nat → Nat) : ∀ j, j ≤ n → Low n (turnTo M j)
  | 0, _ => fun _ => Nat.pow_pos (by decide)
  | j + 1, h => fun a => by
    unfold turnTo
    split
    · exact Nat.or_lt_two_pow (low_turn M j (by omega) a) (Nat.pow_lt_pow_right (by decide) (by omega))
    · exact low_turn M j (by omega) a
/-! ### a list of lists that may be written -/
def rowB (n : Nat) (f : Nat → Bool) : List Sat.D := (List.range n).map fun b => dB (f b)
theorem rowB_len (n : Nat) (f : Nat → Bool) : (rowB n f).length = n := by unfold rowB; rw [List.length_map, List.length_range]
theorem rowB_get {n i : Nat} (f : Nat → Bool) (h : i < n) : (rowB n f)[i]? = some (dB (f i)) := by
  unfold rowB
  rw [List.getElem?_map, List.getElem?_range h]
  rfl
theorem rowB_ext {n : Nat} {f g : Nat → Bool} (h : ∀ b, b < n → f b = g b) : rowB n f = rowB n g := List.map_congr_left fun b hb => by rw [h b (List.mem_range.mp hb)]
theorem rowB_at {n : Nat} {f : Nat → Bool} {z : Int} (h0 : 0 ≤ z) (h : z < n) : atI (rowB n f) z = some (.v (.bl (f z.toNat))) := atI_at z.toNat (by omega) (rowB_get f (by omega))
theorem rowB_atN {n i : Nat} {f : Nat → Bool} (h : i < n) : atI (rowB n f) (i : Int) = some (.v (.bl (f i))) := atI_at i rfl (rowB_get f h)
theorem rowB_set {n b : Nat} (f : Nat → Bool) : (rowB n f).set b (dB true) = rowB n fun y => if y = b then true else f y := by
  refine List.ext_getElem? fun j => ?_
  rw [List.getElem?_set]
  by_cases hj : j < n
  · by_cases hij : b = j
    · subst hij
      rw [if_pos rfl, rowB_len, if_pos hj, rowB_get _ hj, if_pos rfl]
    · rw [if_neg hij, rowB_get _ hj, rowB_get _ hj, if_neg (fun z => hij z.symm)]
  · have e : ∀ g, (rowB n g)[j]? = none := fun g => List.getElem?_eq_none (by rw [rowB_len]; omega)
    rw [e, e]
    split
    · rename_i z
      rw [rowB_len, if_neg (by omega)]
    · rfl
theorem rowB_rep (n : Nat) (c : Bool) : List.replicate n (dB c) = rowB n fun _ => c := by
  unfold rowB
  refine List.ext_getElem (by simp) fun i h1 h2 => by simp
abbrev refs (bs : List Addr) : List Sat.D := bs.reverse.map fun a => Sat.D.v (.ref a)
/-- the owned rows, the last one first -/
def fm (n : Nat) (bs : List Addr) (W : Nat → Nat → Bool) : List A := bs.mapIdx fun j a => ol a (rowB n (W (n - 1 - j)))
theorem fm_len (n : Nat) (bs : List Addr) (W : Nat → Nat → Bool) : (fm n bs W).length = bs.length := by unfold fm; rw [List.length_mapIdx]
theorem fm_get {n : Nat} {bs : List Addr} {j : Nat} {a : Addr} (W : Nat → Nat → Bool) (h : bs[j]? = some a) : (fm n bs W)[j]? = some (ol a (rowB n (W (n - 1 - j)))) := by
  unfold fm
  rw [List.getElem?_mapIdx, h]
  rfl
theorem fm_ext {n : Nat} {bs : List Addr} {W W' : Nat → Nat → Bool} (hl : bs.length = n) (h : ∀ x y, x < n → y < n → W x y = W' x y) : fm n bs W = fm n bs W' := by
  refine List.ext_getElem? fun j => ?_
  cases e : bs[j]? with
  | none =>
    have : n ≤ j := by
      have := List.getElem?_eq_none_iff.mp e
      omega
    rw [List.getElem?_eq_none (by rw [fm_len]; omega), List.getElem?_eq_none (by rw [fm_len]; omega)]
  | some a =>
    have hj : j < n := by
      obtain ⟨q, _⟩ := List.getElem?_eq_some_iff.mp e
      omega
    rw [fm_get W e, fm_get W' e, rowB_ext fun y hy => h _ y (by omega) hy]
def upd1 (W : Nat → Nat → Bool) (i b : Nat) : Nat → Nat → Bool := fun x y => if x = i ∧ y = b then true else W x y
theorem fm_set {n i b : Nat} {bs : List Addr} {a : Addr} (W : Nat → Nat → Bool) (hl : bs.length = n) (hi : i < n) (ha : bs[n - 1 - i]? = some a) : (fm n bs W).set (n - 1 - i) (ol a ((rowB n (W i)).set b (dB true))) = fm n bs (upd1 W i b) := by
  refine List.ext_getElem? fun j => ?_
  rw [List.getElem?_set]
  cases e : bs[j]? with
  | none =>
    have hj : n ≤ j := by
      have := List.getElem?_eq_none_iff.mp e
      omega
    rw [if_neg (by omega), List.getElem?_eq_none (by rw [fm_len]; omega), List.getElem?_eq_none (by rw [fm_len]; omega)]
  | some c =>
    have hj : j < n := by
      obtain ⟨q, _⟩ := List.getElem?_eq_some_iff.mp e
      omega
    by_cases z : n - 1 - i = j
    · subst z
      rw [if_pos rfl, fm_len, if_pos (by omega), fm_get _ e]
      rw [ha] at e
      cases e
      rw [rowB_set]
      have : n - 1 - (n - 1 - i) = i := by omega
      rw [this]
      refine congrArg (fun r => some (ol a r)) (rowB_ext fun y _ => ?_)
      unfold upd1
      by_cases q : y = b
      · rw [if_pos q, if_pos ⟨rfl, q⟩]
      · rw [if_neg q, if_neg (fun z => q z.2)]
    · rw [if_neg z, fm_get W e, fm_get _ e]
      refine congrArg (fun r => some (ol c r)) (rowB_ext fun y _ => ?_)
      unfold upd1
      rw [if_neg (fun q => z (by omega))]
section
variable {n i b : Nat} {bs : List Addr} {W : Nat → Nat → Bool} {p : Addr} {Fr : List A} {H : Hp}
abbrev wsA (n : Nat) (bs : List Addr) (W : Nat → Nat → Bool) (p : Addr) (Fr : List A) : List A := ol p (refs bs) :: (fm n bs W ++ Fr)
theorem ws_row (hl : bs.length = n) (hi : i < n) : ∃ a, bs[n - 1 - i]? = some a ∧ atI (refs bs) (i : Int) = some (.v (.ref a)) := by
  have h : n - 1 - i < bs.length := by omega
  refine ⟨bs[n - 1 - i], List.getElem?_eq_getElem h, atI_at i rfl ?_⟩
  rw [List.getElem?_map, List.getElem?_reverse (by omega), hl, List.getElem?_eq_getElem h]
  rfl
theorem ws_at {a : Addr} (hl : bs.length = n) (hi : i < n) (ha : bs[n - 1 - i]? = some a) : (wsA n bs W p Fr)[n - 1 - i + 1]? = some (ol a (rowB n (W i))) := by
  rw [List.getElem?_cons_succ, List.getElem?_append_left (by rw [fm_len]; omega), fm_get W ha]
  have : n - 1 - (n - 1 - i) = i := by omega
  rw [this]
theorem ws_vw {a : Addr} (hl : bs.length = n) (hi : i < n) (ha : bs[n - 1 - i]? = some a) : Vw (wsA n bs W p Fr) a (rowB n (W i)) := .o _ (ws_at hl hi ha)
theorem ws_set {a : Addr} {R : Hp → Prop} (s : sat (wsA n bs W p Fr) H) (hl : bs.length = n) (hi : i < n) (hb : b < n) (ha : bs[n - 1 - i]? = some a) (k : ∀ H1, sat (wsA n bs (upd1 W i b) p Fr) H1 → R H1) : rSetL (.ref a) (.int (b : Int)) (.bl true) H R := by
  refine x_setL (d := dB true) (j := b) s (n - 1 - i + 1) (ws_at hl hi ha) Ent.v ?_ fun H1 h => k H1 ?_
  · unfold ixN
    rw [if_pos (Int.natCast_nonneg b), rowB_len, if_pos (by omega), Int.toNat_natCast]
  · rw [List.set_cons_succ, List.set_append_left _ _ (by rw [fm_len]; omega), fm_set W hl hi ha] at h
    exact h
theorem ws_ext {W' : Nat → Nat → Bool} (s : sat (wsA n bs W p Fr) H) (hl : bs.length = n) (h : ∀ x y, x < n → y < n → W x y = W' x y) : sat (wsA n bs W' p Fr) H := by
  unfold wsA at s ⊢
  rw [fm_ext hl h] at s
  exact s
end
/-! the phases of the closure, bit by bit -/
def bitsOf (M : Nat → Nat) : Nat → Nat → Bool := fun a b => (M b).testBit a
theorem bits_put (M : Nat → Nat) (a b : Nat) : upd1 (bitsOf M) a b = bitsOf (put M a b) := by
  funext x y
  unfold upd1 bitsOf put
  by_cases hy : y = b
  · subst hy
    rw [if_pos rfl, Nat.testBit_or, Nat.testBit_two_pow]
    by_cases hx : x = a
    · subst hx; simp
    · rw [if_neg (fun z => hx z.1)]
      rw [show decide (a = x) = false from decide_eq_false fun z => hx z.symm, Bool.or_false]
  · rw [if_neg (fun z => hy z.2), if_neg hy]
def wA (M : Nat → Nat) (m k : Nat) : Nat → Nat → Bool := fun x y => if x < k then (step M m y).testBit x else (M y).testBit x
def wB (M : Nat → Nat) (m k l : Nat) : Nat → Nat → Bool := fun x y => if x = k then (if y < l then (M y).testBit k || (M y).testBit m else (M y).testBit k) else wA M m k x y
theorem wA_zero (M : Nat → Nat) (m : Nat) : wA M m 0 = bitsOf M := by funext x y; unfold wA bitsOf; rw [if_neg (Nat.not_lt_zero x)]
theorem wA_all {M : Nat → Nat} {m n x y : Nat} (hx : x < n) : wA M m n x y = bitsOf (step M m) x y := by unfold wA bitsOf; rw [if_pos hx]
theorem wA_test (M : Nat → Nat) (m k : Nat) : wA M m k k m = (M m).testBit k := by unfold wA; rw [if_neg (Nat.lt_irrefl k)]
theorem step_bit (M : Nat → Nat) (m y x : Nat) : (step M m y).testBit x = ((M y).testBit x || ((M y).testBit m && (M m).testBit x)) := by
  unfold step
  cases c : (M y).testBit m with
  | true => rw [if_pos rfl, Nat.testBit_or]; simp
  | false => rw [if_neg (by simp)]; simp
theorem wB_zero (M : Nat → Nat) (m k : Nat) : wB M m k 0 = wA M m k := by
  funext x y
  unfold wB
  by_cases h : x = k
  · subst h
    rw [if_pos rfl, if_neg (Nat.not_lt_zero y)]
    unfold wA
    rw [if_neg (Nat.lt_irrefl x)]
  · rw [if_neg h]
theorem wB_mid (M : Nat → Nat) (m k l : Nat) : wB M m k l m l = (M l).testBit m := by
  unfold wB
  by_cases h : m = k
  · subst h
    rw [if_pos rfl, if_neg (Nat.lt_irrefl l)]
  · rw [if_neg h]
    unfold wA
    by_cases c : m < k
    · rw [if_pos c, step_bit]
      cases (M l).testBit m <;> simp
    · rw [if_neg c]
theorem wB_yes {M : Nat → Nat} {m k l : Nat} (c : (M l).testBit m = true) : upd1 (wB M m k l) k l = wB M m k (l + 1) := by
  funext x y
  unfold upd1 wB
  by_cases hx : x = k
  · subst hx
    rw [if_pos rfl]
    by_cases hy : y = l
    · subst hy
      rw [if_pos ⟨rfl, rfl⟩, if_pos (Nat.lt_succ_self y), c]
      simp
    · rw [if_neg (fun z => hy z.2), if_pos rfl]
      by_cases h : y < l
      · rw [if_pos h, if_pos (by omega)]
      · rw [if_neg h, if_neg (by omega)]
  · rw [if_neg (fun z => hx z.1), if_neg hx, if_neg hx]
theorem wB_no {M : Nat → Nat} {m k l : Nat} (c : (M l).testBit m = false) : wB M m k l = wB M m k (l + 1) := by
  funext x y
  unfold wB
  by_cases hx : x = k
  · rw [if_pos hx, if_pos hx]
    by_cases hy : y = l
    · subst hy
      rw [if_neg (Nat.lt_irrefl y), if_pos (Nat.lt_succ_self y), c]
      simp
    · by_cases h : y < l
      · rw [if_pos h, if_pos (by omega)]
      · rw [if_neg h, if_neg (by omega)]
  · rw [if_neg hx, if_neg hx]
theorem wB_all {M : Nat → Nat} {m k n x y : Nat} (c : (M m).testBit k = true) (hy : y < n) : wB M m k n x y = wA M m (k + 1) x y := by
  unfold wB wA
  by_cases hx : x = k
  · subst hx
    rw [if_pos rfl, if_pos hy, if_pos (Nat.lt_succ_self x), step_bit, c]
    simp
  · rw [if_neg hx]
    by_cases h : x < k
    · rw [if_pos h, if_pos (by omega)]
    · rw [if_neg h, if_neg (by omega)]
theorem wA_no {M : Nat → Nat} {m k x y : Nat} (c : (M m).testBit k = false) : wA M m k x y = wA M m (k + 1) x y := by
  unfold wA
  by_cases hx : x = k
  · subst hx
    rw [if_neg (Nat.lt_irrefl x), if_pos (Nat.lt_succ_self x), step_bit, c]
    simp
  · by_cases h : x < k
    · rw [if_pos h, if_pos (by omega)]
    · rw [if_neg h, if_neg (by omega)]
/-- the rows as data -/
def rowsD (n : Nat) (M : Nat → Nat) : Sat.D := .lst ((List.range n).map fun a => .lst (rowB n (bitsOf M a)))
/-- the owned rows are frozen -/
theorem fm_frz {n : Nat} {W : Nat → Nat → Bool} : ∀ (bs : List Addr) (k : Nat) (X Fr : List A) (H : Hp), sat (X ++ ((bs.mapIdx fun j a => ol a (rowB n (W (n - 1 - (k + j))))) ++ Fr)) H → sat (X ++ ((bs.mapIdx fun j a => A.rp (.ref a) (.lst (rowB n (W (n - 1 - (k + j)))))) ++ Fr)) H
  | [], _, _, _, _, h => h
  | b :: bs, k, X, Fr, H, h => by
    rw [List.mapIdx_cons, List.cons_append] at h ⊢
    have e : (X ++ ol b (rowB n (W (n - 1 - (k + 0)))) :: ((bs.mapIdx fun j a => ol a (rowB n (W (n - 1 - (k + (j + 1)))))) ++ Fr))[X.length]? = some (ol b (rowB n (W (n - 1 - (k + 0))))) := by
      rw [List.getElem?_append_right (Nat.le_refl _), Nat.sub_self]
      rfl
    have h2 := h.frz X.length e
    rw [List.set_append_right _ _ (Nat.le_refl _), Nat.sub_self, List.set_cons_zero] at h2
    have h3 : sat ((X ++ [A.rp (.ref b) (.lst (rowB n (W (n - 1 - (k + 0)))))]) ++ ((bs.mapIdx fun j a => ol a (rowB n (W (n - 1 - ((k + 1) + j))))) ++ Fr)) H := by
      rw [List.append_assoc]
      simp only [Nat.add_assoc, Nat.add_comm 1]
      exact h2
    have h4 := fm_frz bs (k + 1) _ Fr H h3
    rw [List.append_assoc] at h4
    simp only [Nat.add_assoc, Nat.add_comm 1] at h4
    exact h4
theorem ws_frz {n : Nat} {bs : List Addr} {M : Nat → Nat} {p : Addr} {Fr : List A} {H : Hp} (hl : bs.length = n) (s : sat (wsA n bs (bitsOf M) p Fr) H) : sat (.rp (.ref p) (rowsD n M) :: Fr) H := by
  have s1 := fm_frz (n := n) (W := bitsOf M) bs 0 [ol p (refs bs)] Fr H (by
    simp only [Nat.zero_add]
    exact s)
  simp only [Nat.zero_add] at s1
  have s2 := s1.frz 0
  have s3 : sat (.rp (.ref p) (.lst (refs bs)) :: ((bs.mapIdx fun j a => A.rp (.ref a) (.lst (rowB n (bitsOf M (n - 1 - j))))) ++ Fr)) H := s2
  have e : Ent (.rp (.ref p) (.lst (refs bs)) :: ((bs.mapIdx fun j a => A.rp (.ref a) (.lst (rowB n (bitsOf M (n - 1 - j))))) ++ Fr)) H (.ref p) (rowsD n M) := fun F q => by
    have h0 : Rp F (.ref p) (.lst (refs bs)) := q.ok (.rp (.ref p) (.lst (refs bs))) (List.mem_cons_self ..)
    have hr : ∀ j a, bs[j]? = some a → Rp F (.ref a) (.lst (rowB n (bitsOf M (n - 1 - j)))) := fun j a ha => by
      refine q.ok (.rp (.ref a) (.lst (rowB n (bitsOf M (n - 1 - j))))) (List.mem_cons_of_mem _ (List.mem_append_left _ (List.mem_of_getElem? (i := j) ?_)))
      rw [List.getElem?_mapIdx, ha]
      rfl
    cases h0 with
    | @lst _ xs _ f1 f2 =>
      refine .lst f1 ?_
      have e1 : xs = bs.reverse.map V.ref := by
        refine RpA.flat (F := F) ?_
        rw [List.map_map]
        exact f2
      subst e1
      have key : ∀ (l : List Addr) (ds : List Sat.D), l.length = ds.length → (∀ (i : Nat) a d, l[i]? = some a → ds[i]? = some d → Rp F (.ref a) d) → RpA F (l.map V.ref) ds := by
        intro l
        induction l with
        | nil => intro ds hz _; cases ds with | nil => exact .nil | cons _ _ => cases hz
        | cons a l ih =>
          intro ds hz h
          cases ds with
          | nil => cases hz
          | cons d ds => exact .cons (h 0 a d rfl rfl) (ih ds (by simpa using hz) fun i a' d' h1 h2 => h (i + 1) a' d' h1 h2)
      refine key _ _ (by simp [hl]) fun i a d h1 h2 => ?_
      have hi : i < n := by
        obtain ⟨q, _⟩ := List.getElem?_eq_some_iff.mp h2
        simpa using q
      rw [List.getElem?_map, List.getElem?_range hi] at h2
      cases h2
      rw [List.getElem?_reverse (by omega), hl] at h1
      have := hr _ a h1
      have z : n - 1 - (n - 1 - i) = i := by omega
      rw [z] at this
      exact this
  have s4 := s3.rp e
  have s5 : sat (([.rp (.ref p) (rowsD n M), .rp (.ref p) (.lst (refs bs))] ++ (bs.mapIdx fun j a => A.rp (.ref a) (.lst (rowB n (bitsOf M (n - 1 - j))))) ++ Fr)) H := by
    simpa using s4
  have s6 := s5.pick [0] (2 + bs.length) ⟨by simp, fun i hi => by have := List.mem_singleton.mp hi; omega⟩
  have e2 : Sat.pick [0] (2 + bs.length) ([.rp (.ref p) (rowsD n M), .rp (.ref p) (.lst (refs bs))] ++ (bs.mapIdx fun j a => A.rp (.ref a) (.lst (rowB n (bitsOf M (n - 1 - j))))) ++ Fr) = .rp (.ref p) (rowsD n M) :: Fr := by
    unfold Sat.pick
    rw [List.drop_left' (by rw [List.length_append, List.length_mapIdx]; rfl)]
    rfl
  rw [e2] at s6
  exact s6
theorem Vw.app {Fr : List A} {a : Addr} {ds : List Sat.D} (w : Vw Fr a ds) : ∀ X : List A, Vw (X ++ Fr) a ds
  | [] => w
  | _ :: X => (Vw.app w X).up
theorem fm_new {n : Nat} {bs : List Addr} : fm n bs (bitsOf fun _ => 0) = bs.map fun a => ol a (List.replicate n (dB false)) := by
  refine List.ext_getElem? fun j => ?_
  rw [List.getElem?_map]
  cases e : bs[j]? with
  | none => rw [List.getElem?_eq_none (by rw [fm_len]; exact List.getElem?_eq_none_iff.mp e)]; rfl
  | some a =>
    rw [fm_get _ e, rowB_rep]
    refine congrArg (fun r => some (ol a r)) (rowB_ext fun y _ => ?_)
    unfold bitsOf
    exact Nat.zero_testBit _
theorem refs_cons (b : Addr) (bs : List Addr) : refs (b :: bs) = refs bs ++ [Sat.D.v (.ref b)] := by
  unfold refs
  rw [List.reverse_cons, List.map_append]
  rfl
theorem in_nat {n : Nat} {p : Int × Int} (h : (0 ≤ p.1 ∧ p.1 < n) ∧ (0 ≤ p.2 ∧ p.2 < n)) : ∃ u v : Nat, p = ((u : Int), (v : Int)) ∧ u < n ∧ v < n := by
  obtain ⟨a, b⟩ := p
  exact ⟨a.toNat, b.toNat, by
    have h1 : ((a.toNat : Nat) : Int) = a := by
      have := h.1.1
      simp only at this
      omega
    have h2 : ((b.toNat : Nat) : Int) = b := by
      have := h.2.1
      simp only at this
      omega
    rw [h1, h2], by have := h.1; simp only at this; omega, by have := h.2; simp only at this; omega⟩
/-- xs.append((a, b)) -/
theorem g_appP {K : PySem.W.Frag} {As : List A} {H : Hp} {σ : L2.St} {p : Addr} {ds : List Sat.D} {to ta tb : TE} {u v : Int} {R : VK} (s : sat As H) (m : Nat) (e : As[m]? = some (ol p ds)) (eo : E1 to σ H (.ref p)) (e1 : E1 ta σ H (.int u)) (e2 : E1 tb σ H (.int v)) (hz : ds.length < sizeLine)
    (k : ∀ H1, sat (As.set m (ol p (ds ++ [dP (u, v)]))) H1 → R .non H1) : tBM K "list" rAppend to (tCons (tTup (tCons ta (tCons tb tNil))) tNil) σ H R :=
  g_bmI eo (tyO s m e) (g_acons (g_tup s (e_cons e1 (e_cons e2 e_nil)) (EntA.cons Ent.v (EntA.cons Ent.v EntA.nil)) (sz 2 (by decide)) fun q H h => g_anil (x_app (d := dP (u, v)) h (m + 1) e (.at 0) hz fun H h => k H (h.drop 1))))
abbrev rowsL (n : Nat) (M : Nat → Nat) : List Sat.D := (List.range n).map fun a => .lst (rowB n (bitsOf M a))
theorem rowsL_len (n : Nat) (M : Nat → Nat) : (rowsL n M).length = n := by unfold rowsL; rw [List.length_map, List.length_range]
theorem rowsL_at {n a : Nat} {M : Nat → Nat} (h : a < n) : atI (rowsL n M) (a : Int) = some (.lst (rowB n (bitsOf M a))) := atI_at a rfl (by unfold rowsL; rw [List.getElem?_map, List.getElem?_range h]; rfl)
theorem x_ixF {K : PySem.W.Frag} {As : List A} {H : Hp} {p : Addr} {ds : List Sat.D} {i : Int} {d : Sat.D} (s : sat As H) (w : Vw As p ds) (h : atI ds i = some d) : ∃ x, Ent As H x d ∧ R1 (rIxL K) (.ref p) (.int i) H x := by
  obtain ⟨xs, h1, h2, h3⟩ := s.vw w
  obtain ⟨j, x, e1, e2, e3⟩ := atI_len h2 h
  exact ⟨x, h3.get e1 e2, fun Q q => ⟨p, xs, i, _, rfl, rfl, .inl (.inl h1), e3, q⟩⟩
theorem rows_bit {K : PySem.W.Frag} {As : List A} {H : Hp} {p : Addr} {n a b : Nat} {M : Nat → Nat} (s : sat As H) (w : Vw As p (rowsL n M)) (ha : a < n) (hb : b < n) : ∃ x, R1 (rIxL K) (.ref p) (.int (a : Int)) H (.ref x) ∧ R1 (rIxL K) (.ref x) (.int (b : Int)) H (.bl (bitsOf M a b)) := by
  obtain ⟨x, e, r⟩ := x_ixF (K := K) s w (rowsL_at ha)
  cases s.of e with
  | @lst y _ _ f1 f2 =>
    exact ⟨y, r, r_ixV (s.rp e) (.r 0) (rowB_atN hb)⟩
end Wb

set_option Elab.async false
set_option linter.all false
set_option maxRecDepth 100000
set_option maxHeartbeats 2000000
set_option autoImplicit true
/-! SatH: a list comprehension where an exception is handled whose context is None -/
namespace HotX
open PySem PySem.Spec PyProof.Rows
section
variable {prog : Program} {w : World} {A : Around} {E : Value → Shared → Prop} {s : Shared}
theorem pyNext_list_end_hot {it l x1 : Addr} {i : Nat} {items} {Q : Option Value → Shared → Prop} (hot : HotAt A x1 s.heap) (hne : x1 ≠ it)
    (hit : s.heap.IsListIter it l i) (hl : s.heap.IsList l items) (hx : items[i]? = none)
    (hQ : ∀ h', Heap.ExtBut it s.heap h' → Q none { s with heap := h' }) : wpAny (model prog w) A (pyNext (.ref it)) Q E s := by
  obtain ⟨o, ho, hc, hd⟩ := id hit
  obtain ⟨ol, hol, _, nl, hdl⟩ := hl
  obtain ⟨hh, o1, vs1, h1, d1, c1⟩ := hot
  unfold pyNext
  refine wpAny_bind (wpAny_attempt (wpAny_callSpecial?_slot (name := Str.ofString "__next__") hit.typeIs slot_listiter_next
    (wpAny_call_entry slot_listiter_next hit.typeIs entry_listiter_next ?_ (args_listiter_next _))))
  show wpAny _ _ (field (.ref it) 0 >>= _) _ _ s
  refine wpAny_bind (wpAny_field ho hd (x := .ref l) rfl ?_)
  show wpAny _ _ (if (Value.ref l == Value.none) = true then _ else _) _ _ s
  rw [if_neg (show ¬ ((Value.ref l == Value.none) = true) from Bool.false_ne_true)]
  show wpAny _ _ (field (.ref it) 1 >>= _) _ _ s
  refine wpAny_bind (wpAny_field ho hd (x := .int i 0) rfl ?_)
  show wpAny _ _ (seqItems? (.ref l) >>= _) _ _ s
  refine wpAny_bind (wpAny_seqItems hol hdl ?_)
  simp only [Int.toNat_natCast, hx]
  refine wpAny_bind (wpAny_rule (wpAny_bind (wpAny_setField ho hd (by simp) ?_)))
  show wpAny _ _ (newExc (.type "StopIteration") [] >>= _) _ _ _
  refine wpAny_bind ?_
  simp only [newExc, newTuple]
  refine wpAny_bind (wpAny_newObj_type ?_ (by size_fits))
  refine wpAny_bind (m := firstArgMember _ _) (wpAny_of_eq (a := Value.none) (by first | rfl | (simp only [firstArgMember]; rfl)) ?_)
  refine wpAny_newObj_type ?_ (by size_fits)
  have hu : (s.heap.update it (Obj.mapFields (·.setIfInBounds 0 Value.none))).get? x1 = some o1 := (Heap.get?_update_other _ _ (Ne.symm hne)).trans h1
  refine raiseNew_hot ⟨hh, o1, vs1, Heap.get?_push_of_some _ (Heap.get?_push_of_some _ hu), d1, c1⟩ (Nat.ne_of_lt (Heap.lt_size (Heap.get?_push_of_some _ hu))) (Heap.get?_push_size _ rfl) rfl (by first | (simp; done) | (simp; omega) | (simp only [Array.size_append]; simp; omega)) ?_
  refine wpAny_bind (wpAny_isInstance (T := "StopIteration") (b := true) ⟨_, Heap.get?_update_self _ (Heap.get?_push_size _ rfl) rfl, rfl⟩ isSubtype_stop ?_)
  refine wpAny_pure (hQ _ fun b o2 hb e => ?_)
  have e2 : (s.heap.update it (Obj.mapFields (·.setIfInBounds 0 Value.none))).get? b = some o2 := (Heap.get?_update_other _ _ (Ne.symm hb)).trans e
  rw [Heap.get?_update_other _ _ (Nat.ne_of_gt (Heap.lt_size (Heap.get?_push_of_some _ e2)))]
  exact Heap.get?_push_of_some _ (Heap.get?_push_of_some _ e2)
end
end HotX

namespace L2
open PySem PySem.Spec PyProof.Rows
/-- an exception is handled, pinned, its context None -/
def HotC (X : Cx) : Prop := ∃ (x1 : Addr) (oe : Obj) (vs : Array Value), X.A.handled = some (.ref x1) ∧ (x1, oe) ∈ X.pn ∧ PXN.CtxN oe ∧ oe.data = .fields vs
theorem hot_suite {X : Cx} {a : Addr} {oe : Obj} {cls : Value} {d : Option Addr} {pn : List (Addr × Obj)} (hz : L2N.Zn cls d oe) (hf : ∃ vs, oe.data = .fields vs) : HotC (X.suite a ((a, oe) :: pn)) := by
  obtain ⟨vs, hd⟩ := hf
  exact ⟨a, oe, vs, rfl, List.mem_cons_self, hz.2.2, hd⟩
section
variable {X : Cx} {pins : List (Addr × Obj)} {σ : St} {H : Hp} {s : Shared}
/-- where a list's iterator ends -/
theorem list_doneH {Y : Cx} {a it : Addr} {i : Nat} {E : Value → Shared → Prop} {x1 : Addr} (hot : HotX.HotAt Y.A x1 s.heap) (hne : x1 ≠ it) (I : Inv Y pins σ H s) (hf : FpOk Y pins H it) (st : s.heap.IsListIter it a i) (stop : (Itl Y.K a).stop i H) :
    wpAny (model Y.prog Y.w) Y.A (pyNext (.ref it)) (fun r s1 => r = none ∧ Inv Y pins σ H s1) E s := by
  obtain ⟨xs, hq, hx⟩ := stop
  obtain ⟨its, rv, p, hz⟩ := I.list hq
  obtain ⟨f0, f1, f2, f3, f4, f5⟩ := hf
  have hl := rv.length
  exact HotX.pyNext_list_end_hot hot hne st p.isList (by simp; omega) fun h' eb => ⟨rfl, I.turned (t' := s.toks) (fun b o hb e => eb b o hb e) f0 f1 f3 f4 f5⟩
theorem list_itemH {Y : Cx} {a it : Addr} {i : Nat} {tg : Expr} {E : Value → Shared → Prop} (I : Inv Y pins σ H s) (hf : FpOk Y pins H it) (st : s.heap.IsListIter it a i) (go : (Itl Y.K a).go i H) :
    wpAny (model Y.prog Y.w) Y.A (pyNext (.ref it)) (fun r s1 => ∃ u, r = some u ∧
      wpAny (model Y.prog Y.w) Y.A (letOwnedTupleGo tg (.ref it) u) (fun _ s2 => ∃ x H', Inv Y pins σ H' s2 ∧ RelV x u ∧ (Itl Y.K a).yld i H x H' ∧ s2.heap.IsListIter it a (i + 1) ∧ H' it = none) E s1) E s := by
  obtain ⟨xs, x, hq, hx⟩ := go
  obtain ⟨its, rv, p, hz⟩ := I.list hq
  obtain ⟨u, hu, ru⟩ := rv.get hx
  obtain ⟨f0, f1, f2, f3, f4, f5⟩ := id hf
  refine wpAny_pyNext_list_item st p.isList (x := u) (by simpa using hu) fun h' st' sb => ?_
  have I1 : Inv Y pins σ H { s with heap := h' } := I.turned (t' := s.toks) (fun b o hb e => (sb.2 b hb).trans e) f0 f1 f3 f4 f5
  obtain ⟨o, e, c, d⟩ := id st'
  exact ⟨u, rfl, go_of (s := { s with heap := h' }) e c d (by decide) ⟨x, H, I1, ru, ⟨rfl, fun ys hy => by rw [I.list_inj hy hq]; exact hx⟩, st', hf.1⟩⟩
/-- behind the iterator -/
theorem lcH_core {elt tg iter : Expr} {ifs : List Expr} {scope : Scope} {own : List (Str × Nat)} {pos : Pos} {g : TG} {tt : TT} {te : TE} {Q : VK} {a it : Addr} (hot : HotC X) (hN : X.N.Nodup) (ok : BlkOk X.N X.env.scope scope own)
    (hg : ∀ (s : Shared) (H : Hp) (C : Addr) (cl : List (Str × Addr)) (fp : List Addr), PG (X.blk s H scope (compEnvC scope cl C X.env) fp) tg g) (ht : ∀ (s : Shared) (H : Hp) (C : Addr) (cl : List (Str × Addr)) (fp : List Addr), PTs (X.blk s H scope (compEnvC scope cl C X.env) fp) ifs tt)
    (he : ∀ (s : Shared) (H : Hp) (C : Addr) (cl : List (Str × Addr)) (fp : List Addr), PE (X.blk s H scope (compEnvC scope cl C X.env) fp) elt te)
    (I2 : Inv X pins σ H s) (fo : FpOk X pins H it) (st2 : s.heap.IsListIter it a 0) (lt2 : it < s.heap.objs.size)
    (q : ∀ D, H D = none → ∃ W : Nat → Nat → Hp → Prop, (∃ m, W 0 m (upd H D (.lst []))) ∧ ∀ i m H, W i m H → ((Itl X.K a).stop i H ∧ Q (.ref D) H) ∨ ((Itl X.K a).go i H ∧ ∃ Nx : Hp → Prop, (∀ H', Nx H' → ∃ m', m' < m ∧ W (i + 1) m' H') ∧ ∀ x H', (Itl X.K a).yld i H x H' → g x (wipe σ (own.map (·.2))) H' fun σ2 H2 => wipe σ2 (own.map (·.2)) = wipe σ (own.map (·.2)) ∧ tt σ2 H2 fun b H3 =>
      if b = true then te σ2 H3 fun y H4 => ∃ acc, H4 D = some (.lst acc) ∧ acc.length < sizeLine ∧ Nx (upd H4 D (.lst (acc ++ [y]))) else Nx H3)) :
    wpAny (model X.prog X.w) X.A (newList []) (fun acc s₃ => wpAny (model X.prog X.w) X.A (newFunctionEnv scope X.env.globals (cloFrom X.env.cells scope.names []) [] X.env.qual none Value.none (some X.env)) (fun cenv s₄ =>
      codeAny (model X.prog X.w) X.A (.compStart (.ListComp elt [⟨tg, iter, ifs, 0⟩] scope pos) 0 (.ref it) acc { scope := relabel scope X.env, locals := cenv.locals, globals := cenv.globals, cells := cenv.cells, qual := cenv.qual, func := cenv.func, code := cenv.code, frame := cenv.frame, builtins := cenv.builtins })
        (compPost (model X.prog X.w) X.A X.xe none (EP X pins σ Q) acc cenv.locals) s₄) X.xe s₃) X.xe s := by
  refine wpAny_newObj_type (newEnv_comp ?_) (by show 0 ≤ sizeLine; decide)
  generalize hD : s.heap.objs.size = D
  have hDn : H D = none := I2.hok.fresh (Nat.le_of_eq hD)
  obtain ⟨W, ⟨m0, w0⟩, turn⟩ := q D hDn
  generalize hs3 : ({ s with heap := s.heap.push { cls := .type "list", data := .seq ([] : List Value).toArray } } : Shared) = s3
  have h3 : s3.heap = s.heap.push { cls := .type "list", data := .seq ([] : List Value).toArray } := by rw [← hs3]
  have I3 : Inv X pins σ (upd H D (.lst [])) s3 := by
    rw [← hs3]
    refine I2.laid (t' := s.toks) (fun b o e => Heap.get?_push_of_some _ e) (Nat.le_of_eq hD) ⟨Nat.zero_le _, [], 0, .nil, ?_⟩
    rw [← hD]
    exact Heap.get?_push_size _ rfl
  have f3 : FpOk X pins (upd H D (.lst [])) it ∧ it < s3.heap.objs.size := by
    refine ⟨⟨?_, fo.2⟩, by rw [h3, Heap.size_push]; exact Nat.lt_succ_of_lt lt2⟩
    rw [upd_ne (by rw [← hD]; exact Nat.ne_of_lt lt2)]
    exact fo.1
  have st3 : s3.heap.IsListIter it a 0 := st2.at fun o e => by rw [h3]; exact Heap.get?_push_of_some _ e
  have I4 := block_start (fp := [it]) I3 ok hN (fun b hb => by rw [List.mem_singleton.mp hb]; exact f3)
  have pg := hg s3 (upd H D (.lst [])) s3.heap.objs.size (cellsFrom (s3.heap.objs.size + 1) scope.names (cloFrom X.env.cells scope.names [])) [it]
  have pt := ht s3 (upd H D (.lst [])) s3.heap.objs.size (cellsFrom (s3.heap.objs.size + 1) scope.names (cloFrom X.env.cells scope.names [])) [it]
  have pe := he s3 (upd H D (.lst [])) s3.heap.objs.size (cellsFrom (s3.heap.objs.size + 1) scope.names (cloFrom X.env.cells scope.names [])) [it]
  show codeAny _ _ (.compStart (.ListComp elt [⟨tg, iter, ifs, 0⟩] scope pos) 0 (.ref it) (.ref D) (compEnvC scope (cellsFrom (s3.heap.objs.size + 1) scope.names (cloFrom X.env.cells scope.names [])) s3.heap.objs.size X.env)) (compPost (model X.prog X.w) X.A X.xe none (EP X pins σ Q) (.ref D) s3.heap.objs.size) { s3 with heap := pushCells (s3.heap.push { cls := .type "dict", data := .dict #[] }) scope.names }
  generalize hce : compEnvC scope (cellsFrom (s3.heap.objs.size + 1) scope.names (cloFrom X.env.cells scope.names [])) s3.heap.objs.size X.env = ce at I4 pg pt pe ⊢
  have cL : ce.locals = s3.heap.objs.size := by subst hce; rfl
  generalize hH3 : upd H D (.lst []) = H3 at I3 I4 pg pt pe w0 f3
  generalize hs4 : ({ s3 with heap := pushCells (s3.heap.push { cls := .type "dict", data := .dict #[] }) scope.names } : Shared) = s4 at I4 ⊢
  have st4 : s4.heap.IsListIter it a 0 := st3.at fun o e => by rw [← hs4]; exact pushCells_keeps _ _ _ _ (Heap.get?_push_of_some _ e)
  have stat : ∀ {σ' : St} {H' : Hp} {s' : Shared}, Inv (X.blk s3 H3 scope ce [it]) [] σ' H' s' → H' it = none → FpOk (X.blk s3 H3 scope ce [it]) [] H' it := fun {σ' H' s'} I' hn =>
    ⟨hn, (I'.ok.exf it List.mem_cons_self).1, I'.ok.exfs it List.mem_cons_self, .inl List.mem_cons_self, fun x c e => (I'.ok.exf it List.mem_cons_self).2 x c e, fun p hp => absurd (show p ∈ ([] : List (Addr × Obj)) ++ [] from hp) (by simp)⟩
  -- the caught one, here and in the block
  obtain ⟨x1, oe, vs, hh, hm, hc, hd⟩ := hot
  obtain ⟨px, pn1, pL, pF, _⟩ := I3.pin (x1, oe) (List.mem_append_left _ hm)
  have ne1 : x1 ≠ it := f3.1.2.2.2.2.2 (x1, oe) (List.mem_append_left _ hm)
  have hotB : ∀ {σ' : St} {H' : Hp} {s' : Shared}, Inv (X.blk s3 H3 scope ce [it]) [] σ' H' s' → HotX.HotAt (X.blk s3 H3 scope ce [it]).A x1 s'.heap := fun {σ' H' s'} I' =>
    ⟨hh, oe, vs, I'.base.keep x1 oe px pn1 (fun z => (List.mem_cons.mp (I3.stkSub x1 z)).elim pL pF) (by simpa using ne1), hd, hc vs hd⟩
  have loop : codeAny (model X.prog X.w) X.A (.compLoop (.ListComp elt [⟨tg, iter, ifs, 0⟩] scope pos) 0 (.ref it) (.ref D) ce) (compPost (model X.prog X.w) X.A X.xe none (EP X pins σ Q) (.ref D) s3.heap.objs.size) s4 := by
    refine compLoop_any (fun n s' => ∃ i H', Inv (X.blk s3 H3 scope ce [it]) [] (wipe σ (own.map (·.2))) H' s' ∧ s'.heap.IsListIter it a i ∧ H' it = none ∧ W i n H') ?_ m0 ⟨0, H3, I4, st4, f3.1.1, w0⟩
    rintro n s5 ⟨i, H5, I5, st5, n5, w5⟩
    rcases turn i n H5 w5 with ⟨stop, qq⟩ | ⟨go, Nx, hNx, step⟩
    · refine thnF (list_doneH (Y := X.blk s3 H3 scope ce [it]) (hotB I5) ne1 I5 (stat I5 n5) st5 stop) fun r s6 ⟨hr, I6⟩ => ?_
      subst hr
      have I7 : Inv X pins σ H5 s6 := I3.call' (ch := [it]) I6.os I6.base I6.hok I6.bare fun b hb => by
        rw [List.mem_singleton.mp hb]
        exact ⟨f3.1.2.2.2.1, f3.1.2.1, f3.1.2.2.2.2.1, f3.1.2.2.2.2.2⟩
      have nC : H5 s3.heap.objs.size = none := by
        have z : H5 ce.locals = none := I6.free
        rw [cL] at z
        exact z
      obtain ⟨m, hn, _⟩ := I6.loc
      have hn : s6.heap.Ns ce.locals m := hn
      rw [cL] at hn
      refine ⟨m, hn, fun h'' sb => ?_⟩
      obtain ⟨f0, f1, f2, f3, f4, f5⟩ := I3.fpOk (H' := H5) (Nat.le_refl _) nC
      exact ⟨.ref D, H5, I7.turned (t' := s6.toks) (fun b o hb e => (sb.2 b hb).trans e) f0 f1 f3 f4 f5, rfl, qq⟩
    · refine thnF (list_itemH (Y := X.blk s3 H3 scope ce [it]) (tg := tg) I5 (stat I5 n5) st5 go) fun r s6 ⟨u, hr, h6⟩ => ?_
      subst hr
      refine thnF h6 fun _ s7 ⟨x, H7, I7, r7, y7, st7, n7⟩ => ?_
      have I7' := I7.pinned (fp := [it]) (fun b hb => by rw [List.mem_singleton.mp hb]; exact stat I7 n7) (fun b hb => by rw [List.mem_singleton.mp hb]; obtain ⟨o, e, c, d⟩ := id st7; exact ⟨o, e, fun v z => by rw [d] at z; cases z⟩)
      refine thnF (pg.run _ s7 _ H7 x u _ I7' r7 (step x H7 y7)) fun _ s8 ⟨σ8, H8, I8, hw8, q8⟩ => ?_
      refine thnF (pt.run _ s8 σ8 H8 _ I8 q8) fun b s9 ⟨H9, I9, q9⟩ => ?_
      have fin : ∀ {s' : Shared} {H' : Hp}, Inv (X.blk s3 H3 scope ce [it]) ([] ++ pinsAt [it] s7.heap) σ8 H' s' → Nx H' → ∃ m, m < n ∧ ∃ i H', Inv (X.blk s3 H3 scope ce [it]) [] (wipe σ (own.map (·.2))) H' s' ∧ s'.heap.IsListIter it a i ∧ H' it = none ∧ W i m H' := fun {s' H'} I' nx => by
        obtain ⟨m', hm, w'⟩ := hNx H' nx
        obtain ⟨o7, e7, c7, d7⟩ := id st7
        have z := I'.pin (it, o7) (List.mem_append_right _ (List.mem_append_right _ (mem_pinsAt List.mem_cons_self e7)))
        have hl : (wipe σ (own.map (·.2))).length = σ8.length := by rw [← hw8, wipe_length]
        refine ⟨m', hm, i + 1, H', (I'.unpinned (pins := [])).weak hl (fun j v e => ?_), ⟨o7, z.1, c7, d7⟩, z.2.1, w'⟩
        rw [← hw8] at e
        exact (wipe_some e).1
      cases b with
      | false =>
        simp only [Bool.false_eq_true, if_false] at q9 ⊢
        exact fin I9 q9
      | true =>
        simp only [if_true] at q9 ⊢
        refine thnF (pe.run _ s9 σ8 H9 _ I9 q9) fun z s10 ⟨yv, H10, I10, r10, acc, hD10, hz10, nx⟩ => ?_
        exact app_ok (X := X.blk s3 H3 scope ce [it]) I10 hD10 hz10 r10 fun s11 I11 => fin I11 nx
  exact codeAny_compStart_list loop (wpAny_pyIter_listiter st4 loop)
theorem pe_lcH {elt tg iter : Expr} {ifs : List Expr} {scope : Scope} {own : List (Str × Nat)} {pos : Pos} {tl : TE} {g : TG} {tt : TT} {te : TE} {K : PySem.W.Frag} (hK : X.K = K) (hot : HotC X) (hN : X.N.Nodup) (hl : PE X iter tl) (ok : BlkOk X.N X.env.scope scope own)
    (hg : ∀ (s : Shared) (H : Hp) (C : Addr) (cl : List (Str × Addr)) (fp : List Addr), PG (X.blk s H scope (compEnvC scope cl C X.env) fp) tg g) (ht : ∀ (s : Shared) (H : Hp) (C : Addr) (cl : List (Str × Addr)) (fp : List Addr), PTs (X.blk s H scope (compEnvC scope cl C X.env) fp) ifs tt)
    (he : ∀ (s : Shared) (H : Hp) (C : Addr) (cl : List (Str × Addr)) (fp : List Addr), PE (X.blk s H scope (compEnvC scope cl C X.env) fp) elt te) (hs : ∀ x, foldedSetIterable iter X.env x = pure x := by intro _; rfl) :
    PE X (.ListComp elt [⟨tg, iter, ifs, 0⟩] scope pos) (tLc (iList K tl) g tt te (own.map (·.2))) := by
  subst hK
  refine ⟨fun pins s σ H Q I h => ?_⟩
  rw [eval_ListComp]
  have hfree : ∀ y ∈ scope.names, y.2 = .free → ∃ c, X.env.cells.lookup y.1 = some c := fun y hy e => by
    rcases ok.free y hy e with k | k
    · exact I.ok.has _ (.inl k)
    · exact I.ok.has _ (.inr k)
  refine wpAny_comprehension_free (use := none) rfl hs (closure_ok hfree) ok.kind (fun y hy e => by rw [ok.uniq y hy, e])
    (thn (hl.run pins s σ H _ I h) fun v s1 ⟨x, H2, I1, r1, q1⟩ => ?_)
  obtain ⟨a, e, ⟨xs, hq⟩, q⟩ := q1
  subst e
  cases r1
  obtain ⟨its, rv, p, hz⟩ := I1.list hq
  refine wpAny_pyIter_list p.isList ?_
  exact lcH_core hot hN ok hg ht he (I1.kept (t' := s1.toks) fun b o e => Heap.get?_push_of_some _ e) (I1.fpOk (Nat.le_refl _) (I1.hok.fresh (Nat.le_refl _))) ⟨_, Heap.get?_push_size _ rfl, rfl, rfl⟩ (by rw [Heap.size_push]; exact Nat.lt_succ_self _) q
end
end L2

set_option Elab.async false
set_option linter.all false
set_option maxRecDepth 100000
set_option maxHeartbeats 4000000
namespace Law
open PySem PySem.Spec PyProof.Rows L2 Sat
open Evl (Ex)
open Wb
def topS (i : Nat) : Stmt := PySem.Challenge.pw_fewreaders_k02_web_is_the_closure.main.body.getD i (.Pass ⟨0, 0, 0, 0⟩)
def inClass (s : Stmt) (j : Nat) : Stmt := match s with
  | .ClassDef _ _ _ body _ _ _ _ _ _ _ => body.getD j (.Pass ⟨0, 0, 0, 0⟩)
  | _ => .Pass ⟨0, 0, 0, 0⟩
abbrev s_members : Stmt := topS 43
theorem sc_members : FnScope ["mask", "number"] ["mask"] (defScope s_members) := ⟨rfl, rfl, rfl, by decide +kernel, rfl, by decide +kernel, by decide +kernel⟩
abbrev s_Web_init : Stmt := inClass (topS 45) 0
theorem sc_Web_init : FnScope ["self", "size", "pairs", "deed", "a", "b"] ["self", "size", "pairs"] (defScope s_Web_init) := ⟨rfl, rfl, rfl, by decide +kernel, rfl, by decide +kernel, by decide +kernel⟩
abbrev s_Web_ahead : Stmt := inClass (topS 45) 1
theorem sc_Web_ahead : FnScope ["self", "a", "b"] ["self", "a", "b"] (defScope s_Web_ahead) := ⟨rfl, rfl, rfl, by decide +kernel, rfl, by decide +kernel, by decide +kernel⟩
abbrev s_Web_beside : Stmt := inClass (topS 45) 2
theorem sc_Web_beside : FnScope ["self", "a", "b", "related"] ["self", "a", "b"] (defScope s_Web_beside) := ⟨rfl, rfl, rfl, by decide +kernel, rfl, by decide +kernel, by decide +kernel⟩
abbrev s_Web_check_deed : Stmt := inClass (topS 45) 10
theorem sc_Web_check_deed : FnScope ["self", "deed"] ["self", "deed"] (defScope s_Web_check_deed) := ⟨rfl, rfl, rfl, by decide +kernel, rfl, by decide +kernel, by decide +kernel⟩
abbrev s_check_parts : Stmt := topS 46
theorem sc_check_parts : FnScope ["size", "pairs", "pair", "deed"] ["size", "pairs"] (defScope s_check_parts) := ⟨rfl, rfl, rfl, by decide +kernel, rfl, by decide +kernel, by decide +kernel⟩
abbrev s_closed_masks : Stmt := topS 47
theorem sc_closed_masks : FnScope ["size", "pairs", "masks", "a", "b", "middle", "deed"] ["size", "pairs"] (defScope s_closed_masks) := ⟨rfl, rfl, rfl, by decide +kernel, rfl, by decide +kernel, by decide +kernel⟩
abbrev s_turned_masks : Stmt := topS 48
theorem sc_turned_masks : FnScope ["masks", "turned", "deed", "mask", "earlier"] ["masks"] (defScope s_turned_masks) := ⟨rfl, rfl, rfl, by decide +kernel, rfl, by decide +kernel, by decide +kernel⟩
abbrev s_law_store : Stmt := topS 51
theorem sc_law_store : FnScope ["script", "cells", "cell"] ["script"] (defScope s_law_store) := ⟨rfl, rfl, rfl, by decide +kernel, rfl, by decide +kernel, by decide +kernel⟩
abbrev s_law_take : Stmt := topS 52
theorem sc_law_take : FnScope ["store", "many", "size", "cells", "prime", "cell", "value", "state", "low", "high", "twice"] ["store", "many"] (defScope s_law_take) := ⟨rfl, rfl, rfl, by decide +kernel, rfl, by decide +kernel, by decide +kernel⟩
abbrev s_law_pick : Stmt := topS 53
theorem sc_law_pick : FnScope ["store", "items"] ["store", "items"] (defScope s_law_pick) := ⟨rfl, rfl, rfl, by decide +kernel, rfl, by decide +kernel, by decide +kernel⟩
abbrev s_law_size : Stmt := topS 54
theorem sc_law_size : FnScope ["store", "least", "most", "sort"] ["store", "least", "most"] (defScope s_law_size) := ⟨rfl, rfl, rfl, by decide +kernel, rfl, by decide +kernel, by decide +kernel⟩
abbrev s_law_beyond : Stmt := topS 55
theorem sc_law_beyond : FnScope ["store", "size", "sort", "far"] ["store", "size"] (defScope s_law_beyond) := ⟨rfl, rfl, rfl, by decide +kernel, rfl, by decide +kernel, by decide +kernel⟩
abbrev s_law_mixed : Stmt := topS 56
theorem sc_law_mixed : FnScope ["store", "items", "sort", "row", "item", "place"] ["store", "items"] (defScope s_law_mixed) := ⟨rfl, rfl, rfl, by decide +kernel, rfl, by decide +kernel, by decide +kernel⟩
abbrev s_law_is_number : Stmt := topS 57
theorem sc_law_is_number : FnScope ["value"] ["value"] (defScope s_law_is_number) := ⟨rfl, rfl, rfl, by decide +kernel, rfl, by decide +kernel, by decide +kernel⟩
abbrev s_law_same : Stmt := topS 58
theorem sc_law_same : FnScope ["actual", "expected", "left", "step", "longer", "one", "two", "at"] ["actual", "expected"] (defScope s_law_same) := ⟨rfl, rfl, rfl, by decide +kernel, rfl, by decide +kernel, by decide +kernel⟩
abbrev s_law_closure : Stmt := topS 59
theorem sc_law_closure : FnScope ["size", "pairs", "rows", "a", "b", "row", "mid", "at"] ["size", "pairs"] (defScope s_law_closure) := ⟨rfl, rfl, rfl, by decide +kernel, rfl, by decide +kernel, by decide +kernel⟩
abbrev s_law_ring : Stmt := topS 60
theorem sc_law_ring : FnScope ["rows", "x"] ["rows"] (defScope s_law_ring) := ⟨rfl, rfl, rfl, by decide +kernel, rfl, by decide +kernel, by decide +kernel⟩
abbrev s_law_beside : Stmt := topS 61
theorem sc_law_beside : FnScope ["rows", "a", "b"] ["rows", "a", "b"] (defScope s_law_beside) := ⟨rfl, rfl, rfl, by decide +kernel, rfl, by decide +kernel, by decide +kernel⟩
abbrev s_law_net : Stmt := topS 62
theorem sc_law_net : FnScope ["store", "size", "share", "heavy", "pairs", "b", "a"] ["store", "size"] (defScope s_law_net) := ⟨rfl, rfl, rfl, by decide +kernel, rfl, by decide +kernel, by decide +kernel⟩
abbrev s_law_chains : Stmt := topS 63
theorem sc_law_chains : FnScope ["store", "size", "many", "last", "pairs", "b", "at"] ["store", "size"] (defScope s_law_chains) := ⟨rfl, rfl, rfl, by decide +kernel, rfl, by decide +kernel, by decide +kernel⟩
abbrev s_law_crown_shape : Stmt := topS 64
theorem sc_law_crown_shape : FnScope ["store", "size", "many", "pairs", "one", "mid", "sort", "two"] ["store", "size"] (defScope s_law_crown_shape) := ⟨rfl, rfl, rfl, by decide +kernel, rfl, by decide +kernel, by decide +kernel⟩
abbrev s_law_shape : Stmt := topS 65
theorem sc_law_shape : FnScope ["store", "size", "sort", "a"] ["store", "size"] (defScope s_law_shape) := ⟨rfl, rfl, rfl, by decide +kernel, rfl, by decide +kernel, by decide +kernel⟩
abbrev s_law_web : Stmt := topS 66
theorem sc_law_web : FnScope ["store", "least", "most", "size", "row", "pairs", "a", "b"] ["store", "least", "most"] (defScope s_law_web) := ⟨rfl, rfl, rfl, by decide +kernel, rfl, by decide +kernel, by decide +kernel⟩
abbrev s_law_bent_pairs : Stmt := topS 67
theorem sc_law_bent_pairs : FnScope ["store", "size", "pairs", "sort", "row", "step", "a", "b", "x", "y", "pair"] ["store", "size", "pairs"] (defScope s_law_bent_pairs) := ⟨rfl, rfl, rfl, by decide +kernel, rfl, by decide +kernel, by decide +kernel⟩
abbrev s_law_web_fault : Stmt := topS 68
theorem sc_law_web_fault : FnScope ["size", "pairs", "a", "b", "ring"] ["size", "pairs"] (defScope s_law_web_fault) := ⟨rfl, rfl, rfl, by decide +kernel, rfl, by decide +kernel, by decide +kernel⟩
abbrev s_law_loops : Stmt := topS 69
theorem sc_law_loops : FnScope ["store", "size", "pairs", "step"] ["store", "size"] (defScope s_law_loops) := ⟨rfl, rfl, rfl, by decide +kernel, rfl, by decide +kernel, by decide +kernel⟩
abbrev s_law_question : Stmt := topS 70
theorem sc_law_question : FnScope ["store", "size", "pairs", "rows", "sort"] ["store"] (defScope s_law_question) := ⟨rfl, rfl, rfl, by decide +kernel, rfl, by decide +kernel, by decide +kernel⟩
abbrev s_law_made : Stmt := topS 71
theorem sc_law_made : FnScope ["store", "size", "pairs", "sort"] ["store", "size", "pairs"] (defScope s_law_made) := ⟨rfl, rfl, rfl, by decide +kernel, rfl, by decide +kernel, by decide +kernel⟩
abbrev s_law_kinds : Stmt := topS 72
theorem sc_law_kinds : FnScope ["size", "pairs", "e", "one", "two", "three", "four", "five", "six", "seven", "eight", "nine", "ten", "kinds", "kind"] ["size", "pairs"] (defScope s_law_kinds) := ⟨rfl, rfl, rfl, by decide +kernel, rfl, by decide +kernel, by decide +kernel⟩
abbrev s_law_refused : Stmt := topS 73
theorem sc_law_refused : FnScope ["store", "size", "pairs", "e"] ["store", "size", "pairs"] (defScope s_law_refused) := ⟨rfl, rfl, rfl, by decide +kernel, rfl, by decide +kernel, by decide +kernel⟩
abbrev s_law_asked : Stmt := topS 74
theorem sc_law_asked : FnScope ["net", "a", "b", "which", "told", "e"] ["net", "a", "b", "which"] (defScope s_law_asked) := ⟨rfl, rfl, rfl, by decide +kernel, rfl, by decide +kernel, by decide +kernel⟩
abbrev s_law_net_right : Stmt := topS 75
theorem sc_law_net_right : FnScope ["net", "rows", "bad", "a", "told", "sides", "which", "last", "b"] ["net", "rows", "bad"] (defScope s_law_net_right) := ⟨rfl, rfl, rfl, by decide +kernel, rfl, by decide +kernel, by decide +kernel⟩
abbrev s_law : Stmt := topS 76
theorem sc_law : FnScope ["script", "store", "elder", "elder_rows", "turn", "size", "pairs", "due", "handed", "net", "rows", "bad"] ["script"] (defScope s_law) := ⟨rfl, rfl, rfl, by decide +kernel, rfl, by decide +kernel, by decide +kernel⟩
structure Ad where
  WatchError : Addr
  TooMany : Addr
  BadDeed : Addr
  Ring : Addr
  BadOrder : Addr
  NotAhead : Addr
  BadFront : Addr
  BadPlace : Addr
  BadText : Addr
  BadSize : Addr
  BadLength : Addr
  NotBeside : Addr
  BadTable : Addr
  BadKind : Addr
  BadCell : Addr
  NotReadWrite : Addr
  BadProgram : Addr
  Twice : Addr
  NotMine : Addr
  Unmet : Addr
  NoTwoLines : Addr
  WrongSide : Addr
  BadLot : Addr
  BadRule : Addr
  NoCrown : Addr
  NoBook : Addr
  NoEntry : Addr
  Done : Addr
  BadMove : Addr
  BadLanes : Addr
  NotTime : Addr
  BadPromise : Addr
  NotNext : Addr
  NotSingle : Addr
  Between : Addr
  NotStep : Addr
  NothingBack : Addr
  BadPaper : Addr
  BadLine : Addr
  Strange : Addr
  Web : Addr
  dflt : Addr
def KL (ad : Ad) : List Addr := [ad.TooMany, ad.BadDeed, ad.Ring, ad.BadOrder, ad.NotAhead, ad.BadFront, ad.BadPlace, ad.BadText, ad.BadSize, ad.BadLength, ad.NotBeside, ad.BadTable, ad.BadKind, ad.BadCell, ad.NotReadWrite, ad.BadProgram, ad.Twice, ad.NotMine, ad.Unmet, ad.NoTwoLines, ad.WrongSide, ad.BadLot, ad.BadRule, ad.NoCrown, ad.NoBook, ad.NoEntry, ad.Done, ad.BadMove, ad.BadLanes, ad.NotTime, ad.BadPromise, ad.NotNext, ad.NotSingle, ad.Between, ad.NotStep, ad.NothingBack, ad.BadPaper, ad.BadLine, ad.Strange]
structure Tx (K : PySem.W.Frag) (mg : Str → Option Value) (ad : Ad) : Prop where
  x_WatchError : mg "WatchError" = some (.ref ad.WatchError)
  x_TooMany : mg "TooMany" = some (.ref ad.TooMany)
  x_BadDeed : mg "BadDeed" = some (.ref ad.BadDeed)
  x_Ring : mg "Ring" = some (.ref ad.Ring)
  x_BadOrder : mg "BadOrder" = some (.ref ad.BadOrder)
  x_NotAhead : mg "NotAhead" = some (.ref ad.NotAhead)
  x_BadFront : mg "BadFront" = some (.ref ad.BadFront)
  x_BadPlace : mg "BadPlace" = some (.ref ad.BadPlace)
  x_BadText : mg "BadText" = some (.ref ad.BadText)
  x_BadSize : mg "BadSize" = some (.ref ad.BadSize)
  x_BadLength : mg "BadLength" = some (.ref ad.BadLength)
  x_NotBeside : mg "NotBeside" = some (.ref ad.NotBeside)
  x_BadTable : mg "BadTable" = some (.ref ad.BadTable)
  x_BadKind : mg "BadKind" = some (.ref ad.BadKind)
  x_BadCell : mg "BadCell" = some (.ref ad.BadCell)
  x_NotReadWrite : mg "NotReadWrite" = some (.ref ad.NotReadWrite)
  x_BadProgram : mg "BadProgram" = some (.ref ad.BadProgram)
  x_Twice : mg "Twice" = some (.ref ad.Twice)
  x_NotMine : mg "NotMine" = some (.ref ad.NotMine)
  x_Unmet : mg "Unmet" = some (.ref ad.Unmet)
  x_NoTwoLines : mg "NoTwoLines" = some (.ref ad.NoTwoLines)
  x_WrongSide : mg "WrongSide" = some (.ref ad.WrongSide)
  x_BadLot : mg "BadLot" = some (.ref ad.BadLot)
  x_BadRule : mg "BadRule" = some (.ref ad.BadRule)
  x_NoCrown : mg "NoCrown" = some (.ref ad.NoCrown)
  x_NoBook : mg "NoBook" = some (.ref ad.NoBook)
  x_NoEntry : mg "NoEntry" = some (.ref ad.NoEntry)
  x_Done : mg "Done" = some (.ref ad.Done)
  x_BadMove : mg "BadMove" = some (.ref ad.BadMove)
  x_BadLanes : mg "BadLanes" = some (.ref ad.BadLanes)
  x_NotTime : mg "NotTime" = some (.ref ad.NotTime)
  x_BadPromise : mg "BadPromise" = some (.ref ad.BadPromise)
  x_NotNext : mg "NotNext" = some (.ref ad.NotNext)
  x_NotSingle : mg "NotSingle" = some (.ref ad.NotSingle)
  x_Between : mg "Between" = some (.ref ad.Between)
  x_NotStep : mg "NotStep" = some (.ref ad.NotStep)
  x_NothingBack : mg "NothingBack" = some (.ref ad.NothingBack)
  x_BadPaper : mg "BadPaper" = some (.ref ad.BadPaper)
  x_BadLine : mg "BadLine" = some (.ref ad.BadLine)
  x_Strange : mg "Strange" = some (.ref ad.Strange)
  x_Web : mg "Web" = some (.ref ad.Web)
  d_dflt : EmptyT K ad.dflt
  c_Web : Cls K ad.Web
  w_ha : PySem.W.findIn K (.ref ad.Web) "__class__" = some (some (.builtin "object.__class__"))
  w_hn : PySem.W.specialIn K (.builtin "object.__class__") "__get__" = some (some (.builtin "getset_descriptor.__get__"))
  w_ht : PySem.W.takesIn K (.builtin "object.__class__") = some true
  w_hm : PySem.W.mroIn K ad.Web (.type "object") = some true
  n_Web_size : NoAttr K ad.Web "size"
  n_Web_masks_ahead : NoAttr K ad.Web "masks_ahead"
  n_Web_masks_behind : NoAttr K ad.Web "masks_behind"
  n_Web_pair_rows : NoAttr K ad.Web "pair_rows"
  kk_TooMany : ∀ C ∈ KL ad, PySem.W.kitOne K (.ref ad.TooMany) (.ref C) = some (decide (C = ad.TooMany))
  one_TooMany : ((KL ad).filter fun C => decide (C = ad.TooMany)).length = 1
  kv_TooMany : PySem.W.kitOne K (.ref ad.TooMany) (.type "ValueError") = some true
  kk_BadDeed : ∀ C ∈ KL ad, PySem.W.kitOne K (.ref ad.BadDeed) (.ref C) = some (decide (C = ad.BadDeed))
  one_BadDeed : ((KL ad).filter fun C => decide (C = ad.BadDeed)).length = 1
  kv_BadDeed : PySem.W.kitOne K (.ref ad.BadDeed) (.type "ValueError") = some true
  kk_Ring : ∀ C ∈ KL ad, PySem.W.kitOne K (.ref ad.Ring) (.ref C) = some (decide (C = ad.Ring))
  one_Ring : ((KL ad).filter fun C => decide (C = ad.Ring)).length = 1
  kv_Ring : PySem.W.kitOne K (.ref ad.Ring) (.type "ValueError") = some true
  kk_BadSize : ∀ C ∈ KL ad, PySem.W.kitOne K (.ref ad.BadSize) (.ref C) = some (decide (C = ad.BadSize))
  one_BadSize : ((KL ad).filter fun C => decide (C = ad.BadSize)).length = 1
  kv_BadSize : PySem.W.kitOne K (.ref ad.BadSize) (.type "ValueError") = some true
  h_TooMany_TooMany : PySem.W.exmOne K (.ref ad.TooMany) (.ref ad.TooMany) = some true
  h_TooMany_BadDeed : PySem.W.exmOne K (.ref ad.TooMany) (.ref ad.BadDeed) = some false
  h_TooMany_Ring : PySem.W.exmOne K (.ref ad.TooMany) (.ref ad.Ring) = some false
  h_TooMany_BadSize : PySem.W.exmOne K (.ref ad.TooMany) (.ref ad.BadSize) = some false
  h_TooMany_WatchError : PySem.W.exmOne K (.ref ad.TooMany) (.ref ad.WatchError) = some true
  h_BadDeed_TooMany : PySem.W.exmOne K (.ref ad.BadDeed) (.ref ad.TooMany) = some false
  h_BadDeed_BadDeed : PySem.W.exmOne K (.ref ad.BadDeed) (.ref ad.BadDeed) = some true
  h_BadDeed_Ring : PySem.W.exmOne K (.ref ad.BadDeed) (.ref ad.Ring) = some false
  h_BadDeed_BadSize : PySem.W.exmOne K (.ref ad.BadDeed) (.ref ad.BadSize) = some false
  h_BadDeed_WatchError : PySem.W.exmOne K (.ref ad.BadDeed) (.ref ad.WatchError) = some true
  h_Ring_TooMany : PySem.W.exmOne K (.ref ad.Ring) (.ref ad.TooMany) = some false
  h_Ring_BadDeed : PySem.W.exmOne K (.ref ad.Ring) (.ref ad.BadDeed) = some false
  h_Ring_Ring : PySem.W.exmOne K (.ref ad.Ring) (.ref ad.Ring) = some true
  h_Ring_BadSize : PySem.W.exmOne K (.ref ad.Ring) (.ref ad.BadSize) = some false
  h_Ring_WatchError : PySem.W.exmOne K (.ref ad.Ring) (.ref ad.WatchError) = some true
  h_BadSize_TooMany : PySem.W.exmOne K (.ref ad.BadSize) (.ref ad.TooMany) = some false
  h_BadSize_BadDeed : PySem.W.exmOne K (.ref ad.BadSize) (.ref ad.BadDeed) = some false
  h_BadSize_Ring : PySem.W.exmOne K (.ref ad.BadSize) (.ref ad.Ring) = some false
  h_BadSize_BadSize : PySem.W.exmOne K (.ref ad.BadSize) (.ref ad.BadSize) = some true
  h_BadSize_WatchError : PySem.W.exmOne K (.ref ad.BadSize) (.ref ad.WatchError) = some true
  i_TooMany : ExcC K ad.TooMany
  f_TooMany : XfC K ad.TooMany
  e_TooMany : PySem.W.findIn K (.ref ad.TooMany) "limit" = some none
  i_BadDeed : ExcC K ad.BadDeed
  f_BadDeed : XfC K ad.BadDeed
  e_BadDeed : PySem.W.findIn K (.ref ad.BadDeed) "bad_deed" = some none
  i_Ring : ExcC K ad.Ring
  f_Ring : XfC K ad.Ring
  e_Ring : PySem.W.findIn K (.ref ad.Ring) "ring_deed" = some none
  i_BadSize : ExcC K ad.BadSize
  f_BadSize : XfC K ad.BadSize
  e_BadSize : PySem.W.findIn K (.ref ad.BadSize) "bad_size" = some none
  m_range : mg "range" = none
  m_enumerate : mg "enumerate" = none
  m_int : mg "int" = none
  m_len : mg "len" = none
  m_max : mg "max" = none
  m_abs : mg "abs" = none
  m_min : mg "min" = none
  m_isinstance : mg "isinstance" = none
  m_bool : mg "bool" = none
  m_list : mg "list" = none
  m_tuple : mg "tuple" = none
  m_str : mg "str" = none
  m_ValueError : mg "ValueError" = none
end Law
namespace Law
open PySem PySem.Spec PyProof.Rows L2 Sat
open Evl (Ex)
open Wb
open NdefX SupX Hd
def adK (K : PySem.W.Frag) : Ad := ⟨He.ga K "WatchError", He.ga K "TooMany", He.ga K "BadDeed", He.ga K "Ring", He.ga K "BadOrder", He.ga K "NotAhead", He.ga K "BadFront", He.ga K "BadPlace", He.ga K "BadText", He.ga K "BadSize", He.ga K "BadLength", He.ga K "NotBeside", He.ga K "BadTable", He.ga K "BadKind", He.ga K "BadCell", He.ga K "NotReadWrite", He.ga K "BadProgram", He.ga K "Twice", He.ga K "NotMine", He.ga K "Unmet", He.ga K "NoTwoLines", He.ga K "WrongSide", He.ga K "BadLot", He.ga K "BadRule", He.ga K "NoCrown", He.ga K "NoBook", He.ga K "NoEntry", He.ga K "Done", He.ga K "BadMove", He.ga K "BadLanes", He.ga K "NotTime", He.ga K "BadPromise", He.ga K "NotNext", He.ga K "NotSingle", He.ga K "Between", He.ga K "NotStep", He.ga K "NothingBack", He.ga K "BadPaper", He.ga K "BadLine", He.ga K "Strange", He.ga K "Web", He.dflAt ("Web", some "__init__") 0 K⟩
def dd_members : He.DefD := ⟨("members", none), "members", "members", defArgs s_members, defBody s_members, defScope s_members, [], []⟩
def dd_Web_init : He.DefD := ⟨("Web", some "__init__"), "__init__", "Web.__init__", defArgs s_Web_init, defBody s_Web_init, defScope s_Web_init, [.adr (He.dflAt ("Web", some "__init__") 0)], []⟩
def dd_Web_ahead : He.DefD := ⟨("Web", some "ahead"), "ahead", "Web.ahead", defArgs s_Web_ahead, defBody s_Web_ahead, defScope s_Web_ahead, [], []⟩
def dd_Web_beside : He.DefD := ⟨("Web", some "beside"), "beside", "Web.beside", defArgs s_Web_beside, defBody s_Web_beside, defScope s_Web_beside, [], []⟩
def dd_Web_check_deed : He.DefD := ⟨("Web", some "check_deed"), "check_deed", "Web.check_deed", defArgs s_Web_check_deed, defBody s_Web_check_deed, defScope s_Web_check_deed, [], []⟩
def dd_check_parts : He.DefD := ⟨("check_parts", none), "check_parts", "check_parts", defArgs s_check_parts, defBody s_check_parts, defScope s_check_parts, [], []⟩
def dd_closed_masks : He.DefD := ⟨("closed_masks", none), "closed_masks", "closed_masks", defArgs s_closed_masks, defBody s_closed_masks, defScope s_closed_masks, [], []⟩
def dd_turned_masks : He.DefD := ⟨("turned_masks", none), "turned_masks", "turned_masks", defArgs s_turned_masks, defBody s_turned_masks, defScope s_turned_masks, [], []⟩
def dd_law_store : He.DefD := ⟨("_law_store", none), "_law_store", "_law_store", defArgs s_law_store, defBody s_law_store, defScope s_law_store, [], []⟩
def dd_law_take : He.DefD := ⟨("_law_take", none), "_law_take", "_law_take", defArgs s_law_take, defBody s_law_take, defScope s_law_take, [], []⟩
def dd_law_pick : He.DefD := ⟨("_law_pick", none), "_law_pick", "_law_pick", defArgs s_law_pick, defBody s_law_pick, defScope s_law_pick, [], []⟩
def dd_law_size : He.DefD := ⟨("_law_size", none), "_law_size", "_law_size", defArgs s_law_size, defBody s_law_size, defScope s_law_size, [], []⟩
def dd_law_beyond : He.DefD := ⟨("_law_beyond", none), "_law_beyond", "_law_beyond", defArgs s_law_beyond, defBody s_law_beyond, defScope s_law_beyond, [], []⟩
def dd_law_mixed : He.DefD := ⟨("_law_mixed", none), "_law_mixed", "_law_mixed", defArgs s_law_mixed, defBody s_law_mixed, defScope s_law_mixed, [], []⟩
def dd_law_is_number : He.DefD := ⟨("_law_is_number", none), "_law_is_number", "_law_is_number", defArgs s_law_is_number, defBody s_law_is_number, defScope s_law_is_number, [], []⟩
def dd_law_same : He.DefD := ⟨("_law_same", none), "_law_same", "_law_same", defArgs s_law_same, defBody s_law_same, defScope s_law_same, [], []⟩
def dd_law_closure : He.DefD := ⟨("_law_closure", none), "_law_closure", "_law_closure", defArgs s_law_closure, defBody s_law_closure, defScope s_law_closure, [], []⟩
def dd_law_ring : He.DefD := ⟨("_law_ring", none), "_law_ring", "_law_ring", defArgs s_law_ring, defBody s_law_ring, defScope s_law_ring, [], []⟩
def dd_law_beside : He.DefD := ⟨("_law_beside", none), "_law_beside", "_law_beside", defArgs s_law_beside, defBody s_law_beside, defScope s_law_beside, [], []⟩
def dd_law_net : He.DefD := ⟨("_law_net", none), "_law_net", "_law_net", defArgs s_law_net, defBody s_law_net, defScope s_law_net, [], []⟩
def dd_law_chains : He.DefD := ⟨("_law_chains", none), "_law_chains", "_law_chains", defArgs s_law_chains, defBody s_law_chains, defScope s_law_chains, [], []⟩
def dd_law_crown_shape : He.DefD := ⟨("_law_crown_shape", none), "_law_crown_shape", "_law_crown_shape", defArgs s_law_crown_shape, defBody s_law_crown_shape, defScope s_law_crown_shape, [], []⟩
def dd_law_shape : He.DefD := ⟨("_law_shape", none), "_law_shape", "_law_shape", defArgs s_law_shape, defBody s_law_shape, defScope s_law_shape, [], []⟩
def dd_law_web : He.DefD := ⟨("_law_web", none), "_law_web", "_law_web", defArgs s_law_web, defBody s_law_web, defScope s_law_web, [], []⟩
def dd_law_bent_pairs : He.DefD := ⟨("_law_bent_pairs", none), "_law_bent_pairs", "_law_bent_pairs", defArgs s_law_bent_pairs, defBody s_law_bent_pairs, defScope s_law_bent_pairs, [], []⟩
def dd_law_web_fault : He.DefD := ⟨("_law_web_fault", none), "_law_web_fault", "_law_web_fault", defArgs s_law_web_fault, defBody s_law_web_fault, defScope s_law_web_fault, [], []⟩
def dd_law_loops : He.DefD := ⟨("_law_loops", none), "_law_loops", "_law_loops", defArgs s_law_loops, defBody s_law_loops, defScope s_law_loops, [], []⟩
def dd_law_question : He.DefD := ⟨("_law_question", none), "_law_question", "_law_question", defArgs s_law_question, defBody s_law_question, defScope s_law_question, [], []⟩
def dd_law_made : He.DefD := ⟨("_law_made", none), "_law_made", "_law_made", defArgs s_law_made, defBody s_law_made, defScope s_law_made, [], []⟩
def dd_law_kinds : He.DefD := ⟨("_law_kinds", none), "_law_kinds", "_law_kinds", defArgs s_law_kinds, defBody s_law_kinds, defScope s_law_kinds, [], []⟩
def dd_law_refused : He.DefD := ⟨("_law_refused", none), "_law_refused", "_law_refused", defArgs s_law_refused, defBody s_law_refused, defScope s_law_refused, [], []⟩
def dd_law_asked : He.DefD := ⟨("_law_asked", none), "_law_asked", "_law_asked", defArgs s_law_asked, defBody s_law_asked, defScope s_law_asked, [], []⟩
def dd_law_net_right : He.DefD := ⟨("_law_net_right", none), "_law_net_right", "_law_net_right", defArgs s_law_net_right, defBody s_law_net_right, defScope s_law_net_right, [], []⟩
def dd_law : He.DefD := ⟨("law", none), "law", "law", defArgs s_law, defBody s_law, defScope s_law, [], []⟩
abbrev xs_Ring : Stmt := inClass (topS 5) 0
abbrev xs_BadDeed : Stmt := inClass (topS 4) 0
abbrev xs_BadSize : Stmt := inClass (topS 11) 0
abbrev xs_TooMany : Stmt := inClass (topS 3) 0
def dx_Ring : Hd.XI := ⟨"Ring", "ring_deed", "Ring.__init__", defArgs xs_Ring, defBody xs_Ring, defScope xs_Ring⟩
def dx_BadDeed : Hd.XI := ⟨"BadDeed", "bad_deed", "BadDeed.__init__", defArgs xs_BadDeed, defBody xs_BadDeed, defScope xs_BadDeed⟩
def dx_BadSize : Hd.XI := ⟨"BadSize", "bad_size", "BadSize.__init__", defArgs xs_BadSize, defBody xs_BadSize, defScope xs_BadSize⟩
def dx_TooMany : Hd.XI := ⟨"TooMany", "limit", "TooMany.__init__", defArgs xs_TooMany, defBody xs_TooMany, defScope xs_TooMany⟩
def hfn : List He.DefD := [dd_members, dd_Web_init, dd_Web_ahead, dd_Web_beside, dd_Web_check_deed, dd_check_parts, dd_closed_masks, dd_turned_masks, dd_law_store, dd_law_take, dd_law_pick, dd_law_size, dd_law_beyond, dd_law_mixed, dd_law_is_number, dd_law_same, dd_law_closure, dd_law_ring, dd_law_beside, dd_law_net, dd_law_chains, dd_law_crown_shape, dd_law_shape, dd_law_web, dd_law_bent_pairs, dd_law_web_fault, dd_law_loops, dd_law_question, dd_law_made, dd_law_kinds, dd_law_refused, dd_law_asked, dd_law_net_right, dd_law]
def hxs : List Hd.XI := [dx_Ring, dx_BadDeed, dx_BadSize, dx_TooMany]
def hfa0 : List He.Fa := [.glo "WatchError", .glo "TooMany", .glo "BadDeed", .glo "Ring", .glo "BadOrder", .glo "NotAhead", .glo "BadFront", .glo "BadPlace", .glo "BadText", .glo "BadSize", .glo "BadLength", .glo "NotBeside", .glo "BadTable", .glo "BadKind", .glo "BadCell", .glo "NotReadWrite", .glo "BadProgram", .glo "Twice", .glo "NotMine", .glo "Unmet", .glo "NoTwoLines", .glo "WrongSide", .glo "BadLot", .glo "BadRule", .glo "NoCrown", .glo "NoBook", .glo "NoEntry", .glo "Done", .glo "BadMove", .glo "BadLanes"]
def hfa1 : List He.Fa := [.glo "NotTime", .glo "BadPromise", .glo "NotNext", .glo "NotSingle", .glo "Between", .glo "NotStep", .glo "NothingBack", .glo "BadPaper", .glo "BadLine", .glo "Strange", .glo "Web", .cls "Web", .noat "Web" "size", .noat "Web" "masks_ahead", .noat "Web" "masks_behind", .noat "Web" "pair_rows", .exm "TooMany" "TooMany" true, .exm "TooMany" "BadDeed" false, .exm "TooMany" "Ring" false, .exm "TooMany" "BadSize" false, .exm "TooMany" "WatchError" true, .exm "BadDeed" "TooMany" false, .exm "BadDeed" "BadDeed" true, .exm "BadDeed" "Ring" false, .exm "BadDeed" "BadSize" false, .exm "BadDeed" "WatchError" true, .exm "Ring" "TooMany" false, .exm "Ring" "BadDeed" false, .exm "Ring" "Ring" true, .exm "Ring" "BadSize" false]
def hfa2 : List He.Fa := [.exm "Ring" "WatchError" true, .exm "BadSize" "TooMany" false, .exm "BadSize" "BadDeed" false, .exm "BadSize" "Ring" false, .exm "BadSize" "BadSize" true, .exm "BadSize" "WatchError" true, .noat "TooMany" "limit", .noat "BadDeed" "bad_deed", .noat "Ring" "ring_deed", .noat "BadSize" "bad_size", .free "range", .free "enumerate", .free "int", .free "len", .free "max", .free "abs", .free "min", .free "isinstance", .free "bool", .free "list", .free "tuple", .free "str", .free "ValueError", .free "super", .glo "law", .glo "members", .glo "closed_masks", .glo "_law_store", .glo "_law_take", .glo "_law_is_number"]
def hfa3 : List He.Fa := [.glo "_law_closure", .glo "_law_ring", .glo "_law_beside", .glo "turned_masks", .glo "_law_pick", .glo "_law_size", .glo "_law_beyond", .glo "_law_mixed", .glo "_law_same", .glo "_law_net", .glo "_law_chains", .glo "_law_crown_shape", .glo "_law_web_fault", .glo "_law_loops", .meth "Web" "check_deed", .glo "check_parts", .glo "_law_shape", .glo "_law_bent_pairs", .mkr "Web", .meth "Web" "ahead", .meth "Web" "beside", .glo "_law_web", .glo "_law_question", .glo "_law_asked", .glo "_law_made", .glo "_law_kinds", .glo "_law_net_right", .glo "_law_refused"]
def hfa : List He.Fa := hfa0 ++ hfa1 ++ hfa2 ++ hfa3
def hfx0 : List (PySem.W.Frag → Bool) := [fun K => Hd.emptyTB K (adK K).dflt, fun K => Hd.webB K (He.ga K "Web"), fun K => (KL (adK K)).all fun C => decide (PySem.W.kitOne K (.ref (He.ga K "TooMany")) (.ref C) = some (decide (C = He.ga K "TooMany"))), fun K => decide (((KL (adK K)).filter fun C => decide (C = He.ga K "TooMany")).length = 1), fun K => decide (PySem.W.kitOne K (.ref (He.ga K "TooMany")) (.type "ValueError") = some true), fun K => (KL (adK K)).all fun C => decide (PySem.W.kitOne K (.ref (He.ga K "BadDeed")) (.ref C) = some (decide (C = He.ga K "BadDeed"))), fun K => decide (((KL (adK K)).filter fun C => decide (C = He.ga K "BadDeed")).length = 1), fun K => decide (PySem.W.kitOne K (.ref (He.ga K "BadDeed")) (.type "ValueError") = some true), fun K => (KL (adK K)).all fun C => decide (PySem.W.kitOne K (.ref (He.ga K "Ring")) (.ref C) = some (decide (C = He.ga K "Ring"))), fun K => decide (((KL (adK K)).filter fun C => decide (C = He.ga K "Ring")).length = 1), fun K => decide (PySem.W.kitOne K (.ref (He.ga K "Ring")) (.type "ValueError") = some true), fun K => (KL (adK K)).all fun C => decide (PySem.W.kitOne K (.ref (He.ga K "BadSize")) (.ref C) = some (decide (C = He.ga K "BadSize"))), fun K => decide (((KL (adK K)).filter fun C => decide (C = He.ga K "BadSize")).length = 1), fun K => decide (PySem.W.kitOne K (.ref (He.ga K "BadSize")) (.type "ValueError") = some true), fun K => Hd.ecB K (He.ga K "TooMany"), fun K => L2.xfB K (He.ga K "TooMany"), fun K => Hd.ecB K (He.ga K "BadDeed"), fun K => L2.xfB K (He.ga K "BadDeed"), fun K => Hd.ecB K (He.ga K "Ring"), fun K => L2.xfB K (He.ga K "Ring"), fun K => Hd.ecB K (He.ga K "BadSize"), fun K => L2.xfB K (He.ga K "BadSize")]
def hfx : List (PySem.W.Frag → Bool) := hfx0
def hnm0 : List Str := ["_wall", "__name__", "WatchError", "TooMany", "BadDeed", "Ring", "BadOrder", "NotAhead", "BadFront", "BadPlace", "BadText", "BadSize", "BadLength", "NotBeside", "BadTable", "BadKind", "BadCell", "NotReadWrite", "BadProgram", "Twice", "NotMine", "Unmet", "NoTwoLines", "WrongSide", "BadLot", "BadRule", "NoCrown", "NoBook", "NoEntry", "Done"]
def hnm1 : List Str := ["BadMove", "BadLanes", "NotTime", "BadPromise", "NotNext", "NotSingle", "Between", "NotStep", "NothingBack", "BadPaper", "BadLine", "Strange", "__name__", "members", "__name__", "Web", "check_parts", "closed_masks", "turned_masks", "joined_web", "__name__", "_law_store", "_law_take", "_law_pick", "_law_size", "_law_beyond", "_law_mixed", "_law_is_number", "_law_same", "_law_closure"]
def hnm2 : List Str := ["_law_ring", "_law_beside", "_law_net", "_law_chains", "_law_crown_shape", "_law_shape", "_law_web", "_law_bent_pairs", "_law_web_fault", "_law_loops", "_law_question", "_law_made", "_law_kinds", "_law_refused", "_law_asked", "_law_net_right"]
def hnm : List Str := hnm0 ++ hnm1 ++ hnm2
abbrev R : PySem.W.OpenRow := PySem.W.OpenLaw.row PySem.Challenge.rw_fewreaders_k02_web_is_the_closure
abbrev hk : PySem.W.Hook := Hd.hookM R.prog.main.file hfa hfn hxs hfx
def hob (s : PySem.W.SharedT) : Hd.AlM := Hd.obsMG R.prog.main.file hfa hfn hxs hfx (HandSHeadRun.getT s)
theorem hob_eq (s : PySem.W.SharedT) : hob s = hk.obs s.abs := Hd.obsMG_eq (HandSHeadRun.getT_eq s)
theorem hrun (w : World) : HandSHeadRun.RunEq R (PySem.W.view R.prog [76]) hk hob 12500 hnm w := by
  intro os
  kernel_rfl
end Law
namespace Law
open PySem PySem.Spec PyProof.Rows L2 Sat
open Evl (Ex)
open Wb
def sp_law_take : Sp := fun vs H Q _ => ∃ (s c : Addr) (many : Int) (Fr : List A), vs = [.ref s, .int many] ∧ many < 2 ^ 200 ∧ Cl Fr c ∧ sat (sto s c :: Fr) H ∧
  ∀ r H', 0 ≤ r → r < max many 1 → sat (sto s c :: Fr) H' → Q (.int r) H'
theorem sp_law_take_len {vs H Q E} (h : sp_law_take vs H Q E) : vs.length = 2 := by obtain ⟨_, _, _, _, rfl, _⟩ := h; rfl
def sp_law_size : Sp := fun vs H Q _ => ∃ (s c : Addr) (lo hi : Int) (Fr : List A), vs = [.ref s, .int lo, .int hi] ∧ lo ≤ hi ∧ hi - lo < 2 ^ 150 ∧ Cl Fr c ∧ sat (sto s c :: Fr) H ∧
  ∀ r H', lo ≤ r → r ≤ hi → sat (sto s c :: Fr) H' → Q (.int r) H'
theorem sp_law_size_len {vs H Q E} (h : sp_law_size vs H Q E) : vs.length = 3 := by obtain ⟨_, _, _, _, _, rfl, _⟩ := h; rfl
def sp_law_mixed : Sp := fun vs H Q _ => ∃ (s c a : Addr) (Fr : List A) (ds : List Sat.D), vs = [.ref s, .ref a] ∧ Vw Fr a ds ∧ ds.length ≤ 100000 ∧ Cl Fr c ∧ sat (sto s c :: Fr) H ∧
  ∀ p es H', es.Perm ds → sat (sto s c :: ol p es :: Fr) H' → Q (.ref p) H'
theorem sp_law_mixed_len {vs H Q E} (h : sp_law_mixed vs H Q E) : vs.length = 2 := by obtain ⟨_, _, _, _, _, rfl, _⟩ := h; rfl
def sp_members : Sp := fun vs H Q _ => ∃ (m : Nat) (Fr : List A), vs = [.int (m : Int)] ∧ m < 2 ^ 64 ∧ sat Fr H ∧ ∀ p H', sat (ol p ((Mk.bits m).map dI) :: Fr) H' → Q (.ref p) H'
theorem sp_members_len {vs H Q E} (h : sp_members vs H Q E) : vs.length = 1 := by obtain ⟨_, _, rfl, _⟩ := h; rfl
def sp_law_is_number : Sp := fun vs H Q _ => ∃ (i : Int) (Fr : List A), vs = [.int i] ∧ sat Fr H ∧ ∀ H', sat Fr H' → Q (.bl true) H'
theorem sp_law_is_number_len {vs H Q E} (h : sp_law_is_number vs H Q E) : vs.length = 1 := by obtain ⟨_, _, rfl, _⟩ := h; rfl
def sp_law_same : Sp := fun vs H Q _ => ∃ (x y : V) (d : Sat.D) (Fr : List A) (n : Nat), vs = [x, y] ∧ okD d ∧ n < 64 ∧ lev d n = [] ∧ (∀ k, (lev d k).length ≤ 100000) ∧ sat (.rp x d :: .rp y d :: Fr) H ∧
  ∀ H', sat (.rp x d :: .rp y d :: Fr) H' → Q (.bl true) H'
theorem sp_law_same_len {vs H Q E} (h : sp_law_same vs H Q E) : vs.length = 2 := by obtain ⟨_, _, _, _, _, rfl, _⟩ := h; rfl
theorem same_any {As : List A} {H : Hp} {x y : V} {d : Sat.D} {n : Nat} {Q : VK} {E : XK} (s : sat As H) (r1 : Rp H x d) (r2 : Rp H y d) (ok : okD d) (hn : n < 64) (hl : lev d n = []) (hz : ∀ k, (lev d k).length ≤ 100000) (k : ∀ H', sat As H' → Q (.bl true) H') : sp_law_same [x, y] H Q E :=
  ⟨x, y, d, [.fr H], n, rfl, ok, hn, hl, hz, sat.all (.cons r1 (.cons r2 .nil)), fun H' h' => k H' (s.back h' 2)⟩
theorem same_int {As : List A} {H : Hp} {i : Int} {Q : VK} {E : XK} (s : sat As H) (k : ∀ H', sat As H' → Q (.bl true) H') : sp_law_same [.int i, .int i] H Q E := same_any s (.v _) (.v _) (.int i) (by decide : 1 < 64) lev_flat lev_flat_le k
theorem same_ints {As : List A} {H : Hp} {a b : Addr} {ns : List Int} {Q : VK} {E : XK} (s : sat As H) (w : Vw As a (ns.map dI)) (w' : Vw As b (ns.map dI)) (hl : ns.length ≤ 100000) (k : ∀ H', sat As H' → Q (.bl true) H') : sp_law_same [.ref a, .ref b] H Q E := same_any s (vw_rp s w) (vw_rp s w') ok_ints (by decide : 2 < 64) lev_ints (lev_ints_le hl) k
def sp_law_store (K : PySem.W.Frag) : Sp := fun vs H Q _ => ∃ (a : Addr) (ns : List Int), vs = [.ref a] ∧ SqL K H a (ns.map V.int) ∧ ns.length ≤ 63 ∧
  ∀ s c H', sat [sto s c, ol c (ns.map dI)] H' → Q (.ref s) H'
theorem sp_law_store_len {K : PySem.W.Frag} {vs H Q E} (h : sp_law_store K vs H Q E) : vs.length = 1 := by obtain ⟨_, _, rfl, _⟩ := h; rfl

theorem lg {n : Int} (h : n.natAbs < 2 ^ 1900) : n.natAbs.log2 < 1920 := by
  by_cases z : n.natAbs = 0
  · rw [z]; decide
  · exact Nat.lt_of_lt_of_le ((Nat.log2_lt z).mpr h) (by decide)
/-- it is raised: the class at c, its field f holds i -/
def Rz (E : XK) (Fr : List A) (c : Addr) (f : Str) (i : Int) : Prop := ∀ d H', sat (xo d f (.int i) :: Fr) H' → E (.ref c) (some d) H'
def fault (ad : Ad) (n : Int) (ps : Ps) : Option (Addr × Str × Int) :=
  if n < 0 then some (ad.BadSize, "bad_size", n) else match firstBad n ps with
    | some v => some (ad.BadDeed, "bad_deed", v)
    | none => if 16 < n then some (ad.TooMany, "limit", 16) else none
def Sm (n : Int) : Prop := n.natAbs < 2 ^ 1900
def sp_check_parts (K : PySem.W.Frag) (ad : Ad) : Sp := fun vs H Q E => ∃ (n : Int) (a : Addr) (ps : Ps) (b : Bool) (Fr : List A), vs = [.int n, .ref a] ∧ Sm n ∧ (∀ v ∈ flat ps, Sm v) ∧ Sv K Fr a (dPs ps) b ∧ sat Fr H ∧
  (∀ c f i, fault ad n ps = some (c, f, i) → Rz E Fr c f i) ∧ (fault ad n ps = none → ∀ H', sat Fr H' → Q .non H')
theorem sp_check_parts_len {K ad vs H Q E} (h : sp_check_parts K ad vs H Q E) : vs.length = 2 := by obtain ⟨_, _, _, _, _, rfl, _⟩ := h; rfl
/-- pairs of deeds of 0 .. n - 1 -/
def In (n : Nat) (ps : Ps) : Prop := ∀ p ∈ ps, (0 ≤ p.1 ∧ p.1 < n) ∧ (0 ≤ p.2 ∧ p.2 < n)
def sp_closed_masks (K : PySem.W.Frag) : Sp := fun vs H Q E => ∃ (n : Nat) (a : Addr) (ps : Ps) (b : Bool) (Fr : List A), vs = [.int (n : Int), .ref a] ∧ n ≤ 16 ∧ In n ps ∧ Sv K Fr a (dPs ps) b ∧ sat Fr H ∧
  ∀ p H', sat (ol p ((row n (clTo ps n)).map dI) :: Fr) H' → Q (.ref p) H'
theorem sp_closed_masks_len {K vs H Q E} (h : sp_closed_masks K vs H Q E) : vs.length = 2 := by obtain ⟨_, _, _, _, _, rfl, _⟩ := h; rfl
theorem tup_ref {F : Hp} {x : V} {ds : List Sat.D} (h : Rp F x (.tup ds)) : ∃ a, x = .ref a := by cases h; exact ⟨_, rfl⟩
theorem getP {ps : Ps} {i : Nat} {d : Sat.D} (h : (dPs ps)[i]? = some d) : ∃ p, ps[i]? = some p ∧ d = dP p := by
  rw [List.getElem?_map] at h
  cases e : ps[i]? with
  | none => rw [e] at h; cases h
  | some p => rw [e] at h; exact ⟨p, rfl, (Option.some.inj h).symm⟩

theorem ixP {m : Nat} {i : Int} (h0 : 0 ≤ i) (h1 : i < m) : ixN m i = some i.toNat := by unfold ixN; rw [if_pos h0, if_pos h1]
theorem rowI {n : Nat} {M : Nat → Nat} {z : Int} (h0 : 0 ≤ z) (h1 : z < n) : atI ((row n M).map dI) z = some (.v (.int (M z.toNat : Nat))) := atI_ints h0 (row_get M (by omega))
theorem rowN {n : Nat} {M : Nat → Nat} {i : Nat} (h1 : i < n) : atI ((row n M).map dI) (i : Int) = some (.v (.int (M i : Nat))) := atI_ints (Int.natCast_nonneg i) (by rw [Int.toNat_natCast]; exact row_get M h1)
theorem row_setD {n i : Nat} (M : Nat → Nat) (v : Nat) : ((row n M).map dI).set i (dI (v : Int)) = (row n fun x => if x = i then v else M x).map dI := by rw [← row_set, List.map_set]
theorem row_setI {n i : Nat} {M : Nat → Nat} {v : Int} (u : Nat) (e : v = (u : Int)) : ((row n M).map dI).set i (dI v) = ((row n M).set i (u : Int)).map dI := by rw [e, List.map_set]
theorem mem_testI (m n : Nat) : Builtin.bitAnd ((m : Int) / 2 ^ (n : Int).toNat) 1 ≠ 0 ↔ m.testBit n = true := by rw [Int.toNat_natCast]; exact Mk.mem_test m n

def sp_turned_masks : Sp := fun vs H Q E => ∃ (n : Nat) (a : Addr) (M : Nat → Nat) (Fr : List A), vs = [.ref a] ∧ n ≤ 16 ∧ Low n M ∧ Vw Fr a ((row n M).map dI) ∧ sat Fr H ∧
  ∀ p H', sat (ol p ((row n (turnTo M n)).map dI) :: Fr) H' → Q (.ref p) H'
theorem sp_turned_masks_len {vs H Q E} (h : sp_turned_masks vs H Q E) : vs.length = 1 := by obtain ⟨_, _, _, _, rfl, _⟩ := h; rfl
theorem getRow {n i : Nat} {M : Nat → Nat} {d : Sat.D} (h : ((row n M).map dI)[i]? = some d) : i < n ∧ d = dI ((M i : Nat) : Int) := by
  have hi : i < n := by
    obtain ⟨q, _⟩ := List.getElem?_eq_some_iff.mp h
    rw [List.length_map, row_len] at q
    exact q
  refine ⟨hi, ?_⟩
  rw [List.getElem?_map, row_get M hi] at h
  exact (Option.some.inj h).symm

/-- a web as it stands: its attributes in the order in which they are laid -/
def pairsTo (n : Nat) (T : Nat → Nat) (k : Nat) : Ps := (List.range k).flatMap fun (a : Nat) => (Mk.nums (T a)).map fun (b : Nat) => ((a : Int), (b : Int))
def webF (n : Nat) (M : Nat → Nat) : List (Str × Sat.D) := [("size", dI (n : Int)), ("masks_ahead", .lst ((row n M).map dI)), ("masks_behind", .lst ((row n (turnTo M n)).map dI)), ("pair_rows", .lst (dPs (pairsTo n (turnTo M n) n)))]
def webD (ad : Ad) (n : Nat) (M : Nat → Nat) : Sat.D := .ob ad.Web (webF n M)
def sp_Web_check_deed (ad : Ad) : Sp := fun vs H Q E => ∃ (n : Nat) (a : Addr) (M : Nat → Nat) (i : Int) (Fr : List A), vs = [.ref a, .int i] ∧ Sm i ∧ sat (.rp (.ref a) (webD ad n M) :: Fr) H ∧
  ((i < 0 ∨ (n : Int) ≤ i) → Rz E (.rp (.ref a) (webD ad n M) :: Fr) ad.BadDeed "bad_deed" i) ∧ (0 ≤ i → i < n → ∀ H', sat (.rp (.ref a) (webD ad n M) :: Fr) H' → Q .non H')
theorem sp_Web_check_deed_len {ad vs H Q E} (h : sp_Web_check_deed ad vs H Q E) : vs.length = 2 := by obtain ⟨_, _, _, _, _, rfl, _⟩ := h; rfl

theorem tb_eq1 (m k : Nat) : decide (Builtin.bitAnd ((m : Int) / 2 ^ k) 1 = 1) = m.testBit k := by
  have h := Mk.mem_test m k
  have e : Builtin.bitAnd ((m : Int) / 2 ^ k) 1 = 0 ∨ Builtin.bitAnd ((m : Int) / 2 ^ k) 1 = 1 := by
    rw [PyProof.Rows.bitAnd_m1]
    omega
  cases c : m.testBit k with
  | true => exact decide_eq_true (by rcases e with e | e; exact absurd e (h.mpr c); exact e)
  | false => exact decide_eq_false fun z => by rw [(h.mp (by rw [z]; decide))] at c; cases c
theorem tb_eq0 (m k : Nat) : decide (Builtin.bitAnd ((m : Int) / 2 ^ k) 1 = 0) = !m.testBit k := by
  have h := Mk.mem_test m k
  cases c : m.testBit k with
  | true => exact decide_eq_false (h.mpr c)
  | false => exact decide_eq_true (Classical.byContradiction fun z => by rw [h.mp z] at c; cases c)
theorem lst_ref {F : Hp} {x : V} {ds : List Sat.D} (h : Rp F x (.lst ds)) : ∃ a, x = .ref a := by cases h; exact ⟨_, rfl⟩
/-- the first of two numbers that is no deed -/
def bad2 (n : Nat) (a b : Int) : Option Int := ([a, b] : List Int).find? (bad n)
theorem bad2_l {n : Nat} {a b : Int} (h : a < 0 ∨ (n : Int) ≤ a) : bad2 n a b = some a := by
  have z : bad n a = true := by unfold bad; simp; omega
  unfold bad2
  simp [z]
theorem bad2_r {n : Nat} {a b : Int} (h0 : 0 ≤ a) (h1 : a < n) (h : b < 0 ∨ (n : Int) ≤ b) : bad2 n a b = some b := by
  have y : bad n a = false := by unfold bad; simp; omega
  have z : bad n b = true := by unfold bad; simp; omega
  unfold bad2
  simp [y, z]
theorem bad2_n {n : Nat} {a b : Int} (h0 : 0 ≤ a) (h1 : a < n) (h2 : 0 ≤ b) (h3 : b < n) : bad2 n a b = none := by
  have y : bad n a = false := by unfold bad; simp; omega
  have z : bad n b = false := by unfold bad; simp; omega
  unfold bad2
  simp [y, z]
def isAhead (M : Nat → Nat) (a b : Int) : Bool := (M b.toNat).testBit a.toNat
def isBeside (n : Nat) (M : Nat → Nat) (a b : Int) : Bool := !decide (a = b) && !(M b.toNat ||| turnTo M n b.toNat).testBit a.toNat
def spAsk (ad : Ad) (f : Nat → (Nat → Nat) → Int → Int → Bool) : Sp := fun vs H Q E => ∃ (n : Nat) (s : Addr) (M : Nat → Nat) (a b : Int) (Fr : List A), vs = [.ref s, .int a, .int b] ∧ Sm a ∧ Sm b ∧ sat (.rp (.ref s) (webD ad n M) :: Fr) H ∧
  (∀ v, bad2 n a b = some v → Rz E (.rp (.ref s) (webD ad n M) :: Fr) ad.BadDeed "bad_deed" v) ∧ (bad2 n a b = none → ∀ H', sat (.rp (.ref s) (webD ad n M) :: Fr) H' → Q (.bl (f n M a b)) H')
theorem spAsk_len {ad f vs H Q E} (h : spAsk ad f vs H Q E) : vs.length = 3 := by obtain ⟨_, _, _, _, _, _, rfl, _⟩ := h; rfl
abbrev sp_Web_ahead (ad : Ad) : Sp := spAsk ad fun _ M => isAhead M
abbrev sp_Web_beside (ad : Ad) : Sp := spAsk ad isBeside
theorem sp_Web_ahead_len {ad vs H Q E} (h : sp_Web_ahead ad vs H Q E) : vs.length = 3 := spAsk_len h
theorem sp_Web_beside_len {ad vs H Q E} (h : sp_Web_beside ad vs H Q E) : vs.length = 3 := spAsk_len h

theorem Sm.small {i : Int} (h : i.natAbs < 2 ^ 64) : Sm i := Nat.lt_of_lt_of_le h (Nat.pow_le_pow_right (by decide) (by decide))
theorem Rz.up {E : XK} {Fr : List A} {c : Addr} {f : Str} {i : Int} {x : A} (h : Rz E Fr c f i) : Rz E (x :: Fr) c f i := fun d H' s => h d H' (s.pick [0] 2)
def ringOf (n : Nat) (M : Nat → Nat) : Option Nat := (List.range n).find? fun d => (M d).testBit d
def wfault (ad : Ad) (n : Int) (ps : Ps) : Option (Addr × Str × Int) := match fault ad n ps with
  | some x => some x
  | none => (ringOf n.toNat (clTo ps n.toNat)).map fun (i : Nat) => (ad.Ring, "ring_deed", (i : Int))
theorem fault_none {ad : Ad} {n : Int} {ps : Ps} (h : fault ad n ps = none) : ∃ m : Nat, n = (m : Int) ∧ m ≤ 16 ∧ In m ps := by
  unfold fault at h
  split at h
  · cases h
  · split at h
    · cases h
    · rename_i e
      split at h
      · cases h
      · refine ⟨n.toNat, by omega, by omega, fun p hp => ?_⟩
        have := firstBad_none e p hp
        omega
def sp_Web_init (K : PySem.W.Frag) (ad : Ad) : Sp := fun vs H Q E => ∃ (n : Int) (s a : Addr) (ps : Ps) (b : Bool) (Fr : List A), vs = [.ref s, .int n, .ref a] ∧ Sm n ∧ (∀ v ∈ flat ps, Sm v) ∧ Sv K Fr a (dPs ps) b ∧ sat (oi s ad.Web [] :: Fr) H ∧
  (∀ c f i, wfault ad n ps = some (c, f, i) → Rz E Fr c f i) ∧ (wfault ad n ps = none → ∀ H', sat (.rp (.ref s) (webD ad n.toNat (clTo ps n.toNat)) :: Fr) H' → Q .non H')
theorem sp_Web_init_len {K ad vs H Q E} (h : sp_Web_init K ad vs H Q E) : vs.length = 3 := by obtain ⟨_, _, _, _, _, _, rfl, _⟩ := h; rfl
theorem pairsTo_succ (n : Nat) (T : Nat → Nat) (k : Nat) : pairsTo n T (k + 1) = pairsTo n T k ++ (Mk.nums (T k)).map fun (b : Nat) => ((k : Int), (b : Int)) := by
  unfold pairsTo
  rw [List.range_succ, List.flatMap_append]
  simp
theorem pairsTo_len (n : Nat) (T : Nat → Nat) : ∀ k, (pairsTo n T k).length ≤ 64 * k
  | 0 => by simp [pairsTo]
  | k + 1 => by
    rw [pairsTo_succ, List.length_append, List.length_map]
    have := pairsTo_len n T k
    have := Mk.nums_le (T k)
    omega
theorem nums_get {m k : Nat} {v : Int} (h : (Mk.bits m)[k]? = some v) : ∃ e : Nat, (Mk.nums m)[k]? = some e ∧ v = (e : Int) := by
  unfold Mk.bits at h
  rw [List.getElem?_map] at h
  cases z : (Mk.nums m)[k]? with
  | none => rw [z] at h; cases h
  | some e => rw [z] at h; exact ⟨e, rfl, (Option.some.inj h).symm⟩
theorem find_range {p : Nat → Bool} {i : Nat} (h : (List.range i).find? p = none) : (List.range (i + 1)).find? p = if p i = true then some i else none := by
  rw [List.range_succ, List.find?_append, h]
  by_cases c : p i = true
  · rw [if_pos c]; simp [c]
  · rw [if_neg c]; simp [c]
theorem find_le {p : Nat → Bool} {i n v : Nat} (hi : i ≤ n) (h : (List.range i).find? p = some v) : (List.range n).find? p = some v := by
  obtain ⟨k, rfl⟩ := Nat.le.dest hi
  rw [List.range_add, List.find?_append, h]
  rfl

def sp_law_closure : Sp := fun vs H Q E => ∃ (n : Nat) (a : Addr) (ps : Ps) (Fr : List A), vs = [.int (n : Int), .ref a] ∧ n ≤ 16 ∧ In n ps ∧ Vw Fr a (dPs ps) ∧ sat Fr H ∧
  ∀ p H', sat (.rp (.ref p) (rowsD n (clTo ps n)) :: Fr) H' → Q (.ref p) H'
theorem sp_law_closure_len {vs H Q E} (h : sp_law_closure vs H Q E) : vs.length = 2 := by obtain ⟨_, _, _, _, rfl, _⟩ := h; rfl

def ringV : Option Nat → V
  | none => .non
  | some i => .int (i : Int)
def sp_law_ring : Sp := fun vs H Q E => ∃ (n : Nat) (p : Addr) (M : Nat → Nat) (Fr : List A), vs = [.ref p] ∧ n ≤ 16 ∧ Vw Fr p (rowsL n M) ∧ sat Fr H ∧ ∀ H', sat Fr H' → Q (ringV (ringOf n M)) H'
theorem sp_law_ring_len {vs H Q E} (h : sp_law_ring vs H Q E) : vs.length = 1 := by obtain ⟨_, _, _, _, rfl, _⟩ := h; rfl
def besideB (M : Nat → Nat) (a b : Nat) : Bool := !decide (a = b) && (!bitsOf M a b && !bitsOf M b a)
def sp_law_beside : Sp := fun vs H Q E => ∃ (n : Nat) (p : Addr) (M : Nat → Nat) (a b : Nat) (Fr : List A), vs = [.ref p, .int (a : Int), .int (b : Int)] ∧ a < n ∧ b < n ∧ Vw Fr p (rowsL n M) ∧ sat Fr H ∧ ∀ H', sat Fr H' → Q (.bl (besideB M a b)) H'
theorem sp_law_beside_len {vs H Q E} (h : sp_law_beside vs H Q E) : vs.length = 3 := by obtain ⟨_, _, _, _, _, _, rfl, _⟩ := h; rfl
/-- drawn pairs of n deeds -/
def spGen : Sp := fun vs H Q E => ∃ (s c : Addr) (n : Nat) (Fr : List A), vs = [.ref s, .int (n : Int)] ∧ n ≤ 16 ∧ Cl Fr c ∧ sat (sto s c :: Fr) H ∧ ∀ p (ps : Ps) H', In n ps → ps.length ≤ 300 → sat (sto s c :: ol p (dPs ps) :: Fr) H' → Q (.ref p) H'
theorem spGen_len {vs H Q E} (h : spGen vs H Q E) : vs.length = 2 := by obtain ⟨_, _, _, _, rfl, _⟩ := h; rfl
abbrev sp_law_net : Sp := spGen
theorem sp_law_net_len {vs H Q E} (h : sp_law_net vs H Q E) : vs.length = 2 := spGen_len h
abbrev sp_law_chains : Sp := spGen
theorem sp_law_chains_len {vs H Q E} (h : sp_law_chains vs H Q E) : vs.length = 2 := spGen_len h
abbrev sp_law_shape : Sp := spGen
theorem sp_law_shape_len {vs H Q E} (h : sp_law_shape vs H Q E) : vs.length = 2 := spGen_len h
def sp_law_crown_shape : Sp := fun vs H Q E => ∃ (s c : Addr) (n : Nat) (Fr : List A), vs = [.ref s, .int (n : Int)] ∧ 4 ≤ n ∧ n ≤ 16 ∧ Cl Fr c ∧ sat (sto s c :: Fr) H ∧ ∀ p (ps : Ps) H', In n ps → ps.length ≤ 300 → sat (sto s c :: ol p (dPs ps) :: Fr) H' → Q (.ref p) H'
theorem sp_law_crown_shape_len {vs H Q E} (h : sp_law_crown_shape vs H Q E) : vs.length = 2 := by obtain ⟨_, _, _, _, rfl, _⟩ := h; rfl
theorem In.snoc {n : Nat} {ps : Ps} {a b : Int} (h : In n ps) (ha : 0 ≤ a ∧ a < n) (hb : 0 ≤ b ∧ b < n) : In n (ps ++ [(a, b)]) := fun p hp => by
  rcases List.mem_append.mp hp with hp | hp
  · exact h p hp
  · rw [List.mem_singleton.mp hp]
    exact ⟨ha, hb⟩
theorem dPs_snoc (ps : Ps) (p : Int × Int) : dPs ps ++ [dP p] = dPs (ps ++ [p]) := by unfold dPs; rw [List.map_append]; rfl
theorem dPs_len (ps : Ps) : (dPs ps).length = ps.length := List.length_map ..
theorem sl300 {ps : Ps} (h : ps.length ≤ 1000) : (dPs ps).length < sizeLine := by rw [dPs_len, sizeLine_eq]; omega
/-- drawn numbers of pairs, anything small -/
def sp_law_loops : Sp := fun vs H Q E => ∃ (s c : Addr) (n : Nat) (Fr : List A), vs = [.ref s, .int (n : Int)] ∧ n ≤ 16 ∧ Cl Fr c ∧ sat (sto s c :: Fr) H ∧ ∀ p (ps : Ps) H', (∀ v ∈ flat ps, 0 ≤ v ∧ v < 17) → ps.length ≤ 32 → sat (sto s c :: ol p (dPs ps) :: Fr) H' → Q (.ref p) H'
theorem sp_law_loops_len {vs H Q E} (h : sp_law_loops vs H Q E) : vs.length = 2 := by obtain ⟨_, _, _, _, rfl, _⟩ := h; rfl
theorem flat_snoc {P : Int → Prop} {ps : Ps} {a b : Int} (h : ∀ v ∈ flat ps, P v) (ha : P a) (hb : P b) : ∀ v ∈ flat (ps ++ [(a, b)]), P v := fun v hv => by
  unfold flat at hv h
  rw [List.flatMap_append] at hv
  rcases List.mem_append.mp hv with hv | hv
  · exact h v hv
  · simp at hv
    rcases hv with rfl | rfl
    · exact ha
    · exact hb
def sp_law_pick : Sp := fun vs H Q _ => ∃ (s c a : Addr) (Fr : List A) (ds : List Sat.D), vs = [.ref s, .ref a] ∧ Vw Fr a ds ∧ 0 < ds.length ∧ ds.length ≤ 100000 ∧ Cl Fr c ∧ sat (sto s c :: Fr) H ∧
  ∀ x d H', d ∈ ds → sat (sto s c :: .rp x d :: Fr) H' → Q x H'
theorem sp_law_pick_len {vs H Q E} (h : sp_law_pick vs H Q E) : vs.length = 2 := by obtain ⟨_, _, _, _, _, rfl, _⟩ := h; rfl
def sp_law_beyond : Sp := fun vs H Q _ => ∃ (s c : Addr) (n : Int) (Fr : List A), vs = [.ref s, .int n] ∧ 0 ≤ n ∧ n < 2 ^ 199 ∧ Cl Fr c ∧ sat (sto s c :: Fr) H ∧ ∀ r H', (r < 0 ∨ n ≤ r) → r.natAbs < 2 ^ 210 → sat (sto s c :: Fr) H' → Q (.int r) H'
theorem sp_law_beyond_len {vs H Q E} (h : sp_law_beyond vs H Q E) : vs.length = 2 := by obtain ⟨_, _, _, _, rfl, _⟩ := h; rfl

theorem lt15 {u : Int} (h0 : 0 ≤ u) (h : u < max ((10 : Int) ^ (15 : Int).toNat) 1) : -(2 ^ 64) < u ∧ u < 2 ^ 64 := by
  have e1 : (10 : Int) ^ (15 : Int).toNat = 1000000000000000 := by decide
  rw [e1] at h
  omega
/-- three last deeds of lines -/
def L3 (n : Nat) (l : List Int) : Prop := l.length = 3 ∧ ∀ v ∈ l, -1 ≤ v ∧ v < n
theorem L3.get {n : Nat} {l : List Int} (h : L3 n l) {i : Int} (h0 : 0 ≤ i) (h1 : i < 3) : ∃ v, l[i.toNat]? = some v ∧ -1 ≤ v ∧ v < n := by
  have hi : i.toNat < l.length := by rw [h.1]; omega
  exact ⟨_, List.getElem?_eq_getElem hi, h.2 _ (List.getElem_mem hi)⟩
theorem L3.set {n : Nat} {l : List Int} (h : L3 n l) (i : Nat) {b : Int} (hb : -1 ≤ b ∧ b < n) : L3 n (l.set i b) := ⟨by rw [List.length_set]; exact h.1, fun v hv => by
  rcases List.mem_or_eq_of_mem_set hv with z | z
  · exact h.2 v z
  · rw [z]; exact hb⟩
theorem In.mono {n m : Nat} {ps : Ps} (h : In n ps) (k : n ≤ m) : In m ps := fun p hp => by have := h p hp; omega

theorem dPs_app (ps qs : Ps) : dPs ps ++ dPs qs = dPs (ps ++ qs) := by unfold dPs; rw [List.map_append]
theorem In.app {n : Nat} {ps qs : Ps} (h : In n ps) (k : In n qs) : In n (ps ++ qs) := fun p hp => by
  rcases List.mem_append.mp hp with hp | hp
  · exact h p hp
  · exact k p hp
theorem permP {es : List Sat.D} {ps : Ps} (h : es.Perm (dPs ps)) : ∃ qs : Ps, es = dPs qs ∧ qs.Perm ps := by
  let g : Sat.D → Int × Int := fun d => match d with | .tup [.v (.int a), .v (.int b)] => (a, b) | _ => (0, 0)
  have e : (dPs ps).map g = ps := by unfold dPs; rw [List.map_map]; exact List.map_id'' (fun _ => rfl) ps
  refine ⟨es.map g, ?_, by have := h.map g; rw [e] at this; exact this⟩
  unfold dPs
  rw [List.map_map]
  have key : es.map (dP ∘ g) = es.map id := List.map_congr_left fun d hd => by
    obtain ⟨p, _, rfl⟩ := List.mem_map.mp (h.mem_iff.mp hd)
    rfl
  rw [key, List.map_id]
def sp_law_web : Sp := fun vs H Q E => ∃ (s c : Addr) (Fr : List A), vs = [.ref s, .int 0, .int 16] ∧ Cl Fr c ∧ sat (sto s c :: Fr) H ∧
  ∀ t (n : Nat) (ps : Ps) H', n ≤ 16 → In n ps → ps.length ≤ 310 → sat (sto s c :: .rp (.ref t) (.tup [dI (n : Int), .lst (dPs ps), rowsD n (clTo ps n)]) :: Fr) H' → Q (.ref t) H'
theorem sp_law_web_len {vs H Q E} (h : sp_law_web vs H Q E) : vs.length = 3 := by obtain ⟨_, _, _, rfl, _⟩ := h; rfl

/-- small numbers -/
def Bd (ps : Ps) : Prop := ∀ v ∈ flat ps, v.natAbs < 2 ^ 210
theorem Bd.sm {ps : Ps} (h : Bd ps) : ∀ v ∈ flat ps, Sm v := fun v hv => Nat.lt_of_lt_of_le (h v hv) (Nat.pow_le_pow_right (by decide) (by decide))
theorem In.bd {n : Nat} {ps : Ps} (h : In n ps) (hn : n ≤ 16) : Bd ps := fun v hv => by
  obtain ⟨p, hp, hv⟩ := List.mem_flatMap.mp hv
  have := h p hp
  simp at hv
  rcases hv with rfl | rfl <;> omega
def insP (ps : Ps) (k : Nat) (p : Int × Int) : Ps := ps.take k ++ [p] ++ ps.drop k
theorem insP_D (ps : Ps) (k : Nat) (p : Int × Int) : (dPs ps).take k ++ [dP p] ++ (dPs ps).drop k = dPs (insP ps k p) := by unfold dPs insP; simp [List.map_take, List.map_drop]
theorem insP_len (ps : Ps) (k : Nat) (p : Int × Int) : (insP ps k p).length = ps.length + 1 := by unfold insP; simp; omega
theorem insP_bd {ps : Ps} {k : Nat} {a b : Int} (h : Bd ps) (ha : a.natAbs < 2 ^ 210) (hb : b.natAbs < 2 ^ 210) : Bd (insP ps k (a, b)) := fun v hv => by
  unfold insP flat at hv
  rw [List.flatMap_append, List.flatMap_append] at hv
  have sub : ∀ {qs : Ps}, (∀ q ∈ qs, q ∈ ps) → v ∈ qs.flatMap (fun p => [p.1, p.2]) → v.natAbs < 2 ^ 210 := fun {qs} hq hv => by
    obtain ⟨q, h1, h2⟩ := List.mem_flatMap.mp hv
    exact h v (List.mem_flatMap.mpr ⟨q, hq q h1, h2⟩)
  rcases List.mem_append.mp hv with hv | hv
  · rcases List.mem_append.mp hv with hv | hv
    · exact sub (fun q => List.mem_of_mem_take) hv
    · simp at hv
      rcases hv with rfl | rfl
      · exact ha
      · exact hb
  · exact sub (fun q => List.mem_of_mem_drop) hv
theorem Bd.of {ps : Ps} {p : Int × Int} (h : Bd ps) (hp : p ∈ ps) : p.1.natAbs < 2 ^ 210 ∧ p.2.natAbs < 2 ^ 210 := ⟨h _ (List.mem_flatMap.mpr ⟨p, hp, by simp⟩), h _ (List.mem_flatMap.mpr ⟨p, hp, by simp⟩)⟩
def sp_law_bent_pairs : Sp := fun vs H Q E => ∃ (s c a : Addr) (m : Int) (ps : Ps) (Fr : List A), vs = [.ref s, .int m, .ref a] ∧ 0 ≤ m ∧ m < 2 ^ 199 ∧ Vw Fr a (dPs ps) ∧ Bd ps ∧ ps.length ≤ 900 ∧ Cl Fr c ∧ sat (sto s c :: Fr) H ∧
  ∀ p (qs : Ps) H', Bd qs → qs.length ≤ ps.length + 4 → sat (sto s c :: ol p (dPs qs) :: Fr) H' → Q (.ref p) H'
theorem sp_law_bent_pairs_len {vs H Q E} (h : sp_law_bent_pairs vs H Q E) : vs.length = 3 := by obtain ⟨_, _, _, _, _, _, rfl, _⟩ := h; rfl
/-- the fault, as the law counts it -/
def kf (n : Int) (ps : Ps) : Option (Nat × Int) := if n < 0 then some (0, n) else match firstBad n ps with
  | some v => some (1, v)
  | none => if 16 < n then some (2, 16) else (ringOf n.toNat (clTo ps n.toNat)).map fun (i : Nat) => (3, (i : Int))
def nmK : Nat → Str
  | 0 => "BadSize"
  | 1 => "BadDeed"
  | 2 => "TooMany"
  | _ => "Ring"
def caK (ad : Ad) : Nat → Addr
  | 0 => ad.BadSize
  | 1 => ad.BadDeed
  | 2 => ad.TooMany
  | _ => ad.Ring
def flK : Nat → Str
  | 0 => "bad_size"
  | 1 => "bad_deed"
  | 2 => "limit"
  | _ => "ring_deed"
def dueD : Option (Nat × Int) → Sat.D
  | none => dN
  | some (k, v) => .tup [dS (nmK k), dI v]
theorem wfault_kf (ad : Ad) (n : Int) (ps : Ps) : wfault ad n ps = (kf n ps).map fun q => (caK ad q.1, flK q.1, q.2) := by
  unfold wfault kf fault
  by_cases h0 : n < 0
  · rw [if_pos h0, if_pos h0]; rfl
  · rw [if_neg h0, if_neg h0]
    cases firstBad n ps with
    | some v => rfl
    | none =>
      by_cases h1 : 16 < n
      · simp only [if_pos h1]; rfl
      · simp only [if_neg h1]
        cases ringOf n.toNat (clTo ps n.toNat) <;> rfl
def sp_law_web_fault : Sp := fun vs H Q E => ∃ (a : Addr) (n : Int) (ps : Ps) (Fr : List A), vs = [.int n, .ref a] ∧ Vw Fr a (dPs ps) ∧ sat Fr H ∧ ∀ x H', sat (.rp x (dueD (kf n ps)) :: Fr) H' → Q x H'
theorem sp_law_web_fault_len {vs H Q E} (h : sp_law_web_fault vs H Q E) : vs.length = 2 := by obtain ⟨_, _, _, _, rfl, _⟩ := h; rfl
/-- 0 <= i < n -/
theorem t_within {ta tc : TE} {H : Hp} {σ : L2.St} {i n : Int} (h1 : E1 ta σ H (.int i)) (h2 : E1 tc σ H (.int n)) : T1 (tTest (tChain (rI0 fun i j => .bl (decide (i ≤ j))) (rI0 fun i j => .bl (decide (i < j))) (tC (.int 0)) ta tc)) σ H (0 ≤ i ∧ i < n) := fun Q q1 q2 => by
  refine h1 _ ⟨0, i, rfl, rfl, decide (0 ≤ i), rfl, ?_⟩
  by_cases z : 0 ≤ i
  · rw [decide_eq_true z, if_pos rfl]
    refine h2 _ ⟨i, n, rfl, rfl, ?_⟩
    refine ⟨decide (i < n), rfl, ?_⟩
    by_cases y : i < n
    · rw [decide_eq_true y]; exact q1 ⟨z, y⟩
    · rw [decide_eq_false y]; exact q2 fun w => y w.2
  · rw [decide_eq_false z, if_neg Bool.false_ne_true]
    exact ⟨_, rfl, q2 fun w => z w.1⟩
theorem two_find {n a b : Int} : (([a, b] : List Int).find? (bad n)) = if ¬ (0 ≤ a ∧ a < n) then some a else if ¬ (0 ≤ b ∧ b < n) then some b else none := by
  have key : ∀ i, bad n i = !decide (0 ≤ i ∧ i < n) := fun i => by unfold bad; rw [Bool.eq_iff_iff]; simp
  by_cases ha : 0 ≤ a ∧ a < n
  · rw [if_neg (fun z => z ha)]
    by_cases hb : 0 ≤ b ∧ b < n
    · rw [if_neg (fun z => z hb)]; simp [key, ha, hb]
    · rw [if_pos hb]; simp [key, ha, hb]
  · rw [if_pos ha]; simp [key, ha]

theorem x_slV {K : PySem.W.Frag} {As : List A} {H : Hp} {a : Addr} {ds : List Sat.D} {lo hi : Option Int} {Q : VK} (s : sat As H) (w : Vw As a ds) (k : ∀ i j p H1, sat (ol p ((ds.drop i).take j) :: As) H1 → Q (.ref p) H1) : rSlL K (.ref a) lo hi H Q := by
  obtain ⟨xs, h1, h2, h3⟩ := s.vw w
  exact ⟨a, xs, rfl, .inl (.inl h1), fun p hp => k _ _ p _ (s.newL hp ((h3.drop _).take _))⟩
theorem dPs_cut (ps : Ps) (i j : Nat) : ((dPs ps).drop i).take j = dPs ((ps.drop i).take j) := by unfold dPs; rw [← List.map_drop, ← List.map_take]
theorem Bd.cut {ps : Ps} (h : Bd ps) (i j : Nat) : Bd ((ps.drop i).take j) := fun v hv => by
  obtain ⟨q, h1, h2⟩ := List.mem_flatMap.mp hv
  exact h v (List.mem_flatMap.mpr ⟨q, List.mem_of_mem_drop (List.mem_of_mem_take h1), h2⟩)
theorem Bd.snoc {ps : Ps} {a b : Int} (h : Bd ps) (ha : a.natAbs < 2 ^ 210) (hb : b.natAbs < 2 ^ 210) : Bd (ps ++ [(a, b)]) := flat_snoc (P := fun v => v.natAbs < 2 ^ 210) h ha hb
theorem dPs_reps (ps : Ps) : ∀ k, (List.replicate k (dPs ps)).flatten = dPs (List.replicate k ps).flatten
  | 0 => rfl
  | k + 1 => by rw [List.replicate_succ, List.replicate_succ, List.flatten_cons, List.flatten_cons, dPs_reps ps k, dPs_app]
theorem Bd.reps {ps : Ps} (h : Bd ps) (k : Nat) : Bd (List.replicate k ps).flatten := fun v hv => by
  obtain ⟨q, h1, h2⟩ := List.mem_flatMap.mp hv
  obtain ⟨l, h3, h4⟩ := List.mem_flatten.mp h1
  rw [(List.mem_replicate.mp h3).2] at h4
  exact h v (List.mem_flatMap.mpr ⟨q, h4, h2⟩)
/-- (a, b, c) = a triple -/
theorem g_trip {K : PySem.W.Frag} {As : List A} {H : Hp} {σ : L2.St} {x : V} {m : Int} {d1 d2 : Sat.D} {i j k : Nat} {Q : L2.St → Hp → Prop} (s : sat As H) (e : Ent As H x (.tup [dI m, d1, d2])) (q : ∀ y z, Ent As H y d1 → Ent As H z d2 → Q (((σ.set i (some (.int m))).set j (some y)).set k (some z)) H) : gTup K 3 (gCons (gName i) (gCons (gName j) (gCons (gName k) gNil))) x σ H Q := by
  obtain ⟨a, rfl⟩ := tup_ref (s.of e)
  obtain ⟨xs, h1, h2, h3⟩ := s.rtv e
  match xs, h2, h1, h3 with
  | [u, y, z], _, h1, h3 =>
    have e0 := h3.get (i := 0) rfl rfl
    have e1 := h3.get (i := 1) rfl rfl
    have e2 := h3.get (i := 2) rfl rfl
    cases s.flat e0
    exact ⟨_, _, rfl, .inl (.inl h1), rfl, _, _, rfl, _, _, rfl, _, _, rfl, rfl, q y z e1 e2⟩
theorem g_duo {K : PySem.W.Frag} {As : List A} {H : Hp} {σ : L2.St} {x : V} {m : Int} {d1 : Sat.D} {i j : Nat} {Q : L2.St → Hp → Prop} (s : sat As H) (e : Ent As H x (.tup [dI m, d1])) (q : ∀ y, Ent As H y d1 → Q ((σ.set i (some (.int m))).set j (some y)) H) : gTup K 2 (gCons (gName i) (gCons (gName j) gNil)) x σ H Q := by
  obtain ⟨a, rfl⟩ := tup_ref (s.of e)
  obtain ⟨xs, h1, h2, h3⟩ := s.rtv e
  match xs, h2, h1, h3 with
  | [u, y], _, h1, h3 =>
    have e0 := h3.get (i := 0) rfl rfl
    have e1 := h3.get (i := 1) rfl rfl
    cases s.flat e0
    exact ⟨_, _, rfl, .inl (.inl h1), rfl, _, _, rfl, _, _, rfl, rfl, q y e1⟩
def sp_law_question : Sp := fun vs H Q E => ∃ (s c : Addr) (Fr : List A), vs = [.ref s] ∧ Cl Fr c ∧ sat (sto s c :: Fr) H ∧
  ∀ t (n : Int) (ps : Ps) H', n.natAbs < 2 ^ 198 → Bd ps → ps.length ≤ 900 → sat (sto s c :: .rp (.ref t) (.tup [dI n, .lst (dPs ps)]) :: Fr) H' → Q (.ref t) H'
theorem sp_law_question_len {vs H Q E} (h : sp_law_question vs H Q E) : vs.length = 1 := by obtain ⟨_, _, _, rfl, _⟩ := h; rfl
theorem e59 : (10 : Int) ^ (59 : Int).toNat = 100000000000000000000000000000000000000000000000000000000000 := by decide

/-- a drawn web's parts are small -/
def sp_law_made (K : PySem.W.Frag) (ad : Ad) : Sp := fun vs H Q E => ∃ (s c a : Addr) (n : Int) (ps : Ps) (Fr : List A), vs = [.ref s, .int n, .ref a] ∧ n.natAbs < 2 ^ 198 ∧ Bd ps ∧ ps.length ≤ 900 ∧ Vw Fr a (dPs ps) ∧ Cl Fr c ∧ sat (sto s c :: Fr) H ∧
  (∀ cc f i, wfault ad n ps = some (cc, f, i) → Rz E (sto s c :: Fr) cc f i) ∧ (wfault ad n ps = none → ∀ x H', sat (sto s c :: .rp (.ref x) (webD ad n.toNat (clTo ps n.toNat)) :: Fr) H' → Q (.ref x) H')
theorem sp_law_made_len {K ad vs H Q E} (h : sp_law_made K ad vs H Q E) : vs.length = 3 := by obtain ⟨_, _, _, _, _, _, rfl, _⟩ := h; rfl
theorem Sm.of198 {n : Int} (h : n.natAbs < 2 ^ 198) : Sm n := Nat.lt_of_lt_of_le h (Nat.pow_le_pow_right (by decide) (by decide))

def sp_law_refused (ad : Ad) : Sp := fun vs H Q E => ∃ (s c a : Addr) (n : Int) (ps : Ps) (Fr : List A), vs = [.ref s, .int n, .ref a] ∧ n.natAbs < 2 ^ 198 ∧ Bd ps ∧ ps.length ≤ 900 ∧ Vw Fr a (dPs ps) ∧ Cl Fr c ∧ sat (sto s c :: Fr) H ∧
  ∀ x H', sat (sto s c :: .rp x (dueD (kf n ps)) :: Fr) H' → Q x H'
theorem sp_law_refused_len {ad vs H Q E} (h : sp_law_refused ad vs H Q E) : vs.length = 3 := by obtain ⟨_, _, _, _, _, _, rfl, _⟩ := h; rfl
def sp_law_asked (ad : Ad) : Sp := fun vs H Q E => ∃ (n : Nat) (s : Addr) (M : Nat → Nat) (a b : Int) (w : Nat) (Fr : List A), vs = [.ref s, .int a, .int b, .int (w : Int)] ∧ w < 4 ∧ Sm a ∧ Sm b ∧ sat (.rp (.ref s) (webD ad n M) :: Fr) H ∧
  ∀ x H', sat (.rp x (match bad2 n a b with | some v => .tup [dS "BadDeed", dI v] | none => dB (if w % 2 = 0 then isAhead M a b else isBeside n M a b)) :: .rp (.ref s) (webD ad n M) :: Fr) H' → Q x H'
theorem sp_law_asked_len {ad vs H Q E} (h : sp_law_asked ad vs H Q E) : vs.length = 4 := by obtain ⟨_, _, _, _, _, _, _, rfl, _⟩ := h; rfl

theorem lev_rowL {ds : List Sat.D} (h : ∀ e ∈ ds, kids e = []) : lev (.lst ds) 2 = [] := by
  show ([Sat.D.lst ds].flatMap kids).flatMap kids = []
  rw [List.flatMap_singleton]
  exact kids_flat h
theorem lev_rowT {ds : List Sat.D} (h : ∀ e ∈ ds, kids e = []) : lev (.tup ds) 2 = [] := by
  show ([Sat.D.tup ds].flatMap kids).flatMap kids = []
  rw [List.flatMap_singleton]
  exact kids_flat h
theorem lev_le2 {d : Sat.D} (h : lev d 2 = []) (h1 : (kids d).length ≤ 100000) (k : Nat) : (lev d k).length ≤ 100000 := by
  match k with
  | 0 => show 1 ≤ 100000; omega
  | 1 =>
    show ([d].flatMap kids).length ≤ _
    rw [List.flatMap_singleton]
    exact h1
  | k + 2 => rw [lev_le h (by omega)]; exact Nat.zero_le _
theorem same_lst {As : List A} {H : Hp} {x y : V} {ds : List Sat.D} {Q : VK} {E : XK} (s : sat As H) (r1 : Rp H x (.lst ds)) (r2 : Rp H y (.lst ds)) (ok : ∀ e ∈ ds, okD e ∧ kids e = []) (hl : ds.length ≤ 100000) (k : ∀ H', sat As H' → Q (.bl true) H') : sp_law_same [x, y] H Q E :=
  same_any s r1 r2 (.lst fun e he => (ok e he).1) (by decide : 2 < 64) (lev_rowL fun e he => (ok e he).2) (lev_le2 (lev_rowL fun e he => (ok e he).2) hl) k
theorem same_tup {As : List A} {H : Hp} {x y : V} {ds : List Sat.D} {Q : VK} {E : XK} (s : sat As H) (r1 : Rp H x (.tup ds)) (r2 : Rp H y (.tup ds)) (ok : ∀ e ∈ ds, okD e ∧ kids e = []) (hl : ds.length ≤ 100000) (k : ∀ H', sat As H' → Q (.bl true) H') : sp_law_same [x, y] H Q E :=
  same_any s r1 r2 (.tup fun e he => (ok e he).1) (by decide : 2 < 64) (lev_rowT fun e he => (ok e he).2) (lev_le2 (lev_rowT fun e he => (ok e he).2) hl) k
theorem same_bl {As : List A} {H : Hp} {b : Bool} {Q : VK} {E : XK} (s : sat As H) (k : ∀ H', sat As H' → Q (.bl true) H') : sp_law_same [.bl b, .bl b] H Q E := same_any s (.v _) (.v _) (.bl b) (by decide : 1 < 64) lev_flat lev_flat_le k
theorem rowB_ok {n : Nat} {f : Nat → Bool} : ∀ e ∈ rowB n f, okD e ∧ kids e = [] := fun e he => by
  obtain ⟨b, _, rfl⟩ := List.mem_map.mp he
  exact ⟨.bl _, rfl⟩
theorem bdT_ok (v : Int) : ∀ e ∈ [dS "BadDeed", dI v], okD e ∧ kids e = [] := fun e he => by
  simp at he
  rcases he with rfl | rfl
  · exact ⟨.str _, rfl⟩
  · exact ⟨.int _, rfl⟩
theorem isBeside_B {n a b : Nat} {M : Nat → Nat} (ha : a < n) : isBeside n M (a : Int) (b : Int) = besideB M a b := by
  unfold isBeside besideB bitsOf
  rw [Int.toNat_natCast, Int.toNat_natCast, Nat.testBit_or, tb_turn, decide_eq_true ha]
  have z : decide ((a : Int) = (b : Int)) = decide (a = b) := decide_eq_decide.mpr ⟨fun z => by omega, fun z => by omega⟩
  rw [z]
  simp [Bool.not_or]
theorem isAhead_B {a b : Nat} {M : Nat → Nat} : isAhead M (a : Int) (b : Int) = bitsOf M a b := by unfold isAhead bitsOf; rw [Int.toNat_natCast, Int.toNat_natCast]
/-- isinstance(net, Web) -/
theorem c_isW {K : PySem.W.Frag} {mg : Str → Option Value} {ad : Ad} (T : Tx K mg ad) {As : List A} {H : Hp} {a : Addr} {gs : List (Str × Sat.D)} (s : sat As H) (e : Ent As H (.ref a) (.ob ad.Web gs)) : C1 (rIsi K) [.ref a, .ref ad.Web] H (.bl true) := fun Q q => by
  obtain ⟨dx, fs, h1, _⟩ := s.riv e
  exact ⟨.ref a, .ref ad.Web, .ref ad.Web, .ref ad.Web, true, rfl, .own _, .base (.ins h1 T.c_Web T.w_ha T.w_hn T.w_ht T.w_hm), by unfold PySem.W.kitOne; simp, q⟩
def netA (ad : Ad) (n : Nat) (a r b : Addr) (M : Nat → Nat) (u v : Int) (Fr : List A) : List A := .rp (.ref a) (webD ad n M) :: .rp (.ref r) (.lst (rowsL n M)) :: .rp (.ref b) (.lst [dI u, dI v]) :: Fr
def sp_law_net_right (ad : Ad) : Sp := fun vs H Q E => ∃ (n : Nat) (a r b : Addr) (M : Nat → Nat) (u v : Int) (Fr : List A), vs = [.ref a, .ref r, .ref b] ∧ n ≤ 16 ∧ (u < 0 ∨ (n : Int) ≤ u) ∧ (v < 0 ∨ (n : Int) ≤ v) ∧ Sm u ∧ Sm v ∧
  sat (.rp (.ref a) (webD ad n M) :: .rp (.ref r) (.lst (rowsL n M)) :: .rp (.ref b) (.lst [dI u, dI v]) :: Fr) H ∧
  ∀ H', sat (.rp (.ref a) (webD ad n M) :: .rp (.ref r) (.lst (rowsL n M)) :: .rp (.ref b) (.lst [dI u, dI v]) :: Fr) H' → Q (.bl true) H'
theorem sp_law_net_right_len {ad vs H Q E} (h : sp_law_net_right ad vs H Q E) : vs.length = 3 := by obtain ⟨_, _, _, _, _, _, _, _, rfl, _⟩ := h; rfl

theorem rowB_succ (n : Nat) (f : Nat → Bool) : rowB (n + 1) f = rowB n f ++ [dB (f n)] := by unfold rowB; rw [List.range_succ, List.map_append]; rfl
theorem Sm.nat {i : Nat} (h : i < 64) : Sm (i : Int) := Sm.small (by have : (64 : Nat) < 2 ^ 64 := by decide
                                                                     omega)
theorem and_one (w : Nat) : Builtin.bitAnd (w : Int) 1 = ((w % 2 : Nat) : Int) := by rw [PyProof.Rows.bitAnd_m1]; omega

def sp_law_kinds (ad : Ad) : Sp := fun vs H Q E => ∃ (a : Addr) (n : Int) (ps : Ps) (Fr : List A), vs = [.int n, .ref a] ∧ n.natAbs < 2 ^ 198 ∧ Bd ps ∧ Vw Fr a (dPs ps) ∧ kf n ps ≠ none ∧ sat Fr H ∧ ∀ H', sat Fr H' → Q (.bl true) H'
theorem sp_law_kinds_len {ad vs H Q E} (h : sp_law_kinds ad vs H Q E) : vs.length = 2 := by obtain ⟨_, _, _, _, rfl, _⟩ := h; rfl
def sp_law (K : PySem.W.Frag) (ad : Ad) : Sp := fun vs H Q _ => ∃ (a : Addr) (ns : List Int), vs = [.ref a] ∧ SqL K H a (ns.map V.int) ∧ ns.length ≤ 63 ∧ ∀ H', Q (.bl true) H'
theorem sp_law_len {K ad vs H Q E} (h : sp_law K ad vs H Q E) : vs.length = 1 := by obtain ⟨_, _, rfl, _⟩ := h; rfl
theorem nr_any {ad : Ad} {As : List A} {H : Hp} {n : Nat} {x r b : Addr} {M : Nat → Nat} {u v : Int} {Q : VK} {E : XK} (s : sat As H) (hn : n ≤ 16) (hu : u < 0 ∨ (n : Int) ≤ u) (hv : v < 0 ∨ (n : Int) ≤ v) (su : Sm u) (sv : Sm v) (r1 : Rp H (.ref x) (webD ad n M)) (r2 : Rp H (.ref r) (.lst (rowsL n M))) (r3 : Rp H (.ref b) (.lst [dI u, dI v]))
    (k : ∀ H', sat As H' → Q (.bl true) H') : sp_law_net_right ad [.ref x, .ref r, .ref b] H Q E :=
  ⟨n, x, r, b, M, u, v, [.fr H], rfl, hn, hu, hv, su, sv, sat.all (.cons r1 (.cons r2 (.cons r3 .nil))), fun H' h' => k H' (s.back h' 3)⟩
theorem same_due {As : List A} {H : Hp} {x y : V} {o : Option (Nat × Int)} {Q : VK} {E : XK} (s : sat As H) (r1 : Rp H x (dueD o)) (r2 : Rp H y (dueD o)) (k : ∀ H', sat As H' → Q (.bl true) H') : sp_law_same [x, y] H Q E := by
  cases o with
  | none => exact same_any s r1 r2 .non (by decide : 1 < 64) lev_flat lev_flat_le k
  | some q =>
    refine same_tup s r1 r2 (fun e he => ?_) (show 2 ≤ 100000 by decide) k
    simp at he
    rcases he with rfl | rfl
    · exact ⟨.str _, rfl⟩
    · exact ⟨.int _, rfl⟩
theorem same_ps {As : List A} {H : Hp} {x y : V} {ps : Ps} {Q : VK} {E : XK} (s : sat As H) (r1 : Rp H x (.lst (dPs ps))) (r2 : Rp H y (.lst (dPs ps))) (hl : ps.length ≤ 900) (k : ∀ H', sat As H' → Q (.bl true) H') : sp_law_same [x, y] H Q E := by
  have l1 : lev (.lst (dPs ps)) 1 = dPs ps := by show [Sat.D.lst (dPs ps)].flatMap kids = _; rw [List.flatMap_singleton]; rfl
  have l2 : lev (.lst (dPs ps)) 2 = (flat ps).map dI := by
    show (lev (.lst (dPs ps)) 1).flatMap kids = _
    rw [l1]
    unfold flat dPs
    rw [List.flatMap_map, List.map_flatMap]
    rfl
  have l3 : lev (.lst (dPs ps)) 3 = [] := by
    show (lev (.lst (dPs ps)) 2).flatMap kids = _
    rw [l2]
    exact kids_flat fun e he => by
      obtain ⟨n, _, rfl⟩ := List.mem_map.mp he
      rfl
  have fl : (flat ps).length ≤ 2 * ps.length := by
    clear l1 l2 l3 hl r1 r2
    unfold flat
    induction ps with
    | nil => exact Nat.le_refl _
    | cons p ps ih =>
      have e : (List.flatMap (fun p : Int × Int => [p.1, p.2]) (p :: ps)).length = 2 + (List.flatMap (fun p : Int × Int => [p.1, p.2]) ps).length := by
        rw [List.flatMap_cons, List.length_append]
        rfl
      have e2 : (p :: ps).length = ps.length + 1 := rfl
      omega
  refine same_any s r1 r2 (.lst fun e he => ?_) (by decide : 3 < 64) l3 (fun k => ?_) k
  · obtain ⟨p, _, rfl⟩ := List.mem_map.mp he
    refine .tup fun d hd => ?_
    simp at hd
    rcases hd with rfl | rfl <;> exact .int _
  · match k with
    | 0 => show 1 ≤ 100000; omega
    | 1 => rw [l1, dPs_len]; omega
    | 2 => rw [l2, List.length_map]; omega
    | k + 3 => rw [lev_le l3 (by omega)]; exact Nat.zero_le _
theorem kf_none {ad : Ad} {n : Int} {ps : Ps} (h : kf n ps = none) : wfault ad n ps = none ∧ ∃ m : Nat, n = (m : Int) ∧ m ≤ 16 ∧ In m ps := by
  have h1 : wfault ad n ps = none := by rw [wfault_kf, h]; rfl
  refine ⟨h1, fault_none (ad := ad) ?_⟩
  unfold wfault at h1
  cases e : fault ad n ps with
  | none => rfl
  | some x => rw [e] at h1; cases h1
/-- the elder web and its rows -/
def Eld (ad : Ad) (el er : V) (Fr : List A) : Prop := el = .non ∨ ∃ (n : Nat) (x r : Addr) (M : Nat → Nat), el = .ref x ∧ er = .ref r ∧ n ≤ 16 ∧ Fr[0]? = some (.rp (.ref x) (webD ad n M)) ∧ Fr[1]? = some (.rp (.ref r) (.lst (rowsL n M)))

theorem c_isE {K : PySem.W.Frag} {As : List A} {H : Hp} {D C a d : Addr} {f : Str} {v : V} {b : Bool} {i : Nat} (iD : ExcC K D) (kit : PySem.W.kitOne K (.ref D) (.ref C) = some b) (s : sat As H) (h : As[i]? = some (xo d f v)) : C1 (rIsX K (.ref D) a (some d)) [.ref a, .ref C] H (.bl b) := fun Q q => by
  obtain ⟨o, _, h1, h2, _⟩ := s.own i h
  subst h2
  exact ⟨D, .ref C, .ref C, b, rfl, iD, rfl, fun u r => r, kit, fun dx e => ⟨_, by cases e; exact h1⟩, q⟩
theorem c_isV {K : PySem.W.Frag} {As : List A} {H : Hp} {D a d : Addr} {f : Str} {v : V} {b : Bool} {n : String} {i : Nat} (iD : ExcC K D) (kit : PySem.W.kitOne K (.ref D) (.type n) = some b) (s : sat As H) (h : As[i]? = some (xo d f v)) : C1 (rIsX K (.ref D) a (some d)) [.ref a, .ty n] H (.bl b) := fun Q q => by
  obtain ⟨o, _, h1, h2, _⟩ := s.own i h
  subst h2
  exact ⟨D, .ty n, .type n, b, rfl, iD, rfl, fun u r => r, kit, fun dx e => ⟨_, by cases e; exact h1⟩, q⟩
theorem g_word {t : TS} {D : Ends} {σ : L2.St} {H : Hp} (W : L2.St → Hp → Prop) (w : W σ H) (k : ∀ σ H, W σ H → t D σ H) : t D σ H := k _ _ w
def seg0 (ad : Ad) (c : Addr) : List Bool := [decide (ad.TooMany = c), decide (ad.BadDeed = c), decide (ad.Ring = c), decide (ad.BadOrder = c)]
def seg1 (ad : Ad) (c : Addr) : List Bool := [decide (ad.NotAhead = c), decide (ad.BadFront = c), decide (ad.BadPlace = c), decide (ad.BadText = c)]
def seg2 (ad : Ad) (c : Addr) : List Bool := [decide (ad.BadSize = c), decide (ad.BadLength = c), decide (ad.NotBeside = c), decide (ad.BadTable = c)]
def seg3 (ad : Ad) (c : Addr) : List Bool := [decide (ad.BadKind = c), decide (ad.BadCell = c), decide (ad.NotReadWrite = c)]
def seg4 (ad : Ad) (c : Addr) : List Bool := [decide (ad.BadProgram = c), decide (ad.Twice = c), decide (ad.NotMine = c), decide (ad.Unmet = c)]
def seg5 (ad : Ad) (c : Addr) : List Bool := [decide (ad.NoTwoLines = c), decide (ad.WrongSide = c), decide (ad.BadLot = c), decide (ad.BadRule = c)]
def seg6 (ad : Ad) (c : Addr) : List Bool := [decide (ad.NoCrown = c), decide (ad.NoBook = c), decide (ad.NoEntry = c), decide (ad.Done = c)]
def seg7 (ad : Ad) (c : Addr) : List Bool := [decide (ad.BadMove = c), decide (ad.BadLanes = c), decide (ad.NotTime = c), decide (ad.BadPromise = c)]
def seg8 (ad : Ad) (c : Addr) : List Bool := [decide (ad.NotNext = c), decide (ad.NotSingle = c), decide (ad.Between = c), decide (ad.NotStep = c)]
def seg9 (ad : Ad) (c : Addr) : List Bool := [decide (ad.NothingBack = c), decide (ad.BadPaper = c), decide (ad.BadLine = c), decide (ad.Strange = c)]
theorem seg_all (ad : Ad) (c : Addr) : seg0 ad c ++ seg1 ad c ++ seg2 ad c ++ seg3 ad c ++ seg4 ad c ++ seg5 ad c ++ seg6 ad c ++ seg7 ad c ++ seg8 ad c ++ seg9 ad c = (KL ad).map fun C => decide (C = c) := rfl

theorem getB {ps : List Bool} {i : Nat} {d : Sat.D} (h : (ps.map dB)[i]? = some d) : ∃ p, ps[i]? = some p ∧ d = dB p := by
  rw [List.getElem?_map] at h
  cases e : ps[i]? with
  | none => rw [e] at h; cases h
  | some p => rw [e] at h; exact ⟨p, rfl, (Option.some.inj h).symm⟩

end Law

namespace Law
open PySem PySem.Spec PyProof.Rows L2 Sat
open Evl (Ex)
open Wb
theorem ok_members {P : Program} {w : World} {K : PySem.W.Frag} {mg : Str → Option Value} {base : Heap} {ad : Ad} (T : Tx K mg ad) {f : Addr} {fd : FuncData} (F : Fun K "members" "members" s_members f fd) : FnOk P w K mg base CX0 1 f fd ["mask"] (sp_members) := by
  have nd := sc_members.nd
  refine F.ok sc_members (fun vs H Q E h => ?_) (fun cdv A outer s H vs Q E hr h => ?_)
  · exact sp_members_len h
  · refine ⟨_, (pss_one (ps_ret (pe_lc (own := [("number", 1)]) (by rfl) nd (pi_range1 rfl T.m_range (pa_cons (pe_bits (pv 0)) pa_nil)) (blkOk_by (own := [("number", 1)]) (N := ["mask", "number"]) (sc := defScope s_members) (by decide +kernel)) (fun _ _ _ _ _ => (pg_name (i := 1) nd rfl (.inl rfl))) (fun _ _ _ _ _ => pts_one (pt_truK (K := K) rfl (pe_op op_and (pe_op op_shr (pv 0) (pv 1)) pe_int))) (fun _ _ _ _ _ => (pv 1))))), ?_⟩
    obtain ⟨m, Fr, rfl, hm, h, q⟩ := h
    have hb := Mk.intBits_le hm
    refine g_ret ?_
    refine x_lcR1 h (e_cons (e_bits (e_var rfl)) e_nil) ⟨by omega, by omega⟩ (fun Dl i H => sat (ol Dl ((Mk.numsTo m i).map fun (j : Nat) => dI (j : Int)) :: Fr) H) (fun Dl H1 h => h) ?_ ?_
    · rintro Dl i H hi h
      refine l_name rfl ?_
      refine l_if (t_truI (e_op (e_op (e_var rfl) (e_var rfl) (r_shr (by omega))) e_c r_I0)) (fun c => ?_) (fun c => ?_)
      · refine g_e (e_var rfl) ?_
        refine x_lcE (d := dI (i : Int)) h 0 rfl Ent.v (by rw [List.length_map, sizeLine_eq]; have := List.length_filter_le m.testBit (List.range i); rw [List.length_range] at this; unfold Mk.numsTo; omega) fun H1 h2 => ?_
        refine (show sat (ol Dl ((Mk.numsTo m (i + 1)).map fun (j : Nat) => dI (j : Int)) :: Fr) _ from ?_)
        rw [Mk.numsTo_yes ((Mk.mem_test m i).mp c), List.map_append]
        exact h2
      · refine (show sat (ol Dl ((Mk.numsTo m (i + 1)).map fun (j : Nat) => dI (j : Int)) :: Fr) _ from ?_)
        rw [Mk.numsTo_no (Bool.eq_false_iff.mpr fun z => c ((Mk.mem_test m i).mpr z))]
        exact h
    rintro Dl H h
    rw [Int.toNat_natCast, Mk.numsTo_all hm] at h
    have h : sat (ol Dl ((Mk.bits m).map dI) :: Fr) H := by unfold Mk.bits; rw [List.map_map]; exact h
    exact q _ _ h

end Law

namespace Law
open PySem PySem.Spec PyProof.Rows L2 Sat
open Evl (Ex)
open Wb
theorem ok_closed_masks {P : Program} {w : World} {K : PySem.W.Frag} {mg : Str → Option Value} {base : Heap} {ad : Ad} (T : Tx K mg ad) {f : Addr} {fd : FuncData} (F : Fun K "closed_masks" "closed_masks" s_closed_masks f fd) : FnOk P w K mg base CX0 1 f fd ["size", "pairs"] (sp_closed_masks K) := by
  have nd := sc_closed_masks.nd
  refine F.ok sc_closed_masks (fun vs H Q E h => ?_) (fun cdv A outer s H vs Q E hr h => ?_)
  · exact sp_closed_masks_len h
  · refine ⟨_, (pss_cons (ps_setLc (i := 2) (own := [("deed", 6)]) (by rfl) nd rfl rfl (sw_true rfl rfl rfl (by decide +kernel)) (pi_range1 rfl T.m_range (pa_cons (pv 0) pa_nil)) (blkOk_by (own := [("deed", 6)]) (N := ["size", "pairs", "masks", "a", "b", "middle", "deed"]) (sc := defScope s_closed_masks) (by decide +kernel)) (fun _ _ _ _ _ => (pg_name (i := 6) nd rfl (.inl rfl))) (fun _ _ _ _ _ => pts_nil) (fun _ _ _ _ _ => pe_int))
    (pss_cons (ps_for PassesOwn.never rfl (pi_seq (pv 1)) (pg_tup rfl (pgs_cons (pg_name (i := 3) nd rfl (.inl rfl)) (pgs_cons (pg_name (i := 4) nd rfl (.inl rfl)) pgs_nil)))
    (pss_one (ps_asg (pe_op op_or (pe_ix ix_list (pv 2) (pv 4) (fun _ _ => rfl)) (pe_op op_shl pe_int (pv 3))) (pg_sub (pv 2) (pv 4) set_list))))
    (pss_cons (ps_for PassesOwn.never rfl (pi_range1 rfl T.m_range (pa_cons (pv 0) pa_nil)) (pg_name (i := 5) nd rfl (.inl rfl))
    (pss_one (ps_for PassesOwn.never rfl (pi_range1 rfl T.m_range (pa_cons (pv 0) pa_nil)) (pg_name (i := 6) nd rfl (.inl rfl))
    (pss_one (ps_if (pt_tru' (pe_op op_and (pe_op op_shr (pe_ix ix_list (pv 2) (pv 6) (fun _ _ => rfl)) (pv 5)) pe_int))
    (pss_one (ps_asg (pe_op op_or (pe_ix ix_list (pv 2) (pv 6) (fun _ _ => rfl)) (pe_ix ix_list (pv 2) (pv 5) (fun _ _ => rfl))) (pg_sub (pv 2) (pv 6) set_list)))
    pss_nil)))))
    (pss_one (ps_ret (pv 2)))))), ?_⟩
    obtain ⟨n, a, ps, b, Fr, rfl, hn, hin, w, h, q⟩ := h
    have ln : ∀ M, ((row n M).map dI).length = n := fun M => by rw [List.length_map, row_len]
    refine g_seq (g_set ?_)
    refine x_lcR1 h (e_cons (e_var rfl) e_nil) ⟨by omega, by omega⟩ (fun Dl i H => i ≤ n ∧ sat (ol Dl (List.replicate i (dI 0)) :: Fr) H) (fun Dl H1 h => ⟨Nat.zero_le _, h⟩) ?_ ?_
    · rintro Dl i H hi ⟨_, h⟩
      refine l_name rfl ?_
      refine l_yes ?_
      refine g_e e_c ?_
      refine x_lcE (d := dI 0) h 0 rfl Ent.v (by rw [List.length_replicate, sizeLine_eq]; omega) fun acc h => ?_
      refine ⟨by omega, ?_⟩
      rw [List.replicate_succ']
      exact h
    rintro Dl H ⟨_, h⟩
    rw [Int.toNat_natCast] at h
    have h : sat (ol Dl ((row n (clTo [] 0)).map dI) :: Fr) H := by
      rw [show clTo [] 0 = fun _ => 0 from rfl, row_zero, List.map_replicate]; exact h
    refine g_seq (x_forS h w.up (e_var rfl) (fun i σ H => ∃ y3 y4 : Option V, σ = [some (.int (n : Int)), some (.ref a), some (.ref Dl), y3, y4, none, none] ∧ sat (ol Dl ((row n (init (ps.take i))).map dI) :: Fr) H) ⟨none, none, rfl, h⟩ (fun i σ H _ ⟨_, _, _, h⟩ => ⟨_, h, w.up⟩) ?_ ?_)
    · rintro i d x σ H hd ⟨y3, y4, rfl, h⟩ hx
      obtain ⟨p, hp, rfl⟩ := getP hd
      have hpi := hin p (List.mem_of_getElem? hp)
      refine g_pairI h (hx h w.up) ?_
      refine g_asg (g_e (e_op (e_op (e_var rfl) (e_var rfl) (r_ixV h (.o 0) (rowI hpi.2.1 hpi.2.2))) (e_op e_c (e_var rfl) (r_shl ⟨by omega, by omega, by decide⟩)) r_I0) (g_sub (e_var rfl) (e_var rfl) (x_setL h 0 rfl Ent.v (ixP hpi.2.1 (by rw [ln]; omega)) fun H1 h => ?_)))
      refine ⟨_, _, rfl, ?_⟩
      have e : Builtin.bitOr ((init (ps.take i) p.2.toNat : Nat) : Int) (1 * 2 ^ p.1.toNat) = ((init (ps.take i) p.2.toNat ||| 2 ^ p.1.toNat : Nat) : Int) := by rw [shl_int, orNN]
      rw [takeS hp, init_snoc]
      have h : sat (ol Dl (((row n (init (ps.take i))).map dI).set p.2.toNat (dI (Builtin.bitOr ((init (ps.take i) p.2.toNat : Nat) : Int) (1 * 2 ^ p.1.toNat)))) :: Fr) H1 := h
      rw [e, row_setD] at h
      have e2 : (row n fun x => if x = p.2.toNat then init (ps.take i) p.2.toNat ||| 2 ^ p.1.toNat else init (ps.take i) x) = row n (put (init (ps.take i)) p.1.toNat p.2.toNat) := row_ext fun d _ => by
        unfold put
        by_cases z : d = p.2.toNat
        · rw [if_pos z, if_pos z, z]
        · rw [if_neg z, if_neg z]
      rw [e2] at h
      exact h
    rintro σ H ⟨y3, y4, rfl, h⟩
    rw [List.length_map, List.take_length] at h
    refine g_seq (x_forR1 (e_cons (e_var rfl) e_nil) ⟨by omega, by omega⟩ (fun i σ H => ∃ y5 y6 : Option V, σ = [some (.int (n : Int)), some (.ref a), some (.ref Dl), y3, y4, y5, y6] ∧ sat (ol Dl ((row n (clTo ps i)).map dI) :: Fr) H) ⟨none, none, rfl, h⟩ ?_ ?_)
    · rintro i σ H hi ⟨y5, y6, rfl, h⟩
      refine g_name ?_
      refine x_forR1 (e_cons (e_var rfl) e_nil) ⟨by omega, by omega⟩ (fun k σ H => ∃ y6 : Option V, σ = [some (.int (n : Int)), some (.ref a), some (.ref Dl), y3, y4, some (.int (i : Int)), y6] ∧ sat (ol Dl ((row n (stepTo (clTo ps i) i k)).map dI) :: Fr) H) ⟨y6, rfl, by rw [stepTo_zero]; exact h⟩ ?_ ?_
      · rintro k σ H hk ⟨y6, rfl, h⟩
        refine g_name ?_
        have g1 : atI ((row n (stepTo (clTo ps i) i k)).map dI) (k : Int) = some (.v (.int (clTo ps i k : Nat))) := by rw [rowN (by omega), stepTo_at]
        have g2 : atI ((row n (stepTo (clTo ps i) i k)).map dI) (i : Int) = some (.v (.int (clTo ps i i : Nat))) := by rw [rowN (by omega), stepTo_mid]
        refine g_if1 (t_truI (e_op (e_op (e_op (e_var rfl) (e_var rfl) (r_ixV h (.o 0) g1)) (e_var rfl) (r_shr (by omega))) e_c r_I0)) (fun c => ?_) (fun c => ?_)
        · refine g_asg (g_e (e_op (e_op (e_var rfl) (e_var rfl) (r_ixV h (.o 0) g1)) (e_op (e_var rfl) (e_var rfl) (r_ixV h (.o 0) g2)) r_I0) (g_sub (e_var rfl) (e_var rfl) (x_setL h 0 rfl Ent.v (ixP (by omega) (by rw [ln]; omega)) fun H1 h => ?_)))
          refine ⟨_, rfl, ?_⟩
          have h : sat (ol Dl (((row n (stepTo (clTo ps i) i k)).map dI).set (k : Int).toNat (dI (Builtin.bitOr ((clTo ps i k : Nat) : Int) ((clTo ps i i : Nat) : Int)))) :: Fr) H1 := h
          rw [Int.toNat_natCast, orNN, ← List.map_set, row_step ((mem_testI _ _).mp c)] at h
          exact h
        · refine g_next ⟨_, rfl, ?_⟩
          rw [← row_same (fun z => c ((mem_testI _ _).mpr z))]
          exact h
      · rintro σ H ⟨y6, rfl, h⟩
        rw [Int.toNat_natCast, row_end, ← clTo_succ] at h
        exact ⟨_, _, rfl, h⟩
    rintro σ H ⟨y5, y6, rfl, h⟩
    rw [Int.toNat_natCast] at h
    exact g_ret1 (e_var rfl) (q _ _ h)

end Law

namespace Law
open PySem PySem.Spec PyProof.Rows L2 Sat
open Evl (Ex)
open Wb
theorem ok_law_store {P : Program} {w : World} {K : PySem.W.Frag} {mg : Str → Option Value} {base : Heap} {ad : Ad} (T : Tx K mg ad) {f : Addr} {fd : FuncData} (F : Fun K "_law_store" "_law_store" s_law_store f fd) : FnOk P w K mg base CX0 1 f fd ["script"] (sp_law_store K) := by
  have nd := sc_law_store.nd
  refine F.ok sc_law_store (fun vs H Q E h => ?_) (fun cdv A outer s H vs Q E hr h => ?_)
  · exact sp_law_store_len h
  · refine ⟨_, (pss_cons (ps_setLc (i := 1) (own := [("cell", 2)]) (by rfl) nd rfl rfl (sw_true rfl rfl rfl (by decide +kernel)) (pi_list (pv 0)) (blkOk_by (own := [("cell", 2)]) (N := ["script", "cells", "cell"]) (sc := defScope s_law_store) (by decide +kernel)) (fun _ _ _ _ _ => (pg_name (i := 2) nd rfl (.inl rfl))) (fun _ _ _ _ _ => pts_nil) (fun _ _ _ _ _ => (pe_callTy call_int1' (by rfl) T.m_int (by decide +kernel) (pa_cons (pv 2) pa_nil))))
    (pss_one (ps_ret (pe_lst (pa_cons (pv 1) (pa_cons pe_int (pa_cons pe_int (pa_cons pe_int (pa_cons (pe_op op_add pe_int (pe_callB call_len' (by rfl) T.m_len (by decide +kernel) (pa_cons (pv 1) pa_nil))) (pa_cons pe_int pa_nil)))))))))), ?_⟩
    obtain ⟨a, ns, rfl, hS, hl, q⟩ := h
    have h0 : sat [.fr H] H := sat.all .nil
    refine g_seq (g_set ?_)
    refine ⟨_, rfl, a, rfl, ⟨_, hS⟩, fun D hD => lc_list (xs := ns.map V.int) (fun i H' => sat [ol D ((ns.take i).map dI), .fr H] H') (h0.newL hD EntA.nil) (fun i H' _ h => ?_) (fun i x H' hx h => ?_) (fun H' h => ?_)⟩
    · obtain ⟨F, hf⟩ := h
      exact Evl.ex_l (Ex.trans (hf.ok _ (List.mem_of_getElem? (i := 1) rfl)) hf.ex) hS
    · rw [List.getElem?_map] at hx
      cases e : ns[i]? with
      | none => rw [e] at hx; cases hx
      | some n =>
        rw [e] at hx
        cases hx
        have hi := (List.getElem?_eq_some_iff.mp e).1
        refine l_name rfl (l_yes (g_cb1 (e_cons (e_var rfl) e_nil) (g_c c_int1 ?_)))
        refine x_lcE (d := dI n) h 0 rfl Ent.v (by rw [List.length_map, List.length_take, sizeLine_eq]; omega) fun acc h => ?_
        refine (show sat [ol D ((ns.take (i + 1)).map dI), .fr H] _ from ?_)
        rw [takeS e, List.map_append]
        exact h
    · rw [List.length_map, List.take_length] at h
      refine g_ret (g_lst0 ?_)
      refine g_a (e_cons (e_var rfl) (e_cons e_c (e_cons e_c (e_cons e_c (e_cons (e_op e_c (e_cb (e_cons (e_var rfl) e_nil) (c_lenV h (.o 0))) r_I0) (e_cons e_c e_nil)))))) ?_
      refine x_lstP h (sz 6 (by decide)) fun p h => ?_
      exact q p D _ (sto_close (by decide) (h.pick [0, 1] 3))

end Law

namespace Law
open PySem PySem.Spec PyProof.Rows L2 Sat
open Evl (Ex)
open Wb
theorem ok_law_take {P : Program} {w : World} {K : PySem.W.Frag} {mg : Str → Option Value} {base : Heap} {ad : Ad} (T : Tx K mg ad) {f : Addr} {fd : FuncData} (F : Fun K "_law_take" "_law_take" s_law_take f fd) : FnOk P w K mg base CX0 1 f fd ["store", "many"] (sp_law_take) := by
  have nd := sc_law_take.nd
  refine F.ok sc_law_take (fun vs H Q E h => ?_) (fun cdv A outer s H vs Q E hr h => ?_)
  · exact sp_law_take_len h
  · refine ⟨_, (pss_cons (ps_set (i := 2) nd rfl (.inl rfl) (pe_callB (call_max2' rfl) (by rfl) T.m_max (by decide +kernel) (pa_cons pe_int (pa_cons (pv 1) pa_nil))))
    (pss_cons (ps_set (i := 3) nd rfl (.inl rfl) (pe_ix ix_list (pv 0) pe_int (fun _ _ => rfl)))
    (pss_cons (ps_set (i := 4) nd rfl (.inl rfl) pe_int)
    (pss_cons (ps_asg (pe_op op_add (pe_ix ix_list (pv 0) pe_int (fun _ _ => rfl)) pe_int) (pg_sub (pv 0) pe_int set_list))
    (C8.pss_cut (ps_if (PW.pt (pw_and (pt_cmpR op_eq (pe_ix ix_list (pv 0) pe_int (fun _ _ => rfl)) pe_int (nomark _)) (pw_and (pt_cmpR op_eq (pe_ix ix_list (pv 0) pe_int (fun _ _ => rfl)) pe_int (nomark _)) (pw_and1 (pt_cmpR op_lt (pe_ix ix_list (pv 0) pe_int (fun _ _ => rfl)) (pe_callB call_len' (by rfl) T.m_len (by decide +kernel) (pa_cons (pv 3) pa_nil)) (nomark _))))))
    (pss_cons (ps_set (i := 5) nd rfl (.inl rfl) (pe_callTy call_int1' (by rfl) T.m_int (by decide +kernel) (pa_cons (pe_ix ix_list (pv 3) (pe_ix ix_list (pv 0) pe_int (fun _ _ => rfl)) (fun _ _ => rfl)) pa_nil)))
    (pss_cons (ps_asg (pe_op op_add (pe_ix ix_list (pv 0) pe_int (fun _ _ => rfl)) pe_int) (pg_sub (pv 0) pe_int set_list))
    (pss_cons (ps_asg (pe_op op_mod (pe_callTy call_int1' (by rfl) T.m_int (by decide +kernel) (pa_cons (pe_op op_add (pe_op op_add (pe_op op_mul (pe_ix ix_list (pv 0) pe_int (fun _ _ => rfl)) pe_int) (pe_op op_mul (pv 5) pe_int)) pe_int) pa_nil)) (pv 4)) (pg_sub (pv 0) pe_int set_list))
    (pss_one (ps_if (pt_cmpR op_ge (pe_callB call_abs' (by rfl) T.m_abs (by decide +kernel) (pa_cons (pv 5) pa_nil)) (pe_op op_pow pe_int pe_int) (nomark _))
    (pss_one (ps_asg (pe_callB call_abs' (by rfl) T.m_abs (by decide +kernel) (pa_cons (pv 5) pa_nil)) (pg_sub (pv 0) pe_int set_list)))
    (pss_one (ps_asg pe_int (pg_sub (pv 0) pe_int set_list))))))))
    pss_nil)
    (pss_cons (ps_if (pt_cmpR op_gt (pe_ix ix_list (pv 0) pe_int (fun _ _ => rfl)) pe_int (nomark _))
    (pss_cons (ps_set (i := 6) nd rfl (.inl rfl) (pe_callTy call_int1' (by rfl) T.m_int (by decide +kernel) (pa_cons (pe_ix ix_list (pv 0) pe_int (fun _ _ => rfl)) pa_nil)))
    (pss_cons (ps_asg (pe_op op_fdivW (pv 6) (pv 2)) (pg_sub (pv 0) pe_int set_list))
    (pss_one (ps_ret (pe_op op_mod (pv 6) (pv 2))))))
    pss_nil)
    (C8.pss_cut (ps_if (pt_cmpR op_gt (pe_ix ix_list (pv 0) pe_int (fun _ _ => rfl)) pe_int (nomark _))
    (pss_one (ps_asg (pe_op op_sub (pe_ix ix_list (pv 0) pe_int (fun _ _ => rfl)) pe_int) (pg_sub (pv 0) pe_int set_list)))
    pss_nil)
    (pss_cons (ps_set (i := 7) nd rfl (.inl rfl) (pe_op op_mod (pe_callTy call_int1' (by rfl) T.m_int (by decide +kernel) (pa_cons (pe_op op_add (pe_op op_add (pe_op op_mul (pe_ix ix_list (pv 0) pe_int (fun _ _ => rfl)) pe_int) (pe_op op_mul (pe_ix ix_list (pv 0) pe_int (fun _ _ => rfl)) pe_int)) pe_int) pa_nil)) (pv 4)))
    (pss_cons (ps_asg (pv 7) (pg_sub (pv 0) pe_int set_list))
    (pss_cons (ps_set (i := 8) nd rfl (.inl rfl) (pe_op op_mod (pe_callTy call_int1' (by rfl) T.m_int (by decide +kernel) (pa_cons (pv 7) pa_nil)) pe_int))
    (pss_cons (ps_set (i := 9) nd rfl (.inl rfl) (pe_op op_fdiv (pv 7) pe_int))
    (pss_cons (ps_set (i := 10) nd rfl (.inl rfl) (pe_op op_mod (pe_callTy call_int1' (by rfl) T.m_int (by decide +kernel) (pa_cons (pe_op op_add (pe_op op_mul (pv 8) pe_int) (pe_op op_mul (pv 9) (pe_op op_add (pv 8) pe_int))) pa_nil)) (pv 4)))
    (pss_one (ps_ret (pe_op op_mod (pe_callTy call_int1' (by rfl) T.m_int (by decide +kernel) (pa_cons (pe_op op_fdiv (pv 10) pe_int) pa_nil)) (pv 2)))))))))))))))), ?_⟩
    obtain ⟨s, c, many, Fr, rfl, hm, ⟨ns, vc⟩, h0, q⟩ := h
    obtain ⟨a1, a2, a3, a4, a5, p1, h⟩ := sto_open h0
    refine g_seq (g_set1 (e_cb (e_cons e_c (e_cons (e_var rfl) e_nil)) c_max2) ?_)
    refine g_seq (g_set1 (e_op (e_var rfl) e_c (r_ixP h 0 rfl)) ?_)
    refine g_seq (g_set1 e_c ?_)
    refine g_seq (g_asg (g_e (e_op (e_op (e_var rfl) e_c (r_ixP h 0 rfl)) e_c r_I0) (g_sub (e_var rfl) e_c (x_setP h 0 rfl rfl fun H1 h => ?_))))
    have h : sat (pt s (.lst [.ref c, .int a1, .int a2, .int a3, .int a4, .int (a5 + 1)]) :: Fr) H1 := h
    generalize hsz : (if many > 1 then many else 1) = size
    have hs0 : 0 < size := by rw [← hsz]; split <;> omega
    have hs1 : size < 2 ^ 200 := by rw [← hsz]; split <;> omega
    have hs2 : size = max many 1 := by rw [← hsz]; split <;> omega
    refine g_cut (fun σ H => ∃ a1 a2 a3 a4 a5 y5, 0 ≤ a1 ∧ σ = [some (.ref s), some (.int many), some (.int size), some (.ref c), some (.int 2305843009213693951), y5, none, none, none, none, none] ∧ sat (pt s (.lst [.ref c, .int a1, .int a2, .int a3, .int a4, .int a5]) :: Fr) H) ?_ ?_
    · refine g_if1 (t_and (t_eqI (e_op (e_var rfl) e_c (r_ixP h 0 rfl)) e_c) fun _ => t_and (t_eqI (e_op (e_var rfl) e_c (r_ixP h 0 rfl)) e_c) fun _ => t_I (e_op (e_var rfl) e_c (r_ixP h 0 rfl)) (e_cb (e_cons (e_var rfl) e_nil) (c_lenV h vc.up))) (fun hc => ?_) (fun _ => ?_)
      · obtain ⟨_, _, hc⟩ := hc
        have hc : a1 < ((ns.map dI).length : Int) := hc
        rw [List.length_map] at hc
        obtain ⟨n, hn⟩ : ∃ n, ns[a1.toNat]? = some n := ⟨_, List.getElem?_eq_getElem (by omega)⟩
        have hd : atI (ns.map dI) a1 = some (.v (.int n)) := atI_ints p1 hn
        refine g_seq (g_set1 (e_cb (e_cons (e_op (e_var rfl) (e_op (e_var rfl) e_c (r_ixP h 0 rfl)) (r_ixV h vc.up hd)) e_nil) c_int1) ?_)
        refine g_seq (g_asg (g_e (e_op (e_op (e_var rfl) e_c (r_ixP h 0 rfl)) e_c r_I0) (g_sub (e_var rfl) e_c (x_setP h 0 rfl rfl fun H1 h => ?_))))
        refine g_seq (g_asg (g_e (e_op (e_cb (e_cons (e_op (e_op (e_op (e_op (e_var rfl) e_c (r_ixP h 0 rfl)) e_c (r_mulR ⟨by decide, by decide⟩)) (e_op (e_var rfl) e_c (r_mulR ⟨by decide, by decide⟩)) r_I0) e_c r_I0) e_nil) c_int1) (e_var rfl) (r_mod (by decide))) (g_sub (e_var rfl) e_c (x_setP h 0 rfl rfl fun H1 h => ?_))))
        refine g_if1 (t_I (e_cb (e_cons (e_var rfl) e_nil) c_abs) (e_op e_c e_c (r_pow ⟨by decide, by decide, by decide⟩))) (fun _ => ?_) (fun _ => ?_)
        · refine g_asg (g_e (e_cb (e_cons (e_var rfl) e_nil) c_abs) (g_sub (e_var rfl) e_c (x_setP h 0 rfl rfl fun H1 h => ?_)))
          exact ⟨_, _, _, _, _, _, by omega, rfl, h⟩
        · refine g_asg (g_e e_c (g_sub (e_var rfl) e_c (x_setP h 0 rfl rfl fun H1 h => ?_)))
          exact ⟨_, _, _, _, _, _, by omega, rfl, h⟩
      · exact g_next ⟨_, _, _, _, _, _, p1, rfl, h⟩
    · rintro σ H ⟨a1, a2, a3, a4, a5, y5, p1, rfl, h⟩
      refine g_seq (g_if1 (t_I (e_op (e_var rfl) e_c (r_ixP h 0 rfl)) e_c) (fun _ => ?_) (fun _ => ?_))
      · refine g_seq (g_set1 (e_cb (e_cons (e_op (e_var rfl) e_c (r_ixP h 0 rfl)) e_nil) c_int1) ?_)
        refine g_seq (g_asg (g_e (e_op (e_var rfl) (e_var rfl) (r_divW hs0 (by omega))) (g_sub (e_var rfl) e_c (x_setP h 0 rfl rfl fun H1 h => ?_))))
        refine g_ret1 (e_op (e_var rfl) (e_var rfl) (r_mod hs0)) (q _ _ (emod_lo hs0) ?_ (sto_close p1 h))
        rw [← hs2]
        exact Int.emod_lt_of_pos _ hs0
      · refine g_next (g_cut (fun σ H => ∃ a1 a2 a3 a4 a5, 0 ≤ a1 ∧ σ = [some (.ref s), some (.int many), some (.int size), some (.ref c), some (.int 2305843009213693951), y5, none, none, none, none, none] ∧ sat (pt s (.lst [.ref c, .int a1, .int a2, .int a3, .int a4, .int a5]) :: Fr) H) ?_ ?_)
        · refine g_if1 (t_I (e_op (e_var rfl) e_c (r_ixP h 0 rfl)) e_c) (fun _ => ?_) (fun _ => ?_)
          · refine g_asg (g_e (e_op (e_op (e_var rfl) e_c (r_ixP h 0 rfl)) e_c r_I0) (g_sub (e_var rfl) e_c (x_setP h 0 rfl rfl fun H1 h => ?_)))
            exact ⟨_, _, _, _, _, p1, rfl, h⟩
          · exact g_next ⟨_, _, _, _, _, p1, rfl, h⟩
        · rintro σ H ⟨a1, a2, a3, a4, a5, p1, rfl, h⟩
          refine g_seq (g_set1 (e_op (e_cb (e_cons (e_op (e_op (e_op (e_op (e_var rfl) e_c (r_ixP h 0 rfl)) e_c (r_mulR ⟨by decide, by decide⟩)) (e_op (e_op (e_var rfl) e_c (r_ixP h 0 rfl)) e_c (r_mulR ⟨by decide, by decide⟩)) r_I0) e_c r_I0) e_nil) c_int1) (e_var rfl) (r_mod (by decide))) ?_)
          refine g_seq (g_asg (g_e (e_var rfl) (g_sub (e_var rfl) e_c (x_setP h 0 rfl rfl fun H1 h => ?_))))
          generalize (a4 * 1181783497276652981 + a5 * 69621 + 11) % 2305843009213693951 = state at h ⊢
          have l0 : 0 ≤ state % 1000003 := Int.emod_nonneg _ (by decide)
          have l1 : state % 1000003 < 1000003 := Int.emod_lt_of_pos _ (by decide)
          refine g_seq (g_set1 (e_op (e_cb (e_cons (e_var rfl) e_nil) c_int1) e_c (r_mod (by decide))) ?_)
          refine g_seq (g_set1 (e_op (e_var rfl) e_c (r_div (by decide) (by decide))) ?_)
          refine g_seq (g_set1 (e_op (e_cb (e_cons (e_op (e_op (e_var rfl) e_c (r_mulR ⟨by decide, by decide⟩)) (e_op (e_var rfl) (e_op (e_var rfl) e_c r_I0) (r_mulR ⟨by omega, by omega⟩)) r_I0) e_nil) c_int1) (e_var rfl) (r_mod (by decide))) ?_)
          refine g_ret1 (e_op (e_cb (e_cons (e_op (e_var rfl) e_c (r_div (by decide) (by decide))) e_nil) c_int1) (e_var rfl) (r_mod hs0)) (q _ _ (emod_lo hs0) ?_ (sto_close p1 h))
          rw [← hs2]
          exact Int.emod_lt_of_pos _ hs0

end Law

namespace Law
open PySem PySem.Spec PyProof.Rows L2 Sat
open Evl (Ex)
open Wb
theorem ok_law_is_number {P : Program} {w : World} {K : PySem.W.Frag} {mg : Str → Option Value} {base : Heap} {ad : Ad} (T : Tx K mg ad) {f : Addr} {fd : FuncData} (F : Fun K "_law_is_number" "_law_is_number" s_law_is_number f fd) : FnOk P w K mg base CX0 1 f fd ["value"] (sp_law_is_number) := by
  have nd := sc_law_is_number.nd
  refine F.ok sc_law_is_number (fun vs H Q E h => ?_) (fun cdv A outer s H vs Q E hr h => ?_)
  · exact sp_law_is_number_len h
  · refine ⟨_, (pss_one (ps_ret (pe_and (pe_callB call_isi (by rfl) T.m_isinstance (by decide +kernel) (pa_cons (pv 0) (pa_cons (pe_bltn (v := .ty "int") (u := .type "int") (by rfl) T.m_int (by decide +kernel) rfl) pa_nil))) (pe_one (pe_not (pe_callB call_isi (by rfl) T.m_isinstance (by decide +kernel) (pa_cons (pv 0) (pa_cons (pe_bltn (v := .ty "bool") (u := .type "bool") (by rfl) T.m_bool (by decide +kernel) rfl) pa_nil)))))))), ?_⟩
    obtain ⟨i, Fr, rfl, h, q⟩ := h
    have h1 := h.rp (x := .int i) Ent.v
    exact g_ret1 (e_andV (e_isiT h1 (.at 0) (.int i) s_ii) fun _ => e_notV (e_isiT h1 (.at 0) (.int i) s_ib)) (q _ h)

end Law

namespace Law
open PySem PySem.Spec PyProof.Rows L2 Sat
open Evl (Ex)
open Wb
theorem ok_law_closure {P : Program} {w : World} {K : PySem.W.Frag} {mg : Str → Option Value} {base : Heap} {ad : Ad} (T : Tx K mg ad) {f : Addr} {fd : FuncData} (F : Fun K "_law_closure" "_law_closure" s_law_closure f fd) : FnOk P w K mg base CX0 1 f fd ["size", "pairs"] (sp_law_closure) := by
  have nd := sc_law_closure.nd
  refine F.ok sc_law_closure (fun vs H Q E h => ?_) (fun cdv A outer s H vs Q E hr h => ?_)
  · exact sp_law_closure_len h
  · refine ⟨_, (pss_cons (ps_setLc (i := 2) (own := [("at", 7)]) (by rfl) nd rfl rfl (sw_true rfl rfl rfl (by decide +kernel)) (pi_range1 rfl T.m_range (pa_cons (pv 0) pa_nil)) (blkOk_by (own := [("at", 7)]) (N := ["size", "pairs", "rows", "a", "b", "row", "mid", "at"]) (sc := defScope s_law_closure) (by decide +kernel)) (fun _ _ _ _ _ => (pg_name (i := 7) nd rfl (.inl rfl))) (fun _ _ _ _ _ => pts_nil) (fun _ _ _ _ _ => (pe_op op_rep (pe_lst (pa_cons pe_bl pa_nil)) (pv 0))))
    (pss_cons (ps_for PassesOwn.never rfl (pi_list (pv 1)) (pg_tup rfl (pgs_cons (pg_name (i := 3) nd rfl (.inl rfl)) (pgs_cons (pg_name (i := 4) nd rfl (.inl rfl)) pgs_nil)))
    (pss_cons (ps_set (i := 5) nd rfl (.inl rfl) (pe_ix ix_list (pv 2) (pv 3) (fun _ _ => rfl)))
    (pss_one (ps_asg pe_bl (pg_sub (pv 5) (pv 4) set_list)))))
    (pss_cons (ps_for PassesOwn.never rfl (pi_range1 rfl T.m_range (pa_cons (pv 0) pa_nil)) (pg_name (i := 6) nd rfl (.inl rfl))
    (pss_one (ps_for PassesOwn.never rfl (pi_range1 rfl T.m_range (pa_cons (pv 0) pa_nil)) (pg_name (i := 3) nd rfl (.inl rfl))
    (pss_one (ps_if (pt_val (pe_ix ix_list (pe_ix ix_list (pv 2) (pv 3) (fun _ _ => rfl)) (pv 6) (fun _ _ => rfl)))
    (pss_cons (ps_set (i := 5) nd rfl (.inl rfl) (pe_ix ix_list (pv 2) (pv 3) (fun _ _ => rfl)))
    (pss_one (ps_for PassesOwn.never rfl (pi_range1 rfl T.m_range (pa_cons (pv 0) pa_nil)) (pg_name (i := 4) nd rfl (.inl rfl))
    (pss_one (ps_if (pt_val (pe_ix ix_list (pe_ix ix_list (pv 2) (pv 6) (fun _ _ => rfl)) (pv 4) (fun _ _ => rfl)))
    (pss_one (ps_asg pe_bl (pg_sub (pv 5) (pv 4) set_list)))
    pss_nil)))))
    pss_nil)))))
    (pss_one (ps_ret (pv 2)))))), ?_⟩
    obtain ⟨n, a0, ps, Fr, rfl, hn, hin, w, h, q⟩ := h
    refine g_seq (g_set ?_)
    refine x_lcR1 h (e_cons (e_var rfl) e_nil) ⟨by omega, by omega⟩ (fun Dl i H => ∃ bs : List Addr, bs.length = i ∧ i ≤ n ∧ sat (ol Dl (refs bs) :: ((bs.map fun a => ol a (List.replicate n (dB false))) ++ Fr)) H) (fun Dl H1 h => ⟨[], rfl, Nat.zero_le _, h⟩) ?_ ?_
    · rintro Dl i H hi ⟨bs, hl, hin2, h⟩
      refine l_name rfl ?_
      refine l_yes ?_
      refine g_op ?_
      refine g_lst (ds := [dB false]) h (e_cons e_c e_nil) (EntA.cons Ent.v EntA.nil) (sz 1 (by decide)) fun p1 H h => ?_
      refine g_e (e_var rfl) ?_
      refine x_repV h (.o 0) ⟨by omega, by omega⟩ (by rw [sizeLine_eq]; simp only [List.length_cons, List.length_nil]; omega) fun p2 H h => ?_
      refine x_lcE (d := .v (.ref p2)) h 2 rfl Ent.v (by rw [List.length_map, List.length_reverse, sizeLine_eq]; omega) fun acc h => ?_
      have h := h.pick [2, 0] 3
      refine ⟨p2 :: bs, by rw [List.length_cons, hl], by omega, ?_⟩
      rw [refs_cons, List.map_cons, List.cons_append]
      have e : (List.replicate ((n : Int)).toNat [dB false]).flatten = List.replicate n (dB false) := by
        rw [Int.toNat_natCast]
        simp
      have h : sat (ol Dl (refs bs ++ [.v (.ref p2)]) :: ol p2 (List.replicate ((n : Int)).toNat [dB false]).flatten :: ((bs.map fun a => ol a (List.replicate n (dB false))) ++ Fr)) _ := h
      rw [e] at h
      exact h
    rintro Dl H ⟨bs, hl, _, h⟩
    rw [Int.toNat_natCast] at hl
    have h : sat (wsA n bs (bitsOf (init (ps.take 0))) Dl Fr) H := by
      show sat (ol Dl (refs bs) :: (fm n bs (bitsOf fun _ => 0) ++ Fr)) H
      rw [fm_new]
      exact h
    refine g_seq (x_forV h (Vw.app w _).up (e_var rfl) (fun i σ H => ∃ y3 y4 y5 : Option V, σ = [some (.int (n : Int)), some (.ref a0), some (.ref Dl), y3, y4, y5, none, none] ∧ sat (wsA n bs (bitsOf (init (ps.take i))) Dl Fr) H) ⟨none, none, none, rfl, h⟩ (fun _ _ _ _ ⟨_, _, _, _, h⟩ => ⟨_, h, (Vw.app w _).up⟩) ?_ ?_)
    · rintro i d x σ H hd ⟨y3, y4, y5, rfl, h⟩ hx
      obtain ⟨p, hp, rfl⟩ := getP hd
      obtain ⟨u, v, rfl, hu, hv⟩ := in_nat (hin p (List.mem_of_getElem? hp))
      refine g_pairI h (hx h (Vw.app w _).up) ?_
      obtain ⟨r, hr, er⟩ := ws_row hl hu
      refine g_seq (g_set1 (e_op (e_var rfl) (e_var rfl) (r_ixV h (.o 0) er)) ?_)
      refine g_asg (g_e e_c (g_sub (e_var rfl) (e_var rfl) (ws_set h hl hu hv hr fun H1 h => ?_)))
      refine ⟨_, _, _, rfl, ?_⟩
      rw [takeS hp, init_snoc]
      show sat (wsA n bs (bitsOf (put _ (u : Int).toNat (v : Int).toNat)) Dl Fr) H1
      rw [Int.toNat_natCast, Int.toNat_natCast, ← bits_put]
      exact h
    rintro σ H ⟨y3, y4, y5, rfl, h⟩
    rw [List.length_map, List.take_length] at h
    refine g_seq (x_forR1 (e_cons (e_var rfl) e_nil) ⟨by omega, by omega⟩ (fun m σ H => ∃ y3 y4 y5 y6 : Option V, σ = [some (.int (n : Int)), some (.ref a0), some (.ref Dl), y3, y4, y5, y6, none] ∧ sat (wsA n bs (bitsOf (clTo ps m)) Dl Fr) H) ⟨y3, y4, y5, none, rfl, h⟩ ?_ ?_)
    · rintro m σ H hm ⟨y3, y4, y5, y6, rfl, h⟩
      refine g_name ?_
      have hm : m < n := by omega
      refine x_forR1 (e_cons (e_var rfl) e_nil) ⟨by omega, by omega⟩ (fun k σ H => ∃ y3 y4 y5 : Option V, σ = [some (.int (n : Int)), some (.ref a0), some (.ref Dl), y3, y4, y5, some (.int (m : Int)), none] ∧ sat (wsA n bs (wA (clTo ps m) m k) Dl Fr) H) ⟨y3, y4, y5, rfl, by rw [wA_zero]; exact h⟩ ?_ ?_
      · rintro k σ H hk ⟨y3, y4, y5, rfl, h⟩
        refine g_name ?_
        have hk : k < n := by omega
        obtain ⟨r, hr, er⟩ := ws_row hl hk
        obtain ⟨s, hs, es⟩ := ws_row hl hm
        refine g_if1 (t_val (e_op (e_op (e_var rfl) (e_var rfl) (r_ixV h (.o 0) er)) (e_var rfl) (r_ixV h (ws_vw hl hk hr) (rowB_atN hm)))) (fun c => ?_) (fun c => ?_)
        · rw [wA_test] at c
          refine g_seq (g_set1 (e_op (e_var rfl) (e_var rfl) (r_ixV h (.o 0) er)) ?_)
          refine x_forR1 (e_cons (e_var rfl) e_nil) ⟨by omega, by omega⟩ (fun l σ H => ∃ y4 : Option V, σ = [some (.int (n : Int)), some (.ref a0), some (.ref Dl), some (.int (k : Int)), y4, some (.ref r), some (.int (m : Int)), none] ∧ sat (wsA n bs (wB (clTo ps m) m k l) Dl Fr) H) ⟨y4, rfl, by rw [wB_zero]; exact h⟩ ?_ ?_
          · rintro l σ H hl2 ⟨y4, rfl, h⟩
            refine g_name ?_
            have hl2 : l < n := by omega
            refine g_if1 (t_val (e_op (e_op (e_var rfl) (e_var rfl) (r_ixV h (.o 0) es)) (e_var rfl) (r_ixV h (ws_vw hl hm hs) (rowB_atN hl2)))) (fun c2 => ?_) (fun c2 => ?_)
            · rw [wB_mid] at c2
              refine g_asg (g_e e_c (g_sub (e_var rfl) (e_var rfl) (ws_set h hl hk hl2 hr fun H1 h => ?_)))
              rw [wB_yes c2] at h
              exact ⟨_, rfl, h⟩
            · rw [wB_mid] at c2
              rw [wB_no (Bool.eq_false_iff.mpr c2)] at h
              exact g_next ⟨_, rfl, h⟩
          · rintro σ H ⟨y4, rfl, h⟩
            rw [Int.toNat_natCast] at h
            exact ⟨_, _, _, rfl, ws_ext h hl fun x y _ hy => wB_all c hy⟩
        · rw [wA_test] at c
          exact g_next ⟨_, _, _, rfl, ws_ext h hl fun x y _ _ => wA_no (Bool.eq_false_iff.mpr c)⟩
      · rintro σ H ⟨y3, y4, y5, rfl, h⟩
        rw [Int.toNat_natCast] at h
        exact ⟨_, _, _, _, rfl, ws_ext h hl fun x y hx _ => by rw [wA_all hx, ← clTo_succ]⟩
    rintro σ H ⟨y3, y4, y5, y6, rfl, h⟩
    rw [Int.toNat_natCast] at h
    exact g_ret1 (e_var rfl) (q _ _ (ws_frz hl h))

end Law

namespace Law
open PySem PySem.Spec PyProof.Rows L2 Sat
open Evl (Ex)
open Wb
theorem ok_law_ring {P : Program} {w : World} {K : PySem.W.Frag} {mg : Str → Option Value} {base : Heap} {ad : Ad} (T : Tx K mg ad) {f : Addr} {fd : FuncData} (F : Fun K "_law_ring" "_law_ring" s_law_ring f fd) : FnOk P w K mg base CX0 1 f fd ["rows"] (sp_law_ring) := by
  have nd := sc_law_ring.nd
  refine F.ok sc_law_ring (fun vs H Q E h => ?_) (fun cdv A outer s H vs Q E hr h => ?_)
  · exact sp_law_ring_len h
  · refine ⟨_, (pss_cons (ps_for PassesOwn.never rfl (pi_range1 rfl T.m_range (pa_cons (pe_callB call_len' (by rfl) T.m_len (by decide +kernel) (pa_cons (pv 0) pa_nil)) pa_nil)) (pg_name (i := 1) nd rfl (.inl rfl))
    (pss_one (ps_if (pt_val (pe_ix ix_list (pe_ix ix_list (pv 0) (pv 1) (fun _ _ => rfl)) (pv 1) (fun _ _ => rfl)))
    (pss_one (ps_ret (pv 1)))
    pss_nil)))
    (pss_one (ps_ret pe_non))), ?_⟩
    obtain ⟨n, p, M, Fr, rfl, hn, w, h, q⟩ := h
    refine g_seq (x_forR1 (e_cons (e_cb (e_cons (e_var rfl) e_nil) (c_lenV h w)) e_nil) ⟨by omega, by rw [rowsL_len]; omega⟩ (fun i σ H => ∃ y : Option V, σ = [some (.ref p), y] ∧ ((List.range i).find? fun d => (M d).testBit d) = none ∧ sat Fr H) ⟨none, rfl, rfl, h⟩ ?_ ?_)
    · rintro i σ H hi ⟨y, rfl, hr, h⟩
      rw [rowsL_len] at hi
      refine g_name ?_
      obtain ⟨x, r1, r2⟩ := rows_bit h w (show i < n by omega) (show i < n by omega)
      have fr := find_range hr
      refine g_if1 (t_val (e_op (e_op (e_var rfl) (e_var rfl) r1) (e_var rfl) r2)) (fun c => ?_) (fun c => ?_)
      · have c : (M i).testBit i = true := c
        rw [if_pos c] at fr
        refine g_ret1 (e_var rfl) ?_
        have z : ringOf n M = some i := find_le (by omega) fr
        have q := q _ h
        rw [z] at q
        exact q
      · have c : ¬ (M i).testBit i = true := c
        rw [if_neg c] at fr
        exact g_next ⟨_, rfl, fr, h⟩
    rintro σ H ⟨y, rfl, hr, h⟩
    rw [rowsL_len, Int.toNat_natCast] at hr
    refine g_ret1 e_c ?_
    have q := q _ h
    unfold ringOf at q
    rw [hr] at q
    exact q

end Law

namespace Law
open PySem PySem.Spec PyProof.Rows L2 Sat
open Evl (Ex)
open Wb
theorem ok_law_beside {P : Program} {w : World} {K : PySem.W.Frag} {mg : Str → Option Value} {base : Heap} {ad : Ad} (T : Tx K mg ad) {f : Addr} {fd : FuncData} (F : Fun K "_law_beside" "_law_beside" s_law_beside f fd) : FnOk P w K mg base CX0 1 f fd ["rows", "a", "b"] (sp_law_beside) := by
  have nd := sc_law_beside.nd
  refine F.ok sc_law_beside (fun vs H Q E h => ?_) (fun cdv A outer s H vs Q E hr h => ?_)
  · exact sp_law_beside_len h
  · refine ⟨_, (pss_one (ps_ret (pe_and (pe_cmpR op_ne (pv 1) (pv 2) (nomark _)) (pe_and (pe_not (pe_ix ix_list (pe_ix ix_list (pv 0) (pv 1) (fun _ _ => rfl)) (pv 2) (fun _ _ => rfl))) (pe_one (pe_not (pe_ix ix_list (pe_ix ix_list (pv 0) (pv 2) (fun _ _ => rfl)) (pv 1) (fun _ _ => rfl)))))))), ?_⟩
    obtain ⟨n, p, M, a, b, Fr, rfl, ha, hb, w, h, q⟩ := h
    obtain ⟨x, r1, r2⟩ := rows_bit h w ha hb
    obtain ⟨y, r3, r4⟩ := rows_bit h w hb ha
    refine g_ret1 (e_andV (e_op (e_var rfl) (e_var rfl) r_neI) fun _ => e_andV (e_notV (e_op (e_op (e_var rfl) (e_var rfl) r1) (e_var rfl) r2)) fun _ => e_notV (e_op (e_op (e_var rfl) (e_var rfl) r3) (e_var rfl) r4)) ?_
    have z : decide ((a : Int) = (b : Int)) = decide (a = b) := decide_eq_decide.mpr ⟨fun z => by omega, fun z => by omega⟩
    rw [z]
    exact q _ h

end Law

namespace Law
open PySem PySem.Spec PyProof.Rows L2 Sat
open Evl (Ex)
open Wb
theorem ok_turned_masks {P : Program} {w : World} {K : PySem.W.Frag} {mg : Str → Option Value} {base : Heap} {ad : Ad} (T : Tx K mg ad) (G_members : Cal P w K mg base CX0 1 "members" ["mask"] (sp_members)) {f : Addr} {fd : FuncData} (F : Fun K "turned_masks" "turned_masks" s_turned_masks f fd) : FnOk P w K mg base CX0 2 f fd ["masks"] (sp_turned_masks) := by
  have nd := sc_turned_masks.nd
  refine F.ok sc_turned_masks (fun vs H Q E h => ?_) (fun cdv A outer s H vs Q E hr h => ?_)
  · exact sp_turned_masks_len h
  · refine ⟨_, (pss_cons (ps_setLc (i := 1) (own := [("mask", 3)]) (by rfl) nd rfl rfl (sw_true rfl rfl rfl (by decide +kernel)) (pi_list (pv 0)) (blkOk_by (own := [("mask", 3)]) (N := ["masks", "turned", "deed", "mask", "earlier"]) (sc := defScope s_turned_masks) (by decide +kernel)) (fun _ _ _ _ _ => (pg_name (i := 3) nd rfl (.inl rfl))) (fun _ _ _ _ _ => pts_nil) (fun _ _ _ _ _ => pe_int))
    (pss_cons (ps_for PassesOwn.never rfl (pi_enum (by rfl) T.m_enumerate (pa_cons (pv 0) pa_nil)) (pg_tup rfl (pgs_cons (pg_name (i := 2) nd rfl (.inl rfl)) (pgs_cons (pg_name (i := 3) nd rfl (.inl rfl)) pgs_nil)))
    (pss_one (ps_for PassesOwn.never rfl (pi_list (pe_f G_members hr (pa_cons (pv 3) pa_nil))) (pg_name (i := 4) nd rfl (.inl rfl))
    (pss_one (ps_asg (pe_op op_or (pe_ix ix_list (pv 1) (pv 4) (fun _ _ => rfl)) (pe_op op_shl pe_int (pv 2))) (pg_sub (pv 1) (pv 4) set_list))))))
    (pss_one (ps_ret (pv 1))))), ?_⟩
    obtain ⟨n, a, M, Fr, rfl, hn, lo, w, h, q⟩ := h
    have ln : ∀ M, ((row n M).map dI).length = n := fun M => by rw [List.length_map, row_len]
    refine g_seq (g_set ?_)
    refine x_lcV h w (e_var rfl) (fun Dl i H => i ≤ n ∧ sat (ol Dl (List.replicate i (dI 0)) :: Fr) H) (fun Dl H1 h => ⟨Nat.zero_le _, h⟩) (fun Dl i H _ ⟨_, h⟩ => ⟨_, h, w.up⟩) ?_ ?_
    · rintro Dl i d x H hd ⟨_, h⟩ hx
      obtain ⟨hi, rfl⟩ := getRow hd
      refine l_name rfl ?_
      refine l_yes ?_
      refine g_e e_c ?_
      refine x_lcE (d := dI 0) h 0 rfl Ent.v (by rw [List.length_replicate, sizeLine_eq]; omega) fun acc h => ?_
      refine ⟨by omega, ?_⟩
      rw [List.replicate_succ']
      exact h
    rintro Dl H ⟨_, h⟩
    rw [ln] at h
    have h : sat (ol Dl ((row n (turnTo M 0)).map dI) :: Fr) H := by
      rw [show turnTo M 0 = fun _ => 0 from rfl, row_zero, List.map_replicate]; exact h
    refine g_seq (x_forE h w.up (e_cons (e_var rfl) e_nil) (fun i σ H => ∃ y2 y3 y4 : Option V, σ = [some (.ref a), some (.ref Dl), y2, y3, y4] ∧ sat (ol Dl ((row n (turnTo M i)).map dI) :: Fr) H) ⟨none, none, none, rfl, h⟩ (fun i σ H _ ⟨_, _, _, _, h⟩ => ⟨_, h, w.up⟩) ?_ ?_)
    · rintro i d T σ H H' hd ⟨y2, y3, y4, rfl, h⟩ hx
      obtain ⟨hi, rfl⟩ := getRow hd
      have h := hx h w.up
      refine g_pairI h (.at 0) ?_
      have h := h.drop 1
      have hM : M i < 2 ^ 64 := Nat.lt_of_lt_of_le (lo i) (Nat.pow_le_pow_right (by decide) (by omega))
      refine g_forL (g_call1 (e_cons (e_var rfl) e_nil) ⟨M i, _, rfl, hM, h, fun p H1 h => ?_⟩)
      refine y_forV h (.o 0) (fun k σ H => ∃ y4 : Option V, σ = [some (.ref a), some (.ref Dl), some (.int (i : Int)), some (.int (M i : Nat)), y4] ∧ sat (ol p ((Mk.bits (M i)).map dI) :: ol Dl ((row n (turnIn M i ((Mk.nums (M i)).take k))).map dI) :: Fr) H) ⟨y4, rfl, by rw [List.take_zero, turnIn_nil]; exact h⟩ (fun _ _ _ _ ⟨_, _, h⟩ => ⟨_, h, .o 0⟩) ?_ ?_
      · rintro k d x σ H hd ⟨y4, rfl, h⟩ hx
        obtain ⟨v, hv, rfl⟩ := getI hd
        obtain rfl := h.flat (hx h (.o 0))
        obtain ⟨e, he, rfl⟩ : ∃ e : Nat, (Mk.nums (M i))[k]? = some e ∧ v = (e : Int) := by
          unfold Mk.bits at hv
          rw [List.getElem?_map] at hv
          cases z : (Mk.nums (M i))[k]? with
          | none => rw [z] at hv; cases hv
          | some e => rw [z] at hv; exact ⟨e, rfl, (Option.some.inj hv).symm⟩
        have hen := nums_lt (lo i) e (List.mem_of_getElem? he)
        have hnt : e ∉ (Mk.nums (M i)).take k := fun z => by
          obtain ⟨j, hj⟩ := List.getElem?_of_mem z
          have hjk : j < k := by
            obtain ⟨q, _⟩ := List.getElem?_eq_some_iff.mp hj
            rw [List.length_take] at q
            omega
          rw [List.getElem?_take_of_lt hjk] at hj
          have := (List.getElem?_inj (by obtain ⟨q, _⟩ := List.getElem?_eq_some_iff.mp hj; exact q) (nums_nodup (M i))).mp (hj.trans he.symm)
          omega
        refine g_name ?_
        have g1 : atI ((row n (turnIn M i ((Mk.nums (M i)).take k))).map dI) (e : Int) = some (.v (.int (turnTo M i e : Nat))) := by rw [rowN hen, turnIn_at hnt]
        refine g_asg (g_e (e_op (e_op (e_var rfl) (e_var rfl) (r_ixV h (.o 1) g1)) (e_op e_c (e_var rfl) (r_shl ⟨by omega, by omega, by decide⟩)) r_I0) (g_sub (e_var rfl) (e_var rfl) (x_setL h 1 rfl Ent.v (ixP (by omega) (by rw [ln]; omega)) fun H1 h => ?_)))
        refine ⟨_, rfl, ?_⟩
        have h : sat (ol p ((Mk.bits (M i)).map dI) :: ol Dl (((row n (turnIn M i ((Mk.nums (M i)).take k))).map dI).set (e : Int).toNat (dI (Builtin.bitOr ((turnTo M i e : Nat) : Int) (1 * 2 ^ (i : Int).toNat)))) :: Fr) H1 := h
        rw [Int.toNat_natCast, Int.toNat_natCast, shl_int, orNN, row_setD, turnIn_snoc hnt, ← takeS he] at h
        exact h
      · rintro σ H ⟨y4, rfl, h⟩
        rw [List.length_map, Mk.bits_len, List.take_length, turnIn_all (by omega) (lo i)] at h
        exact ⟨_, _, _, rfl, h.drop 1⟩
    rintro σ H ⟨y2, y3, y4, rfl, h⟩
    rw [ln] at h
    exact g_ret1 (e_var rfl) (q _ _ h)

end Law

namespace Law
open PySem PySem.Spec PyProof.Rows L2 Sat
open Evl (Ex)
open Wb
theorem ok_law_pick {P : Program} {w : World} {K : PySem.W.Frag} {mg : Str → Option Value} {base : Heap} {ad : Ad} (T : Tx K mg ad) (G_law_take : Cal P w K mg base CX0 1 "_law_take" ["store", "many"] (sp_law_take)) {f : Addr} {fd : FuncData} (F : Fun K "_law_pick" "_law_pick" s_law_pick f fd) : FnOk P w K mg base CX0 2 f fd ["store", "items"] (sp_law_pick) := by
  have nd := sc_law_pick.nd
  refine F.ok sc_law_pick (fun vs H Q E h => ?_) (fun cdv A outer s H vs Q E hr h => ?_)
  · exact sp_law_pick_len h
  · refine ⟨_, (pss_one (ps_ret (pe_ix ix_list (pv 1) (pe_f G_law_take hr (pa_cons (pv 0) (pa_cons (pe_callB call_len' (by rfl) T.m_len (by decide +kernel) (pa_cons (pv 1) pa_nil)) pa_nil))) (fun _ _ => rfl)))), ?_⟩
    obtain ⟨s, c, a, Fr, ds, rfl, w, l0, l1, cl, h, q⟩ := h
    refine g_ret (g_op (g_e (e_var rfl) (g_call1 (e_cons (e_var rfl) (e_cons (e_cb (e_cons (e_var rfl) e_nil) (c_lenV h w.up)) e_nil)) ⟨s, c, (ds.length : Int), Fr, rfl, by omega, cl, h, fun r H r0 r1 h => ?_⟩)))
    obtain ⟨d, hd⟩ : ∃ d, ds[r.toNat]? = some d := ⟨_, List.getElem?_eq_getElem (by omega)⟩
    refine x_ixV (d := d) h w.up (atI_at r.toNat (by omega) hd) fun x h => ?_
    exact q x d _ (List.mem_of_getElem? hd) (h.pick [1, 0] 2)

end Law

namespace Law
open PySem PySem.Spec PyProof.Rows L2 Sat
open Evl (Ex)
open Wb
theorem ok_law_size {P : Program} {w : World} {K : PySem.W.Frag} {mg : Str → Option Value} {base : Heap} {ad : Ad} (T : Tx K mg ad) (G_law_take : Cal P w K mg base CX0 1 "_law_take" ["store", "many"] (sp_law_take)) {f : Addr} {fd : FuncData} (F : Fun K "_law_size" "_law_size" s_law_size f fd) : FnOk P w K mg base CX0 2 f fd ["store", "least", "most"] (sp_law_size) := by
  have nd := sc_law_size.nd
  refine F.ok sc_law_size (fun vs H Q E h => ?_) (fun cdv A outer s H vs Q E hr h => ?_)
  · exact sp_law_size_len h
  · refine ⟨_, (pss_cons (ps_set (i := 3) nd rfl (.inl rfl) (pe_f G_law_take hr (pa_cons (pv 0) (pa_cons pe_int pa_nil))))
    (pss_cons (ps_if (pt_cmpR op_eq (pv 3) pe_int (nomark _))
    (pss_one (ps_ret (pv 1)))
    pss_nil)
    (pss_cons (ps_if (pt_cmpR op_eq (pv 3) pe_int (nomark _))
    (pss_one (ps_ret (pe_callB (call_min2' rfl) (by rfl) T.m_min (by decide +kernel) (pa_cons (pv 2) (pa_cons (pe_op op_add (pv 1) pe_int) pa_nil)))))
    pss_nil)
    (pss_cons (ps_if (pt_cmpR op_eq (pv 3) pe_int (nomark _))
    (pss_one (ps_ret (pv 2)))
    pss_nil)
    (pss_cons (ps_if (pt_cmpR op_eq (pv 3) pe_int (nomark _))
    (pss_one (ps_ret (pe_op op_add (pv 1) (pe_f G_law_take hr (pa_cons (pv 0) (pa_cons (pe_op op_add (pe_op op_sub (pv 2) (pv 1)) pe_int) pa_nil))))))
    pss_nil)
    (pss_one (ps_ret (pe_op op_add (pv 1) (pe_f G_law_take hr (pa_cons (pv 0) (pa_cons (pe_op op_add (pe_callB (call_min2' rfl) (by rfl) T.m_min (by decide +kernel) (pa_cons (pe_op op_sub (pv 2) (pv 1)) (pa_cons pe_int pa_nil))) pe_int) pa_nil))))))))))), ?_⟩
    obtain ⟨s, c, lo, hi, Fr, rfl, l0, l1, cl, h, q⟩ := h
    refine g_seq (g_set ?_)
    refine g_call1 (e_cons (e_var rfl) (e_cons e_c e_nil)) ?_
    refine ⟨_, _, _, _, rfl, by omega, cl, h, fun r1 H4 p2 q3 h5 => ?_⟩
    refine g_seq ?_
    refine g_if1 (t_eqI (e_var rfl) e_c) (fun c6 => ?_) (fun c6 => ?_)
    · refine g_ret1 (e_var rfl) ?_
      exact q _ _ (by first | omega | (split <;> omega)) (by first | omega | (split <;> omega)) h5
    · refine g_next ?_
      refine g_seq ?_
      refine g_if1 (t_eqI (e_var rfl) e_c) (fun c7 => ?_) (fun c7 => ?_)
      · refine g_ret1 (e_cb (e_cons (e_var rfl) (e_cons (e_op (e_var rfl) e_c r_I0) e_nil)) c_min2) ?_
        exact q _ _ (by first | omega | (split <;> omega)) (by first | omega | (split <;> omega)) h5
      · refine g_next ?_
        refine g_seq ?_
        refine g_if1 (t_eqI (e_var rfl) e_c) (fun c8 => ?_) (fun c8 => ?_)
        · refine g_ret1 (e_var rfl) ?_
          exact q _ _ (by first | omega | (split <;> omega)) (by first | omega | (split <;> omega)) h5
        · refine g_next ?_
          refine g_seq ?_
          refine g_if1 (t_eqI (e_var rfl) e_c) (fun c9 => ?_) (fun c9 => ?_)
          · refine g_ret ?_
            refine g_op ?_
            refine g_e (e_var rfl) ?_
            refine g_call1 (e_cons (e_var rfl) (e_cons (e_op (e_op (e_var rfl) (e_var rfl) r_I0) e_c r_I0) e_nil)) ?_
            refine ⟨_, _, _, _, rfl, by omega, cl, h5, fun r10 H13 p11 q12 h14 => ?_⟩
            refine g_r r_I0 ?_
            exact q _ _ (by first | omega | (split <;> omega)) (by first | omega | (split <;> omega)) h14
          · refine g_next ?_
            refine g_ret ?_
            refine g_op ?_
            refine g_e (e_var rfl) ?_
            refine g_call1 (e_cons (e_var rfl) (e_cons (e_op (e_cb (e_cons (e_op (e_var rfl) (e_var rfl) r_I0) (e_cons e_c e_nil)) c_min2) e_c r_I0) e_nil)) ?_
            refine ⟨_, _, _, _, rfl, by split <;> omega, cl, h5, fun r15 H18 p16 q17 h19 => ?_⟩
            refine g_r r_I0 ?_
            exact q _ _ (by first | omega | (split <;> omega)) (by first | omega | (split <;> omega)) h19

end Law

namespace Law
open PySem PySem.Spec PyProof.Rows L2 Sat
open Evl (Ex)
open Wb
theorem ok_law_beyond {P : Program} {w : World} {K : PySem.W.Frag} {mg : Str → Option Value} {base : Heap} {ad : Ad} (T : Tx K mg ad) (G_law_take : Cal P w K mg base CX0 1 "_law_take" ["store", "many"] (sp_law_take)) {f : Addr} {fd : FuncData} (F : Fun K "_law_beyond" "_law_beyond" s_law_beyond f fd) : FnOk P w K mg base CX0 2 f fd ["store", "size"] (sp_law_beyond) := by
  have nd := sc_law_beyond.nd
  refine F.ok sc_law_beyond (fun vs H Q E h => ?_) (fun cdv A outer s H vs Q E hr h => ?_)
  · exact sp_law_beyond_len h
  · refine ⟨_, (pss_cons (ps_set (i := 2) nd rfl (.inl rfl) (pe_f G_law_take hr (pa_cons (pv 0) (pa_cons pe_int pa_nil))))
    (pss_cons (ps_if (pt_cmpR op_eq (pv 2) pe_int (nomark _))
    (pss_one (ps_ret (pe_un un_neg pe_int)))
    pss_nil)
    (pss_cons (ps_if (pt_cmpR op_eq (pv 2) pe_int (nomark _))
    (pss_one (ps_ret (pv 1)))
    pss_nil)
    (pss_cons (ps_if (pt_cmpR op_eq (pv 2) pe_int (nomark _))
    (pss_one (ps_ret (pe_op op_sub (pe_un un_neg (pv 1)) pe_int)))
    pss_nil)
    (pss_cons (ps_if (pt_cmpR op_eq (pv 2) pe_int (nomark _))
    (pss_one (ps_ret (pe_op op_add (pe_op op_add (pv 1) pe_int) (pe_f G_law_take hr (pa_cons (pv 0) (pa_cons pe_int pa_nil))))))
    pss_nil)
    (pss_cons (ps_set (i := 3) nd rfl (.inl rfl) (pe_op op_add (pe_op op_pow pe_int pe_int) (pe_op op_mul (pe_f G_law_take hr (pa_cons (pv 0) (pa_cons (pe_op op_pow pe_int pe_int) pa_nil))) (pe_op op_pow pe_int pe_int))))
    (pss_cons (ps_if (pt_cmpR op_eq (pv 2) pe_int (nomark _))
    (pss_one (ps_ret (pe_op op_add (pv 1) (pv 3))))
    pss_nil)
    (pss_one (ps_ret (pe_un un_neg (pv 3))))))))))), ?_⟩
    obtain ⟨s, c, n, Fr, rfl, n0, n1, cl, h, q⟩ := h
    refine g_seq (g_set (g_call1 (e_cons (e_var rfl) (e_cons e_c e_nil)) ⟨s, c, 6, Fr, rfl, by decide, cl, h, fun r H r0 r1 h => ?_⟩))
    refine g_seq (g_if1 (t_eqI (e_var rfl) e_c) (fun c0 => ?_) (fun c0 => ?_))
    · exact g_ret1 (e_un e_c u_I) (q _ _ (.inl (by decide)) (by decide) h)
    refine g_next ?_
    refine g_seq (g_if1 (t_eqI (e_var rfl) e_c) (fun c1 => ?_) (fun c1 => ?_))
    · exact g_ret1 (e_var rfl) (q _ _ (.inr (by omega)) (by omega) h)
    refine g_next ?_
    refine g_seq (g_if1 (t_eqI (e_var rfl) e_c) (fun c2 => ?_) (fun c2 => ?_))
    · exact g_ret1 (e_op (e_un (e_var rfl) u_I) e_c r_I0) (q _ _ (.inl (by omega)) (by omega) h)
    refine g_next ?_
    refine g_seq (g_if1 (t_eqI (e_var rfl) e_c) (fun c3 => ?_) (fun c3 => ?_))
    · refine g_ret (g_op (g_e (e_op (e_var rfl) e_c r_I0) (g_call1 (e_cons (e_var rfl) (e_cons e_c e_nil)) ⟨s, c, 20, Fr, rfl, by decide, cl, h, fun u H u0 u1 h => g_r r_I0 ?_⟩)))
      exact q _ _ (.inr (by omega)) (by omega) h
    refine g_next ?_
    refine g_seq (g_set (g_op (g_e (e_op e_c e_c (r_pow ⟨by decide, by decide, by decide⟩)) (g_op (g_call1 (e_cons (e_var rfl) (e_cons (e_op e_c e_c (r_pow ⟨by decide, by decide, by decide⟩)) e_nil)) ⟨s, c, (10 : Int) ^ (15 : Int).toNat, Fr, rfl, by decide, cl, h, fun u H u0 u1 h => g_e (e_op e_c e_c (r_pow ⟨by decide, by decide, by decide⟩)) (g_r (r_mulL (lt15 u0 u1)) (g_r r_I0 ?_))⟩)))))
    have e1 : (10 : Int) ^ (15 : Int).toNat = 1000000000000000 := by decide
    have e2 : (10 : Int) ^ (16 : Int).toNat = 10000000000000000 := by decide
    have e3 : (10 : Int) ^ (40 : Int).toNat = 10000000000000000000000000000000000000000 := by decide
    rw [e1] at u1
    rw [e2, e3]
    refine g_seq (g_if1 (t_eqI (e_var rfl) e_c) (fun c4 => ?_) (fun c4 => ?_))
    · exact g_ret1 (e_op (e_var rfl) (e_var rfl) r_I0) (q _ _ (.inr (by omega)) (by omega) h)
    refine g_next ?_
    exact g_ret1 (e_un (e_var rfl) u_I) (q _ _ (.inl (by omega)) (by omega) h)

end Law

namespace Law
open PySem PySem.Spec PyProof.Rows L2 Sat
open Evl (Ex)
open Wb
theorem ok_law_mixed {P : Program} {w : World} {K : PySem.W.Frag} {mg : Str → Option Value} {base : Heap} {ad : Ad} (T : Tx K mg ad) (G_law_take : Cal P w K mg base CX0 1 "_law_take" ["store", "many"] (sp_law_take)) {f : Addr} {fd : FuncData} (F : Fun K "_law_mixed" "_law_mixed" s_law_mixed f fd) : FnOk P w K mg base CX0 2 f fd ["store", "items"] (sp_law_mixed) := by
  have nd := sc_law_mixed.nd
  refine F.ok sc_law_mixed (fun vs H Q E h => ?_) (fun cdv A outer s H vs Q E hr h => ?_)
  · exact sp_law_mixed_len h
  · refine ⟨_, (pss_cons (ps_set (i := 2) nd rfl (.inl rfl) (pe_f G_law_take hr (pa_cons (pv 0) (pa_cons pe_int pa_nil))))
    (pss_cons (ps_set (i := 3) nd rfl (.inl rfl) (pe_lst pa_nil))
    (pss_cons (ps_for PassesOwn.never rfl (pi_list (pv 1)) (pg_name (i := 4) nd rfl (.inl rfl))
    (pss_cons (ps_set (i := 5) nd rfl (.inl rfl) (pe_callB call_len' (by rfl) T.m_len (by decide +kernel) (pa_cons (pv 3) pa_nil)))
    (C8.pss_cut (ps_if (pt_cmpR op_eq (pv 2) pe_int (nomark _))
    (pss_one (ps_set (i := 5) nd rfl (.inl rfl) pe_int))
    pss_nil)
    (C8.pss_cut (ps_if (pt_cmpR op_gt (pv 2) pe_int (nomark _))
    (pss_one (ps_set (i := 5) nd rfl (.inl rfl) (pe_f G_law_take hr (pa_cons (pv 0) (pa_cons (pe_op op_add (pe_callB call_len' (by rfl) T.m_len (by decide +kernel) (pa_cons (pv 3) pa_nil)) pe_int) pa_nil)))))
    pss_nil)
    (pss_one (ps_expr (pe_bm PySem.F.plainAttrs_list PySem.F.slot_list_insert PySem.F.type_list_insert mt_insert' (pv 3) (pa_cons (pv 5) (pa_cons (pv 4) pa_nil)))))))))
    (pss_one (ps_ret (pv 3)))))), ?_⟩
    obtain ⟨s, c, a, Fr, ds, rfl, vi, l1, cl, h, q⟩ := h
    refine g_seq (g_set ?_)
    refine g_call1 (e_cons (e_var rfl) (e_cons e_c e_nil)) ?_
    refine ⟨_, _, _, _, rfl, by omega, cl, h, fun r1 H4 p2 q3 h5 => ?_⟩
    refine g_seq (g_set ?_)
    refine g_lst0 ?_
    refine g_anil ?_
    refine x_lst0 (ds := []) h5 EntA.nil (sz 0 (by decide)) fun p6 h8 => ?_
    have h9 := h8.pick [1, 0] 2
    have h9 : sat (sto s c :: ol p6 [] :: Fr) _ := h9
    refine g_seq ?_
    refine x_forV h9 (vi.up.up) (e_var rfl) (fun i σ H => ∃ (es : List Sat.D) (y4 : Option V) (y5 : Option V), σ = [some (.ref s), some (.ref a), some (.int r1), some (.ref p6), y4, y5] ∧ (es.Perm (ds.take i)) ∧ sat (sto s c :: ol p6 es :: Fr) H) ⟨[], _, _, rfl, .nil, h9⟩ (fun _ _ _ _ ⟨_, _, _, _, _, h⟩ => ⟨_, h, vi.up.up⟩) ?_ ?_
    · rintro i d x σ H hd ⟨es, y4, y5, rfl, hp, h⟩ hx
      have le := hp.length_eq
      rw [List.length_take] at le
      refine g_name ?_
      have h10 := h.rp (hx h (vi.up.up))
      have h11 := h10.pick [1, 0, 2] 3
      have h11 : sat (sto s c :: .rp x d :: ol p6 es :: Fr) _ := h11
      refine g_seq (g_set1 (e_cb (e_cons (e_var rfl) e_nil) (c_lenV h11 (.o 2))) ?_)
      refine g_cut (fun σ H => ∃ (k : Int), σ = [some (.ref s), some (.ref a), some (.int r1), some (.ref p6), some x, some (.int k)] ∧ (0 ≤ k) ∧ (k ≤ es.length) ∧ sat (sto s c :: .rp x d :: ol p6 es :: Fr) H) ?_ ?_
      · refine g_if1 (t_eqI (e_var rfl) e_c) (fun c12 => ?_) (fun c12 => ?_)
        · refine g_set1 e_c ?_
          exact ⟨_, rfl, by omega, by omega, h11⟩
        · refine g_next ?_
          exact ⟨_, rfl, by omega, by omega, h11⟩
      rintro σ H ⟨k, rfl, k0, k1, h⟩
      refine g_cut (fun σ H => ∃ (k : Int), σ = [some (.ref s), some (.ref a), some (.int r1), some (.ref p6), some x, some (.int k)] ∧ (0 ≤ k) ∧ (k ≤ es.length) ∧ sat (sto s c :: .rp x d :: ol p6 es :: Fr) H) ?_ ?_
      · refine g_if1 (t_I (e_var rfl) e_c) (fun c13 => ?_) (fun c13 => ?_)
        · refine g_set ?_
          refine g_call1 (e_cons (e_var rfl) (e_cons (e_op (e_cb (e_cons (e_var rfl) e_nil) (c_lenV h (.o 2))) e_c r_I0) e_nil)) ?_
          refine ⟨_, _, _, _, rfl, by omega, cl.up.up, h, fun r14 H17 p15 q16 h18 => ?_⟩
          exact ⟨_, rfl, by omega, by omega, h18⟩
        · refine g_next ?_
          exact ⟨_, rfl, by omega, by omega, h⟩
      rintro σ H ⟨k, rfl, k0, k1, h⟩
      refine g_drop ?_
      refine g_bm (e_var rfl) (tyO h 2) (e_cons (e_var rfl) (e_cons (e_var rfl) e_nil)) (x_ins (d := d) h 2 rfl (.at 1) (by rw [sizeLine_eq]; omega) (by omega) (by omega) fun H19 h20 => ?_)
      have h20 : sat (sto s c :: .rp x d :: ol p6 (es.take (k).toNat ++ [d] ++ es.drop (k).toNat) :: Fr) _ := h20
      refine ⟨_, _, _, rfl, ?_, (h20.pick [0, 2] 3)⟩
      rw [takeS hd]
      exact perm_ins hp
    rintro σ H ⟨es, y4, y5, rfl, hp, h⟩
    rw [List.take_length] at hp
    refine g_ret1 (e_var rfl) ?_
    exact q _ _ _ hp h

end Law

namespace Law
open PySem PySem.Spec PyProof.Rows L2 Sat
open Evl (Ex)
open Wb
theorem ok_law_same {P : Program} {w : World} {K : PySem.W.Frag} {mg : Str → Option Value} {base : Heap} {ad : Ad} (T : Tx K mg ad) (G_law_is_number : Cal P w K mg base CX0 1 "_law_is_number" ["value"] (sp_law_is_number)) {f : Addr} {fd : FuncData} (F : Fun K "_law_same" "_law_same" s_law_same f fd) : FnOk P w K mg base CX0 2 f fd ["actual", "expected"] (sp_law_same) := by
  have nd := sc_law_same.nd
  refine F.ok sc_law_same (fun vs H Q E h => ?_) (fun cdv A outer s H vs Q E hr h => ?_)
  · exact sp_law_same_len h
  · refine ⟨_, (pss_cons (ps_set (i := 2) nd rfl (.inl rfl) (pe_lst (pa_cons (pe_tup (pa_cons (pv 0) (pa_cons (pv 1) pa_nil))) pa_nil)))
    (pss_cons (ps_for PassesOwn.never rfl (pi_range1 rfl T.m_range (pa_cons pe_int pa_nil)) (pg_name (i := 3) nd rfl (.inl rfl))
    (pss_cons (ps_if (pt_cmpR op_eq (pe_callB call_len' (by rfl) T.m_len (by decide +kernel) (pa_cons (pv 2) pa_nil)) pe_int (nomark _))
    (pss_one (ps_ret pe_bl))
    pss_nil)
    (pss_cons (ps_set (i := 4) nd rfl (.inl rfl) (pe_lst pa_nil))
    (pss_cons (ps_for PassesOwn.never rfl (pi_list (pv 2)) (pg_tup rfl (pgs_cons (pg_name (i := 5) nd rfl (.inr rfl)) (pgs_cons (pg_name (i := 6) nd rfl (.inr rfl)) pgs_nil)))
    (pss_one (ps_if (PW.pt (pw_or (pt_val (pe_callB call_isi (by rfl) T.m_isinstance (by decide +kernel) (pa_cons (pv 6) (pa_cons (pe_bltn (v := .ty "list") (u := .type "list") (by rfl) T.m_list (by decide +kernel) rfl) pa_nil)))) (pw_or1 (pt_val (pe_callB call_isi (by rfl) T.m_isinstance (by decide +kernel) (pa_cons (pv 6) (pa_cons (pe_bltn (v := .ty "tuple") (u := .type "tuple") (by rfl) T.m_tuple (by decide +kernel) rfl) pa_nil)))))))
    (pss_cons (ps_if (PW.pt (pw_and (pt_val (pe_callB call_isi (by rfl) T.m_isinstance (by decide +kernel) (pa_cons (pv 6) (pa_cons (pe_bltn (v := .ty "list") (u := .type "list") (by rfl) T.m_list (by decide +kernel) rfl) pa_nil)))) (pw_and1 (pt_not (pt_val (pe_callB call_isi (by rfl) T.m_isinstance (by decide +kernel) (pa_cons (pv 5) (pa_cons (pe_bltn (v := .ty "list") (u := .type "list") (by rfl) T.m_list (by decide +kernel) rfl) pa_nil))))))))
    (pss_one (ps_ret pe_bl))
    pss_nil)
    (pss_cons (ps_if (PW.pt (pw_and (pt_val (pe_callB call_isi (by rfl) T.m_isinstance (by decide +kernel) (pa_cons (pv 6) (pa_cons (pe_bltn (v := .ty "tuple") (u := .type "tuple") (by rfl) T.m_tuple (by decide +kernel) rfl) pa_nil)))) (pw_and1 (pt_not (pt_val (pe_callB call_isi (by rfl) T.m_isinstance (by decide +kernel) (pa_cons (pv 5) (pa_cons (pe_bltn (v := .ty "tuple") (u := .type "tuple") (by rfl) T.m_tuple (by decide +kernel) rfl) pa_nil))))))))
    (pss_one (ps_ret pe_bl))
    pss_nil)
    (pss_cons (ps_if (pt_cmpR op_ne (pe_callB call_len' (by rfl) T.m_len (by decide +kernel) (pa_cons (pv 5) pa_nil)) (pe_callB call_len' (by rfl) T.m_len (by decide +kernel) (pa_cons (pv 6) pa_nil)) (nomark _))
    (pss_one (ps_ret pe_bl))
    pss_nil)
    (pss_one (ps_expr (pe_bm PySem.F.plainAttrs_list PySem.F.slot_list_extend PySem.F.type_list_extend mt_extend (pv 4) (pa_cons (pe_lc (own := [("at", 7)]) (by rfl) nd (pi_range1 rfl T.m_range (pa_cons (pe_callB call_len' (by rfl) T.m_len (by decide +kernel) (pa_cons (pv 6) pa_nil)) pa_nil)) (blkOk_by (own := [("at", 7)]) (N := ["actual", "expected", "left", "step", "longer", "one", "two", "at"]) (sc := defScope s_law_same) (by decide +kernel)) (fun _ _ _ _ _ => (pg_name (i := 7) nd rfl (.inl rfl))) (fun _ _ _ _ _ => pts_nil) (fun _ _ _ _ _ => (pe_tup (pa_cons (pe_ix (ix_seqK (K := K) rfl) (pv 5) (pv 7) (fun _ _ => rfl)) (pa_cons (pe_ix (ix_seqK (K := K) rfl) (pv 6) (pv 7) (fun _ _ => rfl)) pa_nil))))) pa_nil)))))))
    (pss_one (ps_if (pt_cmpR op_isN' (pv 6) pe_non (nomark _))
    (pss_one (ps_if (pt_cmpR op_notN' (pv 5) pe_non (nomark _))
    (pss_one (ps_ret pe_bl))
    pss_nil))
    (pss_one (ps_if (pt_val (pe_callB call_isi (by rfl) T.m_isinstance (by decide +kernel) (pa_cons (pv 6) (pa_cons (pe_bltn (v := .ty "bool") (u := .type "bool") (by rfl) T.m_bool (by decide +kernel) rfl) pa_nil))))
    (pss_one (ps_if (PW.pt (pw_or (pt_not (pt_val (pe_callB call_isi (by rfl) T.m_isinstance (by decide +kernel) (pa_cons (pv 5) (pa_cons (pe_bltn (v := .ty "bool") (u := .type "bool") (by rfl) T.m_bool (by decide +kernel) rfl) pa_nil))))) (pw_or1 (pt_cmpR op_ne (pv 5) (pv 6) (nomark _)))))
    (pss_one (ps_ret pe_bl))
    pss_nil))
    (pss_one (ps_if (pt_val (pe_callB call_isi (by rfl) T.m_isinstance (by decide +kernel) (pa_cons (pv 6) (pa_cons (pe_bltn (v := .ty "int") (u := .type "int") (by rfl) T.m_int (by decide +kernel) rfl) pa_nil))))
    (pss_one (ps_if (PW.pt (pw_or (pt_not (pt_val (pe_f G_law_is_number hr (pa_cons (pv 5) pa_nil)))) (pw_or1 (pt_cmpR op_ne (pv 5) (pv 6) (nomark _)))))
    (pss_one (ps_ret pe_bl))
    pss_nil))
    (pss_one (ps_if (PW.pt (pw_or (pt_not (pt_val (pe_callB call_isi (by rfl) T.m_isinstance (by decide +kernel) (pa_cons (pv 5) (pa_cons (pe_bltn (v := .ty "str") (u := .type "str") (by rfl) T.m_str (by decide +kernel) rfl) pa_nil))))) (pw_or1 (pt_cmpR op_ne (pv 5) (pv 6) (nomark _)))))
    (pss_one (ps_ret pe_bl))
    pss_nil)))))))))))
    (pss_one (ps_set (i := 2) nd rfl (.inl rfl) (pe_callTy call_list' (by rfl) T.m_list (by decide +kernel) (pa_cons (pv 4) pa_nil))))))))
    (pss_one (ps_ret pe_bl)))), ?_⟩
    obtain ⟨x, y, d, Fr, n, rfl, hd, hn, hl, hz, h, q⟩ := h
    refine g_seq (g_set (g_lst0 (g_acons ?_)))
    refine g_tup h (e_cons (e_var rfl) (e_cons (e_var rfl) e_nil)) (EntA.cons (.at 0) (EntA.cons (.at 1) EntA.nil)) (sz 2 (by decide)) fun t H1 h => ?_
    refine g_anil ?_
    refine x_lst0 (ds := [.tup [d, d]]) h (EntA.cons (.at 0) EntA.nil) (sz 1 (by decide)) fun lf h => ?_
    have h := h.pick [0, 2, 3] 4
    have h : sat (ol lf (prs (lev d 0)) :: .rp x d :: .rp y d :: Fr) _ := h
    refine g_seq ?_
    refine x_forR1 (e_cons e_c e_nil) ⟨by decide, by decide⟩ (fun i σ H => ∃ (lf : Addr) (y3 y4 y5 y6 y7 : Option V), σ = [some x, some y, some (.ref lf), y3, y4, y5, y6, y7] ∧ i ≤ n ∧ sat (ol lf (prs (lev d i)) :: .rp x d :: .rp y d :: Fr) H) ⟨lf, _, _, _, _, _, rfl, Nat.zero_le _, h⟩ ?_ ?_
    · rintro i σ H hi ⟨lf, y3, y4, y5, y6, y7, rfl, hin, h⟩
      refine g_name ?_
      refine g_seq (g_if1 (t_eqI (e_cb (e_cons (e_var rfl) e_nil) (c_lenV h (.o 0))) e_c) (fun c => ?_) (fun c => ?_))
      · exact g_ret1 e_c (q _ (h.pick [1, 2] 3))
      · have c : ¬ (((prs (lev d i)).length : Nat) : Int) = 0 := c
        rw [prs_len] at c
        have hin' : i < n := by
          rcases Nat.lt_or_ge i n with z | z
          · exact z
          · rw [lev_le hl z] at c
            exact absurd rfl c
        refine g_next ?_
        refine g_seq (g_set (g_lst0 (g_anil (x_lst0 (ds := []) h EntA.nil (sz 0 (by decide)) fun lg h => ?_))))
        refine g_seq ?_
        refine x_forV h (.o 1) (e_var rfl) (fun j σ H => ∃ (y5 y6 y7 : Option V), σ = [some x, some y, some (.ref lf), some (.int (i : Int)), some (.ref lg), y5, y6, y7] ∧ sat (ol lg (prs (((lev d i).take j).flatMap kids)) :: ol lf (prs (lev d i)) :: .rp x d :: .rp y d :: Fr) H) ⟨_, _, _, rfl, h⟩ (fun _ _ _ _ ⟨_, _, _, _, h⟩ => ⟨_, h, .o 1⟩) ?_ ?_
        · rintro j p v σ H hp ⟨y5, y6, y7, rfl, h⟩ hx
          obtain ⟨e, he, rfl⟩ := prs_get hp
          have oke := lev_ok hd i e (List.mem_of_getElem? he)
          have step := Sat.flat_snoc he
          have hle1 := flat_take_le (es := lev d i) j
          have hle2 := flat_take_le (es := lev d i) (j + 1)
          have hle3 : ((lev d i).flatMap kids).length ≤ 100000 := hz (i + 1)
          rw [step, List.length_append] at hle2
          refine g_pair h (hx h (.o 1)) fun a b h => ?_
          have flat : kids e = [] → ∀ {σ : L2.St} {H : Hp}, (∃ (y5 y6 y7 : Option V), σ = [some x, some y, some (.ref lf), some (.int (i : Int)), some (.ref lg), y5, y6, y7]) → sat (.rp a e :: .rp b e :: ol lg (prs (((lev d i).take j).flatMap kids)) :: ol lf (prs (lev d i)) :: .rp x d :: .rp y d :: Fr) H →
              ∃ (y5 y6 y7 : Option V), σ = [some x, some y, some (.ref lf), some (.int (i : Int)), some (.ref lg), y5, y6, y7] ∧ sat (ol lg (prs (((lev d i).take (j + 1)).flatMap kids)) :: ol lf (prs (lev d i)) :: .rp x d :: .rp y d :: Fr) H := fun z σ H ⟨y5, y6, y7, e1⟩ h => by
            refine ⟨y5, y6, y7, e1, ?_⟩
            rw [step, z, List.append_nil]
            exact h.pick [2, 3, 4, 5] 6
          cases oke with
          | non =>
            obtain rfl := h.flat (.at 0)
            obtain rfl := h.flat (.at 1)
            refine g_if1 (t_or (t_val (e_isiT h (.at 1) .non s_nl)) fun _ => t_val (e_isiT h (.at 1) .non s_nt)) (fun c => c.elim (fun z => nomatch z) fun z => nomatch z) fun _ => ?_
            refine g_if1 (t_isN (e_var rfl)) (fun _ => g_if1 (t_notN (e_var rfl)) (fun c => (c rfl).elim) fun _ => g_next ?_) fun c => (c rfl).elim
            exact flat rfl ⟨_, _, _, rfl⟩ h
          | bl k =>
            obtain rfl := h.flat (.at 0)
            obtain rfl := h.flat (.at 1)
            refine g_if1 (t_or (t_val (e_isiT h (.at 1) (.bl k) s_bl)) fun _ => t_val (e_isiT h (.at 1) (.bl k) s_bt)) (fun c => c.elim (fun z => nomatch z) fun z => nomatch z) fun _ => ?_
            refine g_if1 (t_isN (e_var rfl)) (fun c => nomatch c) fun _ => ?_
            refine g_if1 (t_val (e_isiT h (.at 1) (.bl k) s_bb)) (fun _ => ?_) fun c => (c rfl).elim
            refine g_if1 (t_or (t_not (t_val (e_isiT h (.at 0) (.bl k) s_bb))) fun _ => t_ne (e_var rfl) (e_var rfl) rfl) (fun c => c.elim (fun z => (z rfl).elim) fun z => (z rfl).elim) fun _ => g_next ?_
            exact flat rfl ⟨_, _, _, rfl⟩ h
          | int k =>
            obtain rfl := h.flat (.at 0)
            obtain rfl := h.flat (.at 1)
            refine g_if1 (t_or (t_val (e_isiT h (.at 1) (.int k) s_il)) fun _ => t_val (e_isiT h (.at 1) (.int k) s_it)) (fun c => c.elim (fun z => nomatch z) fun z => nomatch z) fun _ => ?_
            refine g_if1 (t_isN (e_var rfl)) (fun c => nomatch c) fun _ => ?_
            refine g_if1 (t_val (e_isiT h (.at 1) (.int k) s_ib)) (fun c => nomatch c) fun _ => ?_
            refine g_if1 (t_val (e_isiT h (.at 1) (.int k) s_ii)) (fun _ => ?_) fun c => (c rfl).elim
            refine g_if (g_or (g_not (g_B (g_call1 (e_cons (e_var rfl) e_nil) ⟨k, _, rfl, h, fun H2 h => ⟨true, rfl, ?_⟩⟩))))
            refine iteF (t_neI (e_var rfl) (e_var rfl) _ (fun c => (c rfl).elim) fun _ => iteF (g_next ?_))
            exact flat rfl ⟨_, _, _, rfl⟩ h
          | str k =>
            obtain rfl := h.flat (.at 0)
            obtain rfl := h.flat (.at 1)
            refine g_if1 (t_or (t_val (e_isiT h (.at 1) (.str k) s_sl)) fun _ => t_val (e_isiT h (.at 1) (.str k) s_st)) (fun c => c.elim (fun z => nomatch z) fun z => nomatch z) fun _ => ?_
            refine g_if1 (t_isN (e_var rfl)) (fun c => nomatch c) fun _ => ?_
            refine g_if1 (t_val (e_isiT h (.at 1) (.str k) s_sb)) (fun c => nomatch c) fun _ => ?_
            refine g_if1 (t_val (e_isiT h (.at 1) (.str k) s_si)) (fun c => nomatch c) fun _ => ?_
            refine g_if1 (t_or (t_not (t_val (e_isiT h (.at 0) (.str k) s_ss))) fun _ => t_ne (e_var rfl) (e_var rfl) rfl) (fun c => c.elim (fun z => (z rfl).elim) fun z => (z rfl).elim) fun _ => g_next ?_
            exact flat rfl ⟨_, _, _, rfl⟩ h
          | @lst ds k =>
            have okl : okD (.lst ds) := .lst k
            have hds : ds.length ≤ 100000 := by
              have : (kids (.lst ds)).length = ds.length := rfl
              omega
            obtain ⟨a, rfl⟩ := refL h (.at 0)
            obtain ⟨b, rfl⟩ := refL h (.at 1)
            refine g_if1 (t_or (t_val (e_isiT h (.at 1) okl s_ll)) fun _ => t_val (e_isiT h (.at 1) okl s_lt)) (fun _ => ?_) (fun c => (c (.inl rfl)).elim)
            refine g_seq (g_if1 (t_and (t_val (e_isiT h (.at 1) okl s_ll)) fun _ => t_not (t_val (e_isiT h (.at 0) okl s_ll))) (fun c => (c.2 rfl).elim) fun _ => g_next ?_)
            refine g_seq (g_if1 (t_and (t_val (e_isiT h (.at 1) okl s_lt)) fun _ => t_not (t_val (e_isiT h (.at 0) okl s_lt))) (fun c => nomatch c.1) fun _ => g_next ?_)
            refine g_seq (g_if1 (t_neI (e_cb (e_cons (e_var rfl) e_nil) (c_lenL h (.at 0))) (e_cb (e_cons (e_var rfl) e_nil) (c_lenL h (.at 1)))) (fun c => (c rfl).elim) fun _ => g_next ?_)
            refine g_drop (g_bmI (e_var rfl) (tyO h 2) (g_acons ?_))
            refine x_lcR1 h (e_cons (e_cb (e_cons (e_var rfl) e_nil) (c_lenL h (.at 1))) e_nil) ⟨by omega, by omega⟩ (fun Dl m H => sat (ol Dl (prs (ds.take m)) :: .rp (.ref a) (.lst ds) :: .rp (.ref b) (.lst ds) :: ol lg (prs (((lev d i).take j).flatMap kids)) :: ol lf (prs (lev d i)) :: .rp x d :: .rp y d :: Fr) H) (fun Dl H1 h => h) ?_ ?_
            · rintro Dl m H hm h
              refine l_name rfl (l_yes ?_)
              obtain ⟨f, hf⟩ : ∃ f, ds[m]? = some f := ⟨_, List.getElem?_eq_getElem (by omega)⟩
              have hlm : (prs (ds.take m)).length < sizeLine := by rw [prs_len, List.length_take, sizeLine_eq]; omega
              refine g_tup0 (g_acons (g_op (g_e (e_var rfl) (g_e (e_var rfl) (Or.inl (x_ixL h (.at 1) (atI_at m rfl hf) fun u h => ?_))))))
              refine g_acons (g_op (g_e (e_var rfl) (g_e (e_var rfl) (Or.inl (x_ixL h (.at 3) (atI_at m rfl hf) fun u' h => ?_)))))
              refine g_anil (x_tup0 (ds := [f, f]) h (EntA.cons (.at 1) (EntA.cons (.at 0) EntA.nil)) (sz 2 (by decide)) fun t h => ?_)
              refine x_lcE (d := .tup [f, f]) h 3 rfl (.at 0) hlm fun acc h => ?_
              refine (show sat (ol Dl (prs (ds.take (m + 1))) :: .rp (.ref a) (.lst ds) :: .rp (.ref b) (.lst ds) :: ol lg (prs (((lev d i).take j).flatMap kids)) :: ol lf (prs (lev d i)) :: .rp x d :: .rp y d :: Fr) _ from ?_)
              rw [takeS hf, prs_app]
              exact h.pick [3, 4, 5, 6, 7, 8, 9] 10
            · rintro Dl H h
              have e1 : ds.take (ds.length : Int).toNat = ds := by rw [Int.toNat_natCast]; exact List.take_length
              rw [e1] at h
              refine g_anil (x_extV h 3 rfl (.o 0) (by rw [prs_len, prs_len, sizeLine_eq]; omega) fun H1 h => ⟨_, _, _, rfl, ?_⟩)
              rw [step, prs_app]
              exact h.pick [3, 4, 5, 6] 7
          | @tup ds k =>
            have okl : okD (.tup ds) := .tup k
            have hds : ds.length ≤ 100000 := by
              have : (kids (.tup ds)).length = ds.length := rfl
              omega
            obtain ⟨a, rfl⟩ := refT h (.at 0)
            obtain ⟨b, rfl⟩ := refT h (.at 1)
            refine g_if1 (t_or (t_val (e_isiT h (.at 1) okl s_tl)) fun _ => t_val (e_isiT h (.at 1) okl s_tt)) (fun _ => ?_) (fun c => (c (.inr rfl)).elim)
            refine g_seq (g_if1 (t_and (t_val (e_isiT h (.at 1) okl s_tl)) fun _ => t_not (t_val (e_isiT h (.at 0) okl s_tl))) (fun c => nomatch c.1) fun _ => g_next ?_)
            refine g_seq (g_if1 (t_and (t_val (e_isiT h (.at 1) okl s_tt)) fun _ => t_not (t_val (e_isiT h (.at 0) okl s_tt))) (fun c => (c.2 rfl).elim) fun _ => g_next ?_)
            refine g_seq (g_if1 (t_neI (e_cb (e_cons (e_var rfl) e_nil) (c_lenT h (.at 0))) (e_cb (e_cons (e_var rfl) e_nil) (c_lenT h (.at 1)))) (fun c => (c rfl).elim) fun _ => g_next ?_)
            refine g_drop (g_bmI (e_var rfl) (tyO h 2) (g_acons ?_))
            refine x_lcR1 h (e_cons (e_cb (e_cons (e_var rfl) e_nil) (c_lenT h (.at 1))) e_nil) ⟨by omega, by omega⟩ (fun Dl m H => sat (ol Dl (prs (ds.take m)) :: .rp (.ref a) (.tup ds) :: .rp (.ref b) (.tup ds) :: ol lg (prs (((lev d i).take j).flatMap kids)) :: ol lf (prs (lev d i)) :: .rp x d :: .rp y d :: Fr) H) (fun Dl H1 h => h) ?_ ?_
            · rintro Dl m H hm h
              refine l_name rfl (l_yes ?_)
              obtain ⟨f, hf⟩ : ∃ f, ds[m]? = some f := ⟨_, List.getElem?_eq_getElem (by omega)⟩
              have hlm : (prs (ds.take m)).length < sizeLine := by rw [prs_len, List.length_take, sizeLine_eq]; omega
              refine g_tup0 (g_acons (g_op (g_e (e_var rfl) (g_e (e_var rfl) (Or.inr (Or.inl (x_ixT h (.at 1) (atI_at m rfl hf) fun u h => ?_)))))))
              refine g_acons (g_op (g_e (e_var rfl) (g_e (e_var rfl) (Or.inr (Or.inl (x_ixT h (.at 3) (atI_at m rfl hf) fun u' h => ?_))))))
              refine g_anil (x_tup0 (ds := [f, f]) h (EntA.cons (.at 1) (EntA.cons (.at 0) EntA.nil)) (sz 2 (by decide)) fun t h => ?_)
              refine x_lcE (d := .tup [f, f]) h 3 rfl (.at 0) hlm fun acc h => ?_
              refine (show sat (ol Dl (prs (ds.take (m + 1))) :: .rp (.ref a) (.tup ds) :: .rp (.ref b) (.tup ds) :: ol lg (prs (((lev d i).take j).flatMap kids)) :: ol lf (prs (lev d i)) :: .rp x d :: .rp y d :: Fr) _ from ?_)
              rw [takeS hf, prs_app]
              exact h.pick [3, 4, 5, 6, 7, 8, 9] 10
            · rintro Dl H h
              have e1 : ds.take (ds.length : Int).toNat = ds := by rw [Int.toNat_natCast]; exact List.take_length
              rw [e1] at h
              refine g_anil (x_extV h 3 rfl (.o 0) (by rw [prs_len, prs_len, sizeLine_eq]; omega) fun H1 h => ⟨_, _, _, rfl, ?_⟩)
              rw [step, prs_app]
              exact h.pick [3, 4, 5, 6] 7
        rintro σ H ⟨y5, y6, y7, rfl, h⟩
        have e2 : (lev d i).take (prs (lev d i)).length = lev d i := by rw [prs_len]; exact List.take_length
        rw [e2] at h
        refine g_set (g_cb1 (e_cons (e_var rfl) e_nil) (x_listV h (.o 0) fun p H h => ?_))
        exact ⟨p, _, _, _, _, _, rfl, hin', h.pick [0, 3, 4] 5⟩
    · rintro σ H ⟨lf, y3, y4, y5, y6, y7, rfl, hin, h⟩
      have hin : 64 ≤ n := hin
      omega


end Law

namespace Law
open PySem PySem.Spec PyProof.Rows L2 Sat
open Evl (Ex)
open Wb
theorem ok_law_net {P : Program} {w : World} {K : PySem.W.Frag} {mg : Str → Option Value} {base : Heap} {ad : Ad} (T : Tx K mg ad) (G_law_take : Cal P w K mg base CX0 1 "_law_take" ["store", "many"] (sp_law_take)) {f : Addr} {fd : FuncData} (F : Fun K "_law_net" "_law_net" s_law_net f fd) : FnOk P w K mg base CX0 2 f fd ["store", "size"] (sp_law_net) := by
  have nd := sc_law_net.nd
  refine F.ok sc_law_net (fun vs H Q E h => ?_) (fun cdv A outer s H vs Q E hr h => ?_)
  · exact sp_law_net_len h
  · refine ⟨_, (pss_cons (ps_set (i := 2) nd rfl (.inl rfl) (pe_op op_add pe_int (pe_f G_law_take hr (pa_cons (pv 0) (pa_cons pe_int pa_nil)))))
    (pss_cons (ps_set (i := 3) nd rfl (.inl rfl) (pe_cmpR op_eq (pe_f G_law_take hr (pa_cons (pv 0) (pa_cons pe_int pa_nil))) pe_int (nomark _)))
    (pss_cons (ps_set (i := 4) nd rfl (.inl rfl) (pe_lst pa_nil))
    (pss_cons (ps_for PassesOwn.never rfl (pi_range1 rfl T.m_range (pa_cons (pv 1) pa_nil)) (pg_name (i := 5) nd rfl (.inl rfl))
    (pss_one (ps_for PassesOwn.never rfl (pi_range1 rfl T.m_range (pa_cons (pv 5) pa_nil)) (pg_name (i := 6) nd rfl (.inl rfl))
    (pss_one (ps_if (pt_cmpR op_ne (pe_cmpR op_eq (pe_f G_law_take hr (pa_cons (pv 0) (pa_cons (pv 2) pa_nil))) pe_int (nomark _)) (pv 3) (nomark _))
    (pss_one (ps_expr (pe_bm PySem.F.plainAttrs_list PySem.F.slot_list_append PySem.F.type_list_append mt_append (pv 4) (pa_cons (pe_tup (pa_cons (pv 6) (pa_cons (pv 5) pa_nil))) pa_nil))))
    pss_nil)))))
    (pss_one (ps_ret (pv 4))))))), ?_⟩
    obtain ⟨s, c, n, Fr, rfl, hn, cl, h, q⟩ := h
    refine g_seq (g_set (g_op (g_e e_c (g_call1 (e_cons (e_var rfl) (e_cons e_c e_nil)) ⟨s, c, 4, Fr, rfl, by decide, cl, h, fun r H r0 r1 h => g_r r_I0 ?_⟩))))
    refine g_seq (g_set (g_op (g_call1 (e_cons (e_var rfl) (e_cons e_c e_nil)) ⟨s, c, 3, Fr, rfl, by decide, cl, h, fun r2 H _ _ h => g_e e_c (g_r r_eqI ?_)⟩)))
    refine g_seq (g_set (g_lst0 (g_anil (x_lst0 (ds := dPs []) h EntA.nil (sz 0 (by decide)) fun p h => ?_))))
    have h := h.pick [1, 0] 2
    refine g_seq (x_forR1 (e_cons (e_var rfl) e_nil) ⟨by omega, by omega⟩ (fun b σ H => ∃ (ps : Ps) (y5 y6 : Option V), σ = [some (.ref s), some (.int (n : Int)), some (.int (2 + r)), some (.bl (decide (r2 = 0))), some (.ref p), y5, y6] ∧ In n ps ∧ ps.length ≤ 16 * b ∧ b ≤ n ∧ sat (sto s c :: ol p (dPs ps) :: Fr) H) ⟨[], none, none, rfl, fun _ z => (nomatch z), Nat.zero_le _, Nat.zero_le _, h⟩ ?_ ?_)
    · rintro b σ H hb ⟨ps, y5, y6, rfl, hin, hl, _, h⟩
      refine g_name ?_
      refine x_forR1 (e_cons (e_var rfl) e_nil) ⟨by omega, by omega⟩ (fun a σ H => ∃ (ps : Ps) (y6 : Option V), σ = [some (.ref s), some (.int (n : Int)), some (.int (2 + r)), some (.bl (decide (r2 = 0))), some (.ref p), some (.int (b : Int)), y6] ∧ In n ps ∧ ps.length ≤ 16 * b + a ∧ a ≤ b ∧ sat (sto s c :: ol p (dPs ps) :: Fr) H) ⟨ps, y6, rfl, hin, by omega, Nat.zero_le _, h⟩ ?_ ?_
      · rintro a σ H ha ⟨ps, y6, rfl, hin, hl, _, h⟩
        refine g_name ?_
        refine g_if (g_T (g_op (g_op (g_call1 (e_cons (e_var rfl) (e_cons (e_var rfl) e_nil)) ⟨s, c, 2 + r, _, rfl, by omega, cl.up, h, fun r3 H _ _ h => g_e e_c (g_r r_eqI (g_e (e_var rfl) (g_r (r_ne rfl) (g_ndec (fun c0 => ?_) (fun c0 => ?_)))))⟩))))
        · refine iteT ?_
          refine g_drop (g_appP h 1 rfl (e_var rfl) (e_var rfl) (e_var rfl) (sl300 (by omega)) fun H h => ?_)
          refine ⟨ps ++ [((a : Int), (b : Int))], _, rfl, hin.snoc (by omega) (by omega), by rw [List.length_append]; show ps.length + 1 ≤ _; omega, by omega, ?_⟩
          rw [← dPs_snoc]
          exact h
        · refine iteF ?_
          exact g_next ⟨ps, _, rfl, hin, by omega, by omega, h⟩
      · rintro σ H ⟨ps, y6, rfl, hin, hl, _, h⟩
        rw [Int.toNat_natCast] at hl
        exact ⟨ps, _, _, rfl, hin, by omega, by omega, h⟩
    rintro σ H ⟨ps, y5, y6, rfl, hin, hl, _, h⟩
    rw [Int.toNat_natCast] at hl
    exact g_ret1 (e_var rfl) (q _ ps _ hin (by omega) h)

end Law

namespace Law
open PySem PySem.Spec PyProof.Rows L2 Sat
open Evl (Ex)
open Wb
theorem ok_law_chains {P : Program} {w : World} {K : PySem.W.Frag} {mg : Str → Option Value} {base : Heap} {ad : Ad} (T : Tx K mg ad) (G_law_take : Cal P w K mg base CX0 1 "_law_take" ["store", "many"] (sp_law_take)) {f : Addr} {fd : FuncData} (F : Fun K "_law_chains" "_law_chains" s_law_chains f fd) : FnOk P w K mg base CX0 2 f fd ["store", "size"] (sp_law_chains) := by
  have nd := sc_law_chains.nd
  refine F.ok sc_law_chains (fun vs H Q E h => ?_) (fun cdv A outer s H vs Q E hr h => ?_)
  · exact sp_law_chains_len h
  · refine ⟨_, (pss_cons (ps_set (i := 2) nd rfl (.inl rfl) (pe_op op_add pe_int (pe_f G_law_take hr (pa_cons (pv 0) (pa_cons pe_int pa_nil)))))
    (pss_cons (ps_set (i := 3) nd rfl (.inl rfl) (pe_lst (pa_cons (pe_un un_neg pe_int) (pa_cons (pe_un un_neg pe_int) (pa_cons (pe_un un_neg pe_int) pa_nil)))))
    (pss_cons (ps_set (i := 4) nd rfl (.inl rfl) (pe_lst pa_nil))
    (pss_cons (ps_for PassesOwn.never rfl (pi_range1 rfl T.m_range (pa_cons (pv 1) pa_nil)) (pg_name (i := 5) nd rfl (.inl rfl))
    (pss_cons (ps_set (i := 6) nd rfl (.inl rfl) (pe_f G_law_take hr (pa_cons (pv 0) (pa_cons (pv 2) pa_nil))))
    (C8.pss_cut (ps_if (pt_cmpR op_ge (pe_ix ix_list (pv 3) (pv 6) (fun _ _ => rfl)) pe_int (nomark _))
    (pss_one (ps_expr (pe_bm PySem.F.plainAttrs_list PySem.F.slot_list_append PySem.F.type_list_append mt_append (pv 4) (pa_cons (pe_tup (pa_cons (pe_ix ix_list (pv 3) (pv 6) (fun _ _ => rfl)) (pa_cons (pv 5) pa_nil))) pa_nil))))
    pss_nil)
    (C8.pss_cut (ps_if (PW.pt (pw_and (pt_cmpR op_gt (pv 5) pe_int (nomark _)) (pw_and1 (pt_cmpR op_eq (pe_f G_law_take hr (pa_cons (pv 0) (pa_cons pe_int pa_nil))) pe_int (nomark _)))))
    (pss_one (ps_expr (pe_bm PySem.F.plainAttrs_list PySem.F.slot_list_append PySem.F.type_list_append mt_append (pv 4) (pa_cons (pe_tup (pa_cons (pe_f G_law_take hr (pa_cons (pv 0) (pa_cons (pv 5) pa_nil))) (pa_cons (pv 5) pa_nil))) pa_nil))))
    pss_nil)
    (pss_one (ps_asg (pv 5) (pg_sub (pv 3) (pv 6) set_list)))))))
    (pss_one (ps_ret (pv 4))))))), ?_⟩
    obtain ⟨s, c, n, Fr, rfl, hn, cl, h, q⟩ := h
    refine g_seq (g_set (g_op (g_e e_c (g_call1 (e_cons (e_var rfl) (e_cons e_c e_nil)) ⟨s, c, 3, Fr, rfl, by decide, cl, h, fun r H r0 r1 h => g_r r_I0 ?_⟩))))
    refine g_seq (g_set (g_lst (ds := ([-1, -1, -1] : List Int).map dI) h (e_cons (e_un e_c u_I) (e_cons (e_un e_c u_I) (e_cons (e_un e_c u_I) e_nil))) (EntA.cons Ent.v (EntA.cons Ent.v (EntA.cons Ent.v EntA.nil))) (sz 3 (by decide)) fun l H h => ?_))
    refine g_seq (g_set (g_lst0 (g_anil (x_lst0 (ds := dPs []) h EntA.nil (sz 0 (by decide)) fun p h => ?_))))
    have h := h.pick [2, 1, 0] 3
    refine g_seq (x_forR1 (e_cons (e_var rfl) e_nil) ⟨by omega, by omega⟩ (fun b σ H => ∃ (ps : Ps) (ls : List Int) (y5 y6 : Option V), σ = [some (.ref s), some (.int (n : Int)), some (.int (1 + r)), some (.ref l), some (.ref p), y5, y6] ∧ In n ps ∧ ps.length ≤ 2 * b ∧ b ≤ n ∧ L3 n ls ∧ sat (sto s c :: ol l (ls.map dI) :: ol p (dPs ps) :: Fr) H) ⟨[], [-1, -1, -1], none, none, rfl, fun _ z => (nomatch z), Nat.zero_le _, Nat.zero_le _, ⟨rfl, fun v hv => by simp at hv; omega⟩, h⟩ ?_ ?_)
    · rintro b σ H hb ⟨ps, ls, y5, y6, rfl, hin, hl, _, h3, h⟩
      refine g_name ?_
      refine g_seq (g_set (g_call1 (e_cons (e_var rfl) (e_cons (e_var rfl) e_nil)) ⟨s, c, 1 + r, _, rfl, by omega, cl.up.up, h, fun t H t0 t1 h => ?_⟩))
      obtain ⟨v, hv, v0, v1⟩ := h3.get t0 (by omega)
      refine g_cut (fun σ H => ∃ (ps : Ps), σ = [some (.ref s), some (.int (n : Int)), some (.int (1 + r)), some (.ref l), some (.ref p), some (.int (b : Int)), some (.int t)] ∧ In n ps ∧ ps.length ≤ 2 * b + 1 ∧ sat (sto s c :: ol l (ls.map dI) :: ol p (dPs ps) :: Fr) H) ?_ ?_
      · refine g_if1 (t_I (e_op (e_var rfl) (e_var rfl) (r_ixV h (.o 1) (atI_ints t0 hv))) e_c) (fun c0 => ?_) (fun c0 => ?_)
        · refine g_drop (g_appP h 2 rfl (e_var rfl) (e_op (e_var rfl) (e_var rfl) (r_ixV h (.o 1) (atI_ints t0 hv))) (e_var rfl) (sl300 (by omega)) fun H h => ?_)
          refine ⟨ps ++ [(v, (b : Int))], rfl, hin.snoc (by omega) (by omega), by rw [List.length_append]; show ps.length + 1 ≤ _; omega, ?_⟩
          rw [← dPs_snoc]
          exact h
        · exact g_next ⟨ps, rfl, hin, by omega, h⟩
      rintro σ H ⟨ps, rfl, hin, hl, h⟩
      refine g_cut (fun σ H => ∃ (ps : Ps), σ = [some (.ref s), some (.int (n : Int)), some (.int (1 + r)), some (.ref l), some (.ref p), some (.int (b : Int)), some (.int t)] ∧ In n ps ∧ ps.length ≤ 2 * b + 2 ∧ sat (sto s c :: ol l (ls.map dI) :: ol p (dPs ps) :: Fr) H) ?_ ?_
      · refine g_if (g_and ?_)
        refine t_I (e_var rfl) e_c _ (fun c0 => iteT ?_) (fun c0 => iteF (iteF ?_))
        · refine g_T (g_op (g_call1 (e_cons (e_var rfl) (e_cons e_c e_nil)) ⟨s, c, 4, _, rfl, by decide, cl.up.up, h, fun u H _ _ h => g_e e_c (g_r r_eqI (g_dec (fun c1 => iteT ?_) (fun c1 => iteF ?_)))⟩))
          · refine g_drop (g_bmI (e_var rfl) (tyO h 2) (g_acons (g_tup0 (g_acons (g_call1 (e_cons (e_var rfl) (e_cons (e_var rfl) e_nil)) ⟨s, c, (b : Int), _, rfl, by omega, cl.up.up, h, fun u H u0 u1 h => ?_⟩)))))
            refine g_acons1 (e_var rfl) (g_anil ?_)
            refine x_tup0 (ds := [dI u, dI (b : Int)]) h (EntA.cons Ent.v (EntA.cons Ent.v EntA.nil)) (sz 2 (by decide)) fun t h => ?_
            refine g_anil (x_app (d := dP (u, (b : Int))) h 3 rfl (.at 0) (sl300 (by omega)) fun H h => ?_)
            have h := h.drop 1
            refine ⟨ps ++ [(u, (b : Int))], rfl, hin.snoc (by omega) (by omega), by rw [List.length_append]; show ps.length + 1 ≤ _; omega, ?_⟩
            rw [← dPs_snoc]
            exact h
          · exact g_next ⟨ps, rfl, hin, by omega, h⟩
        · exact g_next ⟨ps, rfl, hin, by omega, h⟩
      rintro σ H ⟨ps, rfl, hin, hl, h⟩
      refine g_asg (g_e (e_var rfl) (g_sub (e_var rfl) (e_var rfl) (x_setL (d := dI (b : Int)) h 1 rfl Ent.v (ixP t0 (by rw [List.length_map, h3.1]; omega)) fun H1 h => ?_)))
      refine ⟨ps, ls.set t.toNat (b : Int), _, _, rfl, hin, by omega, by omega, h3.set _ (by omega), ?_⟩
      rw [List.map_set]
      exact h
    rintro σ H ⟨ps, ls, y5, y6, rfl, hin, hl, _, h3, h⟩
    rw [Int.toNat_natCast] at hl
    exact g_ret1 (e_var rfl) (q _ ps _ hin (by omega) (h.pick [0, 2] 3))

end Law

namespace Law
open PySem PySem.Spec PyProof.Rows L2 Sat
open Evl (Ex)
open Wb
theorem ok_law_crown_shape {P : Program} {w : World} {K : PySem.W.Frag} {mg : Str → Option Value} {base : Heap} {ad : Ad} (T : Tx K mg ad) (G_law_take : Cal P w K mg base CX0 1 "_law_take" ["store", "many"] (sp_law_take)) {f : Addr} {fd : FuncData} (F : Fun K "_law_crown_shape" "_law_crown_shape" s_law_crown_shape f fd) : FnOk P w K mg base CX0 2 f fd ["store", "size"] (sp_law_crown_shape) := by
  have nd := sc_law_crown_shape.nd
  refine F.ok sc_law_crown_shape (fun vs H Q E h => ?_) (fun cdv A outer s H vs Q E hr h => ?_)
  · exact sp_law_crown_shape_len h
  · refine ⟨_, (pss_cons (ps_set (i := 2) nd rfl (.inr rfl) (pe_callB (call_min2' rfl) (by rfl) T.m_min (by decide +kernel) (pa_cons (pe_ix ix_list (pe_lst (pa_cons pe_int (pa_cons pe_int (pa_cons pe_int (pa_cons (pe_op op_add pe_int (pe_f G_law_take hr (pa_cons (pv 0) (pa_cons (pe_op op_sub (pe_op op_fdiv (pv 1) pe_int) pe_int) pa_nil)))) pa_nil))))) (pe_f G_law_take hr (pa_cons (pv 0) (pa_cons pe_int pa_nil))) (fun _ _ => rfl)) (pa_cons (pe_op op_fdiv (pv 1) pe_int) pa_nil))))
    (pss_cons (ps_set (i := 3) nd rfl (.inl rfl) (pe_lst pa_nil))
    (pss_cons (ps_for PassesOwn.never rfl (pi_range1 rfl T.m_range (pa_cons (pv 2) pa_nil)) (pg_name (i := 4) nd rfl (.inr rfl))
    (pss_one (ps_expr (pe_bm PySem.F.plainAttrs_list PySem.F.slot_list_extend PySem.F.type_list_extend mt_extend (pv 3) (pa_cons (pe_lc (own := [("two", 7)]) (by rfl) nd (pi_range1 rfl T.m_range (pa_cons (pv 2) pa_nil)) (blkOk_by (own := [("two", 7)]) (N := ["store", "size", "many", "pairs", "one", "mid", "sort", "two"]) (sc := defScope s_law_crown_shape) (by decide +kernel)) (fun _ _ _ _ _ => (pg_name (i := 7) nd rfl (.inl rfl))) (fun _ _ _ _ _ => pts_one (pt_cmpR op_ne (pv 7) (pv 4) (nomark _))) (fun _ _ _ _ _ => (pe_tup (pa_cons (pv 4) (pa_cons (pe_op op_add (pe_op op_sub (pv 1) (pv 2)) (pv 7)) pa_nil))))) pa_nil)))))
    (pss_cons (ps_for PassesOwn.never rfl (pi_range2 rfl T.m_range (pa_cons (pv 2) (pa_cons (pe_op op_sub (pv 1) (pv 2)) pa_nil))) (pg_name (i := 5) nd rfl (.inl rfl))
    (pss_cons (ps_set (i := 6) nd rfl (.inl rfl) (pe_f G_law_take hr (pa_cons (pv 0) (pa_cons pe_int pa_nil))))
    (pss_cons (ps_set (i := 4) nd rfl (.inr rfl) (pe_f G_law_take hr (pa_cons (pv 0) (pa_cons (pv 2) pa_nil))))
    (pss_cons (ps_set (i := 7) nd rfl (.inl rfl) (pe_op op_mod (pe_callTy call_int1' (by rfl) T.m_int (by decide +kernel) (pa_cons (pe_op op_add (pe_op op_add (pv 4) pe_int) (pe_f G_law_take hr (pa_cons (pv 0) (pa_cons (pe_op op_sub (pv 2) pe_int) pa_nil)))) pa_nil)) (pv 2)))
    (C8.pss_cut (ps_if (PW.pt (pw_or (pt_cmpR op_eq (pv 6) pe_int (nomark _)) (pw_or1 (pt_cmpR op_eq (pv 6) pe_int (nomark _)))))
    (pss_one (ps_expr (pe_bm PySem.F.plainAttrs_list PySem.F.slot_list_append PySem.F.type_list_append mt_append (pv 3) (pa_cons (pe_tup (pa_cons (pv 4) (pa_cons (pv 5) pa_nil))) pa_nil))))
    pss_nil)
    (C8.pss_cut (ps_if (PW.pt (pw_or (pt_cmpR op_eq (pv 6) pe_int (nomark _)) (pw_or1 (pt_cmpR op_eq (pv 6) pe_int (nomark _)))))
    (pss_one (ps_expr (pe_bm PySem.F.plainAttrs_list PySem.F.slot_list_append PySem.F.type_list_append mt_append (pv 3) (pa_cons (pe_tup (pa_cons (pv 5) (pa_cons (pe_op op_add (pe_op op_sub (pv 1) (pv 2)) (pv 7)) pa_nil))) pa_nil))))
    pss_nil)
    (pss_one (ps_if (PW.pt (pw_and (pt_cmpR op_eq (pv 6) pe_int (nomark _)) (pw_and1 (pt_cmpR op_gt (pv 5) (pv 2) (nomark _)))))
    (pss_one (ps_expr (pe_bm PySem.F.plainAttrs_list PySem.F.slot_list_append PySem.F.type_list_append mt_append (pv 3) (pa_cons (pe_tup (pa_cons (pe_op op_sub (pv 5) pe_int) (pa_cons (pv 5) pa_nil))) pa_nil))))
    pss_nil))))))))
    (pss_one (ps_ret (pv 3))))))), ?_⟩
    obtain ⟨s, c, n, Fr, rfl, n4, hn, cl, h, q⟩ := h
    refine g_seq (g_set (g_cb (g_acons (g_op (g_lst0 ?_)))))
    refine g_acons1 e_c (g_acons1 e_c (g_acons1 e_c (g_acons (g_op (g_e e_c (g_call1 (e_cons (e_var rfl) (e_cons (e_op (e_op (e_var rfl) e_c (r_div (by decide) (by decide))) e_c r_I0) e_nil)) ⟨s, c, (n : Int) / 2 - 1, Fr, rfl, by omega, cl, h, fun u H u0 u1 h => g_r r_I0 (g_anil ?_)⟩))))))
    refine x_lst0 (ds := ([2, 2, 3, 2 + u] : List Int).map dI) h (EntA.cons Ent.v (EntA.cons Ent.v (EntA.cons Ent.v (EntA.cons Ent.v EntA.nil)))) (sz 4 (by decide)) fun l h => ?_
    have h := h.pick [1, 0] 2
    refine g_call1 (e_cons (e_var rfl) (e_cons e_c e_nil)) ⟨s, c, 4, _, rfl, by decide, cl.up, h, fun r H r0 r1 h => ?_⟩
    obtain ⟨w, hw, w0, w1⟩ : ∃ w, ([2, 2, 3, 2 + u] : List Int)[r.toNat]? = some w ∧ 2 ≤ w ∧ w < 100 := by
      have z : r = 0 ∨ r = 1 ∨ r = 2 ∨ r = 3 := by omega
      rcases z with rfl | rfl | rfl | rfl <;> exact ⟨_, rfl, by omega, by omega⟩
    refine g_r (r_ixV h (.o 1) (atI_ints r0 hw)) ?_
    refine g_acons1 (e_op (e_var rfl) e_c (r_div (by decide) (by decide))) (g_anil (g_c c_min2 ?_))
    obtain ⟨m, hm, hm2, hm3⟩ : ∃ m : Nat, (if (n : Int) / 2 < w then (n : Int) / 2 else w) = (m : Int) ∧ 2 ≤ m ∧ 2 * m ≤ n := by
      split
      · exact ⟨((n : Int) / 2).toNat, by omega, by omega, by omega⟩
      · exact ⟨w.toNat, by omega, by omega, by omega⟩
    rw [hm]
    have h := h.pick [0] 2
    refine g_seq (g_set (g_lst0 (g_anil (x_lst0 (ds := dPs []) h EntA.nil (sz 0 (by decide)) fun p h => ?_))))
    have h := h.pick [1, 0] 2
    refine g_seq (x_forR1 (e_cons (e_var rfl) e_nil) ⟨by omega, by omega⟩ (fun i σ H => ∃ (ps : Ps) (y4 : Option V), σ = [some (.ref s), some (.int (n : Int)), some (.int (m : Int)), some (.ref p), y4, none, none, none] ∧ In n ps ∧ ps.length ≤ 16 * i ∧ i ≤ 8 ∧ sat (sto s c :: ol p (dPs ps) :: Fr) H) ⟨[], none, rfl, fun _ z => (nomatch z), Nat.zero_le _, Nat.zero_le _, h⟩ ?_ ?_)
    · rintro i σ H hi ⟨ps, y4, rfl, hin, hl, _, h⟩
      refine g_name ?_
      refine g_drop (g_bmI (e_var rfl) (tyO h 1) (g_acons ?_))
      refine x_lcR1 h (e_cons (e_var rfl) e_nil) ⟨by omega, by omega⟩ (fun Dl j H => ∃ qs : Ps, In n qs ∧ qs.length ≤ j ∧ j ≤ 16 ∧ sat (sto s c :: ol Dl (dPs qs) :: ol p (dPs ps) :: Fr) H) (fun Dl H1 h => ⟨[], fun _ z => (nomatch z), Nat.le_refl _, Nat.zero_le _, h.pick [1, 0] 2⟩) ?_ ?_
      · rintro Dl j H hj ⟨qs, hq, hql, _, h⟩
        refine l_name rfl ?_
        refine l_if (t_neI (e_var rfl) (e_var rfl)) (fun c1 => ?_) (fun c1 => ?_)
        · refine g_tup h (e_cons (e_var rfl) (e_cons (e_op (e_op (e_var rfl) (e_var rfl) r_I0) (e_var rfl) r_I0) e_nil)) (EntA.cons Ent.v (EntA.cons Ent.v EntA.nil)) (sz 2 (by decide)) fun t H h => ?_
          refine x_lcE (d := dP ((i : Int), (n : Int) - (m : Int) + (j : Int))) h 2 rfl (.at 0) (sl300 (by omega)) fun acc h => ?_
          have h := h.drop 1
          refine ⟨qs ++ [((i : Int), (n : Int) - (m : Int) + (j : Int))], hq.snoc (by omega) (by omega), by rw [List.length_append]; show qs.length + 1 ≤ _; omega, by omega, ?_⟩
          rw [← dPs_snoc]
          exact h
        · exact ⟨qs, hq, by omega, by omega, h⟩
      · rintro Dl H ⟨qs, hq, hql, _, h⟩
        rw [Int.toNat_natCast] at hql
        refine g_anil (x_extV h 2 rfl (.o 1) (by rw [dPs_len, dPs_len, sizeLine_eq]; omega) fun H h => ?_)
        have h := h.pick [0, 2] 3
        refine ⟨ps ++ qs, _, rfl, hin.app hq, by rw [List.length_append]; omega, by omega, ?_⟩
        rw [← dPs_app]
        exact h
    rintro σ H ⟨ps, y4, rfl, hin, hl, _, h⟩
    rw [Int.toNat_natCast] at hl
    refine g_seq (x_forR2 (e_cons (e_var rfl) (e_cons (e_op (e_var rfl) (e_var rfl) r_I0) e_nil)) ⟨by omega, by omega, by omega, by omega⟩ (fun i σ H => ∃ (ps : Ps) (y4 y5 y6 y7 : Option V), σ = [some (.ref s), some (.int (n : Int)), some (.int (m : Int)), some (.ref p), y4, y5, y6, y7] ∧ In n ps ∧ ps.length ≤ 128 + 3 * i ∧ i ≤ 16 ∧ sat (sto s c :: ol p (dPs ps) :: Fr) H) ⟨ps, y4, none, none, none, rfl, hin, by omega, Nat.zero_le _, h⟩ ?_ ?_)
    · rintro i σ H hi ⟨ps, y4, y5, y6, y7, rfl, hin, hl, _, h⟩
      refine g_name ?_
      refine g_seq (g_set (g_call1 (e_cons (e_var rfl) (e_cons e_c e_nil)) ⟨s, c, 5, _, rfl, by decide, cl.up, h, fun so H s0 s1 h => ?_⟩))
      refine g_seq (g_set (g_call1 (e_cons (e_var rfl) (e_cons (e_var rfl) e_nil)) ⟨s, c, (m : Int), _, rfl, by omega, cl.up, h, fun o H o0 o1 h => ?_⟩))
      refine g_seq (g_set (g_op (g_cb (g_acons (g_op (g_e (e_op (e_var rfl) e_c r_I0) (g_call1 (e_cons (e_var rfl) (e_cons (e_op (e_var rfl) e_c r_I0) e_nil)) ⟨s, c, (m : Int) - 1, _, rfl, by omega, cl.up, h, fun v H v0 v1 h => g_r r_I0 (g_anil (g_c c_int1 (g_e (e_var rfl) (g_r (r_mod (by omega)) ?_))))⟩)))))))
      have t0 := Int.emod_nonneg (o + 1 + v) (show (m : Int) ≠ 0 by omega)
      have t1 := Int.emod_lt_of_pos (o + 1 + v) (show (0 : Int) < m by omega)
      generalize (o + 1 + v) % (m : Int) = t at t0 t1 ⊢
      refine g_cut (fun σ H => ∃ ps : Ps, σ = [some (.ref s), some (.int (n : Int)), some (.int (m : Int)), some (.ref p), some (.int o), some (.int ((m : Int) + (i : Int))), some (.int so), some (.int t)] ∧ In n ps ∧ ps.length ≤ 128 + 3 * i + 1 ∧ sat (sto s c :: ol p (dPs ps) :: Fr) H) ?_ ?_
      · refine g_if1 (t_or (t_eqI (e_var rfl) e_c) fun _ => t_eqI (e_var rfl) e_c) (fun c0 => ?_) (fun c0 => ?_)
        · refine g_drop (g_appP h 1 rfl (e_var rfl) (e_var rfl) (e_var rfl) (sl300 (by omega)) fun H h => ?_)
          refine ⟨ps ++ [(o, (m : Int) + (i : Int))], rfl, hin.snoc (by omega) (by omega), by rw [List.length_append]; show ps.length + 1 ≤ _; omega, ?_⟩
          rw [← dPs_snoc]
          exact h
        · exact g_next ⟨ps, rfl, hin, by omega, h⟩
      rintro σ H ⟨ps, rfl, hin, hl, h⟩
      refine g_cut (fun σ H => ∃ ps : Ps, σ = [some (.ref s), some (.int (n : Int)), some (.int (m : Int)), some (.ref p), some (.int o), some (.int ((m : Int) + (i : Int))), some (.int so), some (.int t)] ∧ In n ps ∧ ps.length ≤ 128 + 3 * i + 2 ∧ sat (sto s c :: ol p (dPs ps) :: Fr) H) ?_ ?_
      · refine g_if1 (t_or (t_eqI (e_var rfl) e_c) fun _ => t_eqI (e_var rfl) e_c) (fun c0 => ?_) (fun c0 => ?_)
        · refine g_drop (g_appP h 1 rfl (e_var rfl) (e_var rfl) (e_op (e_op (e_var rfl) (e_var rfl) r_I0) (e_var rfl) r_I0) (sl300 (by omega)) fun H h => ?_)
          refine ⟨ps ++ [((m : Int) + (i : Int), (n : Int) - (m : Int) + t)], rfl, hin.snoc (by omega) (by omega), by rw [List.length_append]; show ps.length + 1 ≤ _; omega, ?_⟩
          rw [← dPs_snoc]
          exact h
        · exact g_next ⟨ps, rfl, hin, by omega, h⟩
      rintro σ H ⟨ps, rfl, hin, hl, h⟩
      refine g_if1 (t_and (t_eqI (e_var rfl) e_c) fun _ => t_I (e_var rfl) (e_var rfl)) (fun c0 => ?_) (fun c0 => ?_)
      · refine g_drop (g_appP h 1 rfl (e_var rfl) (e_op (e_var rfl) e_c r_I0) (e_var rfl) (sl300 (by omega)) fun H h => ?_)
        refine ⟨ps ++ [((m : Int) + (i : Int) - 1, (m : Int) + (i : Int))], _, _, _, _, rfl, hin.snoc (by omega) (by omega), by rw [List.length_append]; show ps.length + 1 ≤ _; omega, by omega, ?_⟩
        rw [← dPs_snoc]
        exact h
      · exact g_next ⟨ps, _, _, _, _, rfl, hin, by omega, by omega, h⟩
    rintro σ H ⟨ps, y4, y5, y6, y7, rfl, hin, hl, _, h⟩
    exact g_ret1 (e_var rfl) (q _ ps _ hin (by omega) h)

end Law

namespace Law
open PySem PySem.Spec PyProof.Rows L2 Sat
open Evl (Ex)
open Wb
theorem ok_law_web_fault {P : Program} {w : World} {K : PySem.W.Frag} {mg : Str → Option Value} {base : Heap} {ad : Ad} (T : Tx K mg ad) (G_law_ring : Cal P w K mg base CX0 1 "_law_ring" ["rows"] (sp_law_ring)) (G_law_closure : Cal P w K mg base CX0 1 "_law_closure" ["size", "pairs"] (sp_law_closure)) {f : Addr} {fd : FuncData} (F : Fun K "_law_web_fault" "_law_web_fault" s_law_web_fault f fd) : FnOk P w K mg base CX0 2 f fd ["size", "pairs"] (sp_law_web_fault) := by
  have nd := sc_law_web_fault.nd
  refine F.ok sc_law_web_fault (fun vs H Q E h => ?_) (fun cdv A outer s H vs Q E hr h => ?_)
  · exact sp_law_web_fault_len h
  · refine ⟨_, (pss_cons (ps_if (pt_cmpR op_lt (pv 0) pe_int (nomark _))
    (pss_one (ps_ret (pe_tup (pa_cons pe_str (pa_cons (pv 0) pa_nil)))))
    pss_nil)
    (pss_cons (ps_for PassesOwn.never rfl (pi_list (pv 1)) (pg_tup rfl (pgs_cons (pg_name (i := 2) nd rfl (.inl rfl)) (pgs_cons (pg_name (i := 3) nd rfl (.inl rfl)) pgs_nil)))
    (pss_cons (ps_if (pt_not (pt_chain op_le op_lt pe_int (pv 2) (pv 0)))
    (pss_one (ps_ret (pe_tup (pa_cons pe_str (pa_cons (pv 2) pa_nil)))))
    pss_nil)
    (pss_one (ps_if (pt_not (pt_chain op_le op_lt pe_int (pv 3) (pv 0)))
    (pss_one (ps_ret (pe_tup (pa_cons pe_str (pa_cons (pv 3) pa_nil)))))
    pss_nil))))
    (pss_cons (ps_if (pt_cmpR op_gt (pv 0) pe_int (nomark _))
    (pss_one (ps_ret (pe_tup (pa_cons pe_str (pa_cons pe_int pa_nil)))))
    pss_nil)
    (pss_cons (ps_set (i := 4) nd rfl (.inl rfl) (pe_f G_law_ring hr (pa_cons (pe_f G_law_closure hr (pa_cons (pv 0) (pa_cons (pv 1) pa_nil))) pa_nil)))
    (pss_cons (ps_if (pt_cmpR op_notN' (pv 4) pe_non (nomark _))
    (pss_one (ps_ret (pe_tup (pa_cons pe_str (pa_cons (pv 4) pa_nil)))))
    pss_nil)
    (pss_one (ps_ret pe_non))))))), ?_⟩
    obtain ⟨a, n, ps, Fr, rfl, w, h, q⟩ := h
    unfold kf at q
    refine g_seq (g_if1 (t_I (e_var rfl) e_c) (fun c0 => ?_) (fun c0 => ?_))
    · rw [if_pos c0] at q
      exact g_ret (g_tup (ds := [dS (nmK 0), dI n]) h (e_cons e_c (e_cons (e_var rfl) e_nil)) (EntA.cons Ent.v (EntA.cons Ent.v EntA.nil)) (sz 2 (by decide)) fun t H h => q _ _ h)
    rw [if_neg c0] at q
    refine g_next ?_
    refine g_seq (x_forV h w (e_var rfl) (fun i σ H => ∃ y2 y3 : Option V, σ = [some (.int n), some (.ref a), y2, y3, none] ∧ firstBad n (ps.take i) = none ∧ sat Fr H) ⟨none, none, rfl, rfl, h⟩ (fun _ _ _ _ ⟨_, _, _, _, h⟩ => ⟨_, h, w⟩) ?_ ?_)
    · rintro i d x σ H hd ⟨y2, y3, rfl, hb, h⟩ hx
      obtain ⟨p, hp, rfl⟩ := getP hd
      have fb := firstBad_take hp hb
      rw [two_find] at fb
      refine g_pairI h (hx h w) ?_
      refine g_seq (g_if1 (t_not (t_within (e_var rfl) (e_var rfl))) (fun c1 => ?_) (fun c1 => ?_))
      · rw [if_pos c1] at fb
        rw [firstBad_all fb] at q
        exact g_ret (g_tup (ds := [dS (nmK 1), dI p.1]) h (e_cons e_c (e_cons (e_var rfl) e_nil)) (EntA.cons Ent.v (EntA.cons Ent.v EntA.nil)) (sz 2 (by decide)) fun t H h => q _ _ h)
      refine g_next ?_
      refine g_if1 (t_not (t_within (e_var rfl) (e_var rfl))) (fun c2 => ?_) (fun c2 => ?_)
      · rw [if_neg c1, if_pos c2] at fb
        rw [firstBad_all fb] at q
        exact g_ret (g_tup (ds := [dS (nmK 1), dI p.2]) h (e_cons e_c (e_cons (e_var rfl) e_nil)) (EntA.cons Ent.v (EntA.cons Ent.v EntA.nil)) (sz 2 (by decide)) fun t H h => q _ _ h)
      · rw [if_neg c1, if_neg c2] at fb
        exact g_next ⟨_, _, rfl, fb, h⟩
    rintro σ H ⟨y2, y3, rfl, hb, h⟩
    rw [dPs_len, List.take_length] at hb
    rw [hb] at q
    refine g_seq (g_if1 (t_I (e_var rfl) e_c) (fun c1 => ?_) (fun c1 => ?_))
    · simp only [if_pos c1] at q
      exact g_ret (g_tup (ds := [dS (nmK 2), dI 16]) h (e_cons e_c (e_cons e_c e_nil)) (EntA.cons Ent.v (EntA.cons Ent.v EntA.nil)) (sz 2 (by decide)) fun t H h => q _ _ h)
    simp only [if_neg c1] at q
    refine g_next ?_
    obtain ⟨m, rfl⟩ : ∃ m : Nat, n = (m : Int) := ⟨n.toNat, by omega⟩
    have hin : In m ps := firstBad_none hb
    rw [Int.toNat_natCast] at q
    refine g_seq (g_set (g_call (g_acons (g_call1 (e_cons (e_var rfl) (e_cons (e_var rfl) e_nil)) ⟨m, a, ps, Fr, rfl, by omega, hin, w, h, fun p H h => g_anil ?_⟩))))
    refine ⟨m, p, clTo ps m, _, rfl, by omega, .r 0, h, fun H h => ?_⟩
    have h := h.drop 1
    refine g_seq (g_if1 (t_notN (e_var rfl)) (fun c2 => ?_) (fun c2 => ?_))
    · cases z : ringOf m (clTo ps m) with
      | none => rw [z] at c2; exact absurd rfl c2
      | some i =>
        rw [z] at q
        exact g_ret (g_tup (ds := [dS (nmK 3), dI (i : Int)]) h (e_cons e_c (e_cons (e_var rfl) e_nil)) (EntA.cons Ent.v (EntA.cons Ent.v EntA.nil)) (sz 2 (by decide)) fun t H h => q _ _ h)
    refine g_next ?_
    cases z : ringOf m (clTo ps m) with
    | none =>
      rw [z] at q
      exact g_ret1 e_c (q _ _ (h.rp Ent.v))
    | some i => exact absurd (by rw [z]; intro y; cases y) c2

end Law

namespace Law
open PySem PySem.Spec PyProof.Rows L2 Sat
open Evl (Ex)
open Wb
theorem ok_law_loops {P : Program} {w : World} {K : PySem.W.Frag} {mg : Str → Option Value} {base : Heap} {ad : Ad} (T : Tx K mg ad) (G_law_take : Cal P w K mg base CX0 1 "_law_take" ["store", "many"] (sp_law_take)) {f : Addr} {fd : FuncData} (F : Fun K "_law_loops" "_law_loops" s_law_loops f fd) : FnOk P w K mg base CX0 2 f fd ["store", "size"] (sp_law_loops) := by
  have nd := sc_law_loops.nd
  refine F.ok sc_law_loops (fun vs H Q E h => ?_) (fun cdv A outer s H vs Q E hr h => ?_)
  · exact sp_law_loops_len h
  · refine ⟨_, (pss_cons (ps_set (i := 2) nd rfl (.inl rfl) (pe_lst pa_nil))
    (pss_cons (ps_for PassesOwn.never rfl (pi_range1 rfl T.m_range (pa_cons (pe_f G_law_take hr (pa_cons (pv 0) (pa_cons (pe_op op_mul pe_int (pv 1)) pa_nil))) pa_nil)) (pg_name (i := 3) nd rfl (.inl rfl))
    (pss_one (ps_expr (pe_bm PySem.F.plainAttrs_list PySem.F.slot_list_append PySem.F.type_list_append mt_append (pv 2) (pa_cons (pe_tup (pa_cons (pe_f G_law_take hr (pa_cons (pv 0) (pa_cons (pv 1) pa_nil))) (pa_cons (pe_f G_law_take hr (pa_cons (pv 0) (pa_cons (pv 1) pa_nil))) pa_nil))) pa_nil)))))
    (pss_one (ps_ret (pv 2))))), ?_⟩
    obtain ⟨s, c, n, Fr, rfl, hn, cl, h, q⟩ := h
    refine g_seq (g_set (g_lst0 (g_anil (x_lst0 (ds := dPs []) h EntA.nil (sz 0 (by decide)) fun p h => ?_))))
    have h := h.pick [1, 0] 2
    refine g_seq (g_forR1 (g_acons (g_call1 (e_cons (e_var rfl) (e_cons (e_op e_c (e_var rfl) (r_mulL ⟨by decide, by decide⟩)) e_nil)) ⟨s, c, 2 * (n : Int), _, rfl, by omega, cl.up, h, fun r H r0 r1 h => g_anil ?_⟩)))
    have hr : r < 32 := by omega
    refine y_forR1 ⟨by omega, by omega⟩ (fun i σ H => ∃ (ps : Ps) (y3 : Option V), σ = [some (.ref s), some (.int (n : Int)), some (.ref p), y3] ∧ (∀ v ∈ flat ps, 0 ≤ v ∧ v < 17) ∧ ps.length ≤ i ∧ i ≤ 32 ∧ sat (sto s c :: ol p (dPs ps) :: Fr) H) ⟨[], none, rfl, fun _ z => (nomatch z), Nat.le_refl _, by omega, h⟩ ?_ ?_
    · rintro i σ H hi ⟨ps, y3, rfl, hv, hl, _, h⟩
      refine g_name ?_
      refine g_drop (g_bmI (e_var rfl) (tyO h 1) (g_acons (g_tup0 (g_acons (g_call1 (e_cons (e_var rfl) (e_cons (e_var rfl) e_nil)) ⟨s, c, (n : Int), _, rfl, by omega, cl.up, h, fun u H u0 u1 h => ?_⟩)))))
      refine g_acons (g_call1 (e_cons (e_var rfl) (e_cons (e_var rfl) e_nil)) ⟨s, c, (n : Int), _, rfl, by omega, cl.up, h, fun v H v0 v1 h => g_anil ?_⟩)
      refine x_tup0 (ds := [dI u, dI v]) h (EntA.cons Ent.v (EntA.cons Ent.v EntA.nil)) (sz 2 (by decide)) fun t h => ?_
      refine g_anil (x_app (d := dP (u, v)) h 2 rfl (.at 0) (sl300 (by omega)) fun H h => ?_)
      have h := h.drop 1
      refine ⟨ps ++ [(u, v)], _, rfl, flat_snoc hv (by omega) (by omega), by rw [List.length_append]; show ps.length + 1 ≤ _; omega, by omega, ?_⟩
      rw [← dPs_snoc]
      exact h
    rintro σ H ⟨ps, y3, rfl, hv, hl, _, h⟩
    exact g_ret1 (e_var rfl) (q _ ps _ hv (by omega) h)

end Law

namespace Law
open PySem PySem.Spec PyProof.Rows L2 Sat
open Evl (Ex)
open Wb
theorem ok_Web_check_deed {P : Program} {w : World} {K : PySem.W.Frag} {mg : Str → Option Value} {base : Heap} {ad : Ad} (T : Tx K mg ad) (X_BadDeed : XCl P w K mg base "BadDeed" ad.BadDeed "bad_deed") {f : Addr} {fd : FuncData} (F : Fun K "check_deed" "Web.check_deed" s_Web_check_deed f fd) : FnOk P w K mg base (L2N.CX P w) 3 f fd ["self", "deed"] (sp_Web_check_deed ad) := by
  have nd := sc_Web_check_deed.nd
  refine F.okN sc_Web_check_deed (fun vs H Q E h => ?_) (fun cdv A outer s H vs Q E hr h => ?_)
  · exact sp_Web_check_deed_len h
  · refine ⟨_, (pss_one (ps_if (PW.pt (pw_or (pt_cmpR op_lt (pv 1) pe_int (nomark _)) (pw_or1 (pt_cmpR op_ge (pv 1) (pe_fld (pv 0) rfl) (nomark _)))))
    (pss_one (ps_raiseX X_BadDeed (L2N.takes_of rfl rfl rfl rfl) (pv 1) hr))
    pss_nil)), ?_⟩
    obtain ⟨n, a, M, i, Fr, rfl, hi, h, kr, kq⟩ := h
    refine g_if1 (t_or (t_I (e_var rfl) e_c) fun _ => t_I (e_var rfl) (e_fldF h T.c_Web T.n_Web_size (.at 0) rfl (e_var rfl))) (fun c => ?_) (fun c => ?_)
    · exact g_raiseX h (e_var rfl) (lg hi) (kr (by omega))
    · exact g_next (kq (by omega) (by omega) _ h)

end Law

namespace Law
open PySem PySem.Spec PyProof.Rows L2 Sat
open Evl (Ex)
open Wb
theorem ok_check_parts {P : Program} {w : World} {K : PySem.W.Frag} {mg : Str → Option Value} {base : Heap} {ad : Ad} (T : Tx K mg ad) (X_BadSize : XCl P w K mg base "BadSize" ad.BadSize "bad_size") (X_TooMany : XCl P w K mg base "TooMany" ad.TooMany "limit") (X_BadDeed : XCl P w K mg base "BadDeed" ad.BadDeed "bad_deed") {f : Addr} {fd : FuncData} (F : Fun K "check_parts" "check_parts" s_check_parts f fd) : FnOk P w K mg base (L2N.CX P w) 3 f fd ["size", "pairs"] (sp_check_parts K ad) := by
  have nd := sc_check_parts.nd
  refine F.okN sc_check_parts (fun vs H Q E h => ?_) (fun cdv A outer s H vs Q E hr h => ?_)
  · exact sp_check_parts_len h
  · refine ⟨_, (pss_cons (ps_if (pt_cmpR op_lt (pv 0) pe_int (nomark _))
    (pss_one (ps_raiseX X_BadSize (L2N.takes_of rfl rfl rfl rfl) (pv 0) hr))
    pss_nil)
    (pss_cons (ps_for (passes_of rfl) rfl (pi_seq (pv 1)) (pg_name (i := 2) nd rfl (.inl rfl))
    (pss_one (ps_for (passes_of rfl) rfl (pi_seq (pv 2)) (pg_name (i := 3) nd rfl (.inl rfl))
    (pss_one (ps_if (PW.pt (pw_or (pt_cmpR op_lt (pv 3) pe_int (nomark _)) (pw_or1 (pt_cmpR op_ge (pv 3) (pv 0) (nomark _)))))
    (pss_one (ps_raiseX X_BadDeed (L2N.takes_of rfl rfl rfl rfl) (pv 3) hr))
    pss_nil)))))
    (pss_one (ps_if (pt_cmpR op_gt (pv 0) pe_int (nomark _))
    (pss_one (ps_raiseX X_TooMany (L2N.takes_of rfl rfl rfl rfl) pe_int hr))
    pss_nil)))), ?_⟩
    obtain ⟨n, a, ps, b, Fr, rfl, hn, hv, w, h, kr, kq⟩ := h
    refine g_seq (g_if1 (t_I (e_var rfl) e_c) (fun c => ?_) (fun c => ?_))
    · exact g_raiseX h (e_var rfl) (lg hn) (kr _ _ _ (by unfold fault; rw [if_pos c]))
    refine g_next ?_
    refine g_seq (x_forS h w (e_var rfl) (fun i σ H => ∃ y2 y3 : Option V, σ = [some (.int n), some (.ref a), y2, y3] ∧ firstBad n (ps.take i) = none ∧ sat Fr H) ⟨none, none, rfl, rfl, h⟩ (fun i σ H _ ⟨_, _, _, _, h⟩ => ⟨Fr, h, w⟩) ?_ ?_)
    · rintro i d x σ H hd ⟨y2, y3, rfl, hb, h⟩ hx
      obtain ⟨p, hp, rfl⟩ := getP hd
      have ex := hx h w
      obtain ⟨pa, rfl⟩ := tup_ref (h.of ex)
      have h2 := h.rp ex
      refine g_name ?_
      refine x_forS (ds := [dI p.1, dI p.2]) (b := true) h2 (.t 0 rfl) (e_var rfl) (fun j σ H => ∃ y3 : Option V, σ = [some (.int n), some (.ref a), some (.ref pa), y3] ∧ (([p.1, p.2] : List Int).take j).find? (bad n) = none ∧ sat (.rp (.ref pa) (dP p) :: Fr) H) ⟨y3, rfl, rfl, h2⟩ (fun j σ H _ ⟨_, _, _, h⟩ => ⟨_, h, .t 0 rfl⟩) ?_ ?_
      · rintro j d x σ H hd ⟨y3, rfl, hj, h⟩ hx
        obtain ⟨v, hv', rfl⟩ := getI (ns := [p.1, p.2]) hd
        obtain rfl := h.flat (hx h (.t 0 rfl))
        have hf : (([p.1, p.2] : List Int).take (j + 1)).find? (bad n) = if bad n v = true then some v else none := by
          rw [takeS hv', List.find?_append, hj]
          by_cases z : bad n v = true
          · rw [if_pos z]; simp [z]
          · rw [if_neg z]; simp [z]
        refine g_name ?_
        refine g_if1 (t_or (t_I (e_var rfl) e_c) fun _ => t_I (e_var rfl) (e_var rfl)) (fun c => ?_) (fun c => ?_)
        · have z : bad n v = true := by unfold bad; simp; omega
          rw [if_pos z] at hf
          have e2 : firstBad n (ps.take (i + 1)) = some v := by
            rw [firstBad_take hp hb, ← List.take_append_drop (j + 1) ([p.1, p.2] : List Int), List.find?_append, hf]
            rfl
          have e3 := firstBad_all e2
          refine g_raiseX (h.drop 1) (e_var rfl) (lg (hv v ?_)) (kr _ _ _ ?_)
          · exact List.mem_of_find?_eq_some e3
          · unfold fault
            rw [if_neg (by omega), e3]
        · have z : ¬ bad n v = true := by unfold bad; simp; omega
          rw [if_neg z] at hf
          exact g_next ⟨_, rfl, hf, h⟩
      · rintro σ H ⟨y3, rfl, hj, h⟩
        exact ⟨_, _, rfl, by rw [firstBad_take hp hb]; exact hj, h.drop 1⟩
    · rintro σ H ⟨y2, y3, rfl, hb, h⟩
      rw [List.length_map, List.take_length] at hb
      refine g_if1 (t_I (e_var rfl) e_c) (fun c2 => ?_) (fun c2 => ?_)
      · exact g_raiseX h e_c (by decide) (kr _ _ _ (by unfold fault; rw [if_neg c, hb]; exact if_pos c2))
      · exact g_next (kq (by unfold fault; rw [if_neg c, hb]; exact if_neg c2) _ h)

end Law

namespace Law
open PySem PySem.Spec PyProof.Rows L2 Sat
open Evl (Ex)
open Wb
theorem ok_law_shape {P : Program} {w : World} {K : PySem.W.Frag} {mg : Str → Option Value} {base : Heap} {ad : Ad} (T : Tx K mg ad) (G_law_take : Cal P w K mg base CX0 1 "_law_take" ["store", "many"] (sp_law_take)) (G_law_net : Cal P w K mg base CX0 2 "_law_net" ["store", "size"] (sp_law_net)) (G_law_crown_shape : Cal P w K mg base CX0 2 "_law_crown_shape" ["store", "size"] (sp_law_crown_shape)) (G_law_chains : Cal P w K mg base CX0 2 "_law_chains" ["store", "size"] (sp_law_chains)) {f : Addr} {fd : FuncData} (F : Fun K "_law_shape" "_law_shape" s_law_shape f fd) : FnOk P w K mg base CX0 3 f fd ["store", "size"] (sp_law_shape) := by
  have nd := sc_law_shape.nd
  refine F.ok sc_law_shape (fun vs H Q E h => ?_) (fun cdv A outer s H vs Q E hr h => ?_)
  · exact sp_law_shape_len h
  · refine ⟨_, (pss_cons (ps_set (i := 2) nd rfl (.inl rfl) (pe_f G_law_take hr (pa_cons (pv 0) (pa_cons pe_int pa_nil))))
    (pss_cons (ps_if (PW.pt (pw_and (pt_cmpR op_ge (pv 2) pe_int (nomark _)) (pw_and1 (pt_cmpR op_ge (pv 1) pe_int (nomark _)))))
    (pss_one (ps_ret (pe_f G_law_crown_shape hr (pa_cons (pv 0) (pa_cons (pv 1) pa_nil)))))
    pss_nil)
    (pss_cons (ps_if (pt_cmpR op_eq (pv 2) pe_int (nomark _))
    (pss_one (ps_ret (pe_lst pa_nil)))
    pss_nil)
    (pss_cons (ps_if (pt_cmpR op_eq (pv 2) pe_int (nomark _))
    (pss_one (ps_ret (pe_lc (own := [("a", 3)]) (by rfl) nd (pi_range1 rfl T.m_range (pa_cons (pe_op op_sub (pv 1) pe_int) pa_nil)) (blkOk_by (own := [("a", 3)]) (N := ["store", "size", "sort", "a"]) (sc := defScope s_law_shape) (by decide +kernel)) (fun _ _ _ _ _ => (pg_name (i := 3) nd rfl (.inl rfl))) (fun _ _ _ _ _ => pts_nil) (fun _ _ _ _ _ => (pe_tup (pa_cons (pv 3) (pa_cons (pe_op op_add (pv 3) pe_int) pa_nil)))))))
    pss_nil)
    (pss_cons (ps_if (pt_cmpR op_eq (pv 2) pe_int (nomark _))
    (pss_one (ps_ret (pe_f G_law_chains hr (pa_cons (pv 0) (pa_cons (pv 1) pa_nil)))))
    pss_nil)
    (pss_one (ps_ret (pe_f G_law_net hr (pa_cons (pv 0) (pa_cons (pv 1) pa_nil)))))))))), ?_⟩
    obtain ⟨s, c, n, Fr, rfl, hn, cl, h, q⟩ := h
    refine g_seq (g_set (g_call1 (e_cons (e_var rfl) (e_cons e_c e_nil)) ⟨s, c, 8, Fr, rfl, by decide, cl, h, fun r H r0 r1 h => ?_⟩))
    refine g_seq (g_if1 (t_and (t_I (e_var rfl) e_c) fun _ => t_I (e_var rfl) e_c) (fun c0 => ?_) (fun c0 => ?_))
    · exact g_ret (g_call1 (e_cons (e_var rfl) (e_cons (e_var rfl) e_nil)) ⟨s, c, n, Fr, rfl, by omega, hn, cl, h, q⟩)
    refine g_next ?_
    refine g_seq (g_if1 (t_eqI (e_var rfl) e_c) (fun c1 => ?_) (fun c1 => ?_))
    · exact g_ret (g_lst0 (g_anil (x_lst0 (ds := dPs []) h EntA.nil (sz 0 (by decide)) fun p h => q p [] _ (fun _ z => nomatch z) (Nat.zero_le _) (h.pick [1, 0] 2))))
    refine g_next ?_
    refine g_seq (g_if1 (t_eqI (e_var rfl) e_c) (fun c2 => ?_) (fun c2 => ?_))
    · refine g_ret ?_
      refine x_lcR1 h (e_cons (e_op (e_var rfl) e_c r_I0) e_nil) ⟨by omega, by omega⟩ (fun Dl i H => ∃ ps : Ps, In n ps ∧ ps.length = i ∧ i ≤ 16 ∧ sat (sto s c :: ol Dl (dPs ps) :: Fr) H) (fun Dl H1 h => ⟨[], fun _ z => (nomatch z), rfl, Nat.zero_le _, h.pick [1, 0] 2⟩) ?_ ?_
      · rintro Dl i H hi ⟨ps, hin, hl, h16, h⟩
        refine l_name rfl ?_
        refine l_yes ?_
        refine g_tup h (e_cons (e_var rfl) (e_cons (e_op (e_var rfl) e_c r_I0) e_nil)) (EntA.cons Ent.v (EntA.cons Ent.v EntA.nil)) (sz 2 (by decide)) fun t H h => ?_
        refine x_lcE (d := dP ((i : Int), (i : Int) + 1)) h 2 rfl (.at 0) (sl300 (by omega)) fun acc h => ?_
        have h := h.drop 1
        refine ⟨ps ++ [((i : Int), (i : Int) + 1)], hin.snoc (by omega) (by omega), by rw [List.length_append, hl]; rfl, by omega, ?_⟩
        rw [← dPs_snoc]
        exact h
      · rintro Dl H ⟨ps, hin, hl, h16, h⟩
        exact q _ ps _ hin (by omega) h
    refine g_next ?_
    refine g_seq (g_if1 (t_eqI (e_var rfl) e_c) (fun c3 => ?_) (fun c3 => ?_))
    · exact g_ret (g_call1 (e_cons (e_var rfl) (e_cons (e_var rfl) e_nil)) ⟨s, c, n, Fr, rfl, hn, cl, h, q⟩)
    refine g_next ?_
    exact g_ret (g_call1 (e_cons (e_var rfl) (e_cons (e_var rfl) e_nil)) ⟨s, c, n, Fr, rfl, hn, cl, h, q⟩)

end Law

namespace Law
open PySem PySem.Spec PyProof.Rows L2 Sat
open Evl (Ex)
open Wb
theorem ok_law_bent_pairs {P : Program} {w : World} {K : PySem.W.Frag} {mg : Str → Option Value} {base : Heap} {ad : Ad} (T : Tx K mg ad) (G_law_take : Cal P w K mg base CX0 1 "_law_take" ["store", "many"] (sp_law_take)) (G_law_beyond : Cal P w K mg base CX0 2 "_law_beyond" ["store", "size"] (sp_law_beyond)) (G_law_pick : Cal P w K mg base CX0 2 "_law_pick" ["store", "items"] (sp_law_pick)) {f : Addr} {fd : FuncData} (F : Fun K "_law_bent_pairs" "_law_bent_pairs" s_law_bent_pairs f fd) : FnOk P w K mg base CX0 3 f fd ["store", "size", "pairs"] (sp_law_bent_pairs) := by
  have nd := sc_law_bent_pairs.nd
  refine F.ok sc_law_bent_pairs (fun vs H Q E h => ?_) (fun cdv A outer s H vs Q E hr h => ?_)
  · exact sp_law_bent_pairs_len h
  · refine ⟨_, (pss_cons (ps_set (i := 3) nd rfl (.inl rfl) (pe_f G_law_take hr (pa_cons (pv 0) (pa_cons pe_int pa_nil))))
    (pss_cons (ps_set (i := 4) nd rfl (.inl rfl) (pe_callTy call_list' (by rfl) T.m_list (by decide +kernel) (pa_cons (pv 2) pa_nil)))
    (C8.pss_cut (ps_if (PW.pt (pw_and (pt_cmpR op_gt (pe_callB call_len' (by rfl) T.m_len (by decide +kernel) (pa_cons (pv 2) pa_nil)) pe_int (nomark _)) (pw_and1 (PW.pt (pw_or (pt_cmpR op_eq (pv 3) pe_int (nomark _)) (pw_or1 (pt_cmpR op_eq (pv 3) pe_int (nomark _))))))))
    (pss_one (ps_for PassesOwn.never rfl (pi_range1 rfl T.m_range (pa_cons (pe_op op_add pe_int (pe_f G_law_take hr (pa_cons (pv 0) (pa_cons pe_int pa_nil)))) pa_nil)) (pg_name (i := 5) nd rfl (.inl rfl))
    (pss_cons (ps_asg (pe_f G_law_pick hr (pa_cons (pv 0) (pa_cons (pv 2) pa_nil))) (pg_tup rfl (pgs_cons (pg_name (i := 6) nd rfl (.inl rfl)) (pgs_cons (pg_name (i := 7) nd rfl (.inl rfl)) pgs_nil))))
    (pss_one (ps_expr (pe_bm PySem.F.plainAttrs_list PySem.F.slot_list_insert PySem.F.type_list_insert mt_insert' (pv 4) (pa_cons (pe_f G_law_take hr (pa_cons (pv 0) (pa_cons (pe_op op_add (pe_callB call_len' (by rfl) T.m_len (by decide +kernel) (pa_cons (pv 4) pa_nil)) pe_int) pa_nil))) (pa_cons (pe_tup (pa_cons (pv 7) (pa_cons (pv 6) pa_nil))) pa_nil))))))))
    pss_nil)
    (C8.pss_cut (ps_if (PW.pt (pw_and (pt_cmpR op_gt (pv 1) pe_int (nomark _)) (pw_and1 (pt_cmpR op_eq (pv 3) pe_int (nomark _)))))
    (pss_cons (ps_set (i := 8) nd rfl (.inl rfl) (pe_f G_law_take hr (pa_cons (pv 0) (pa_cons (pv 1) pa_nil))))
    (pss_one (ps_expr (pe_bm PySem.F.plainAttrs_list PySem.F.slot_list_insert PySem.F.type_list_insert mt_insert' (pv 4) (pa_cons (pe_f G_law_take hr (pa_cons (pv 0) (pa_cons (pe_op op_add (pe_callB call_len' (by rfl) T.m_len (by decide +kernel) (pa_cons (pv 4) pa_nil)) pe_int) pa_nil))) (pa_cons (pe_tup (pa_cons (pv 8) (pa_cons (pv 8) pa_nil))) pa_nil))))))
    pss_nil)
    (C8.pss_cut (ps_if (PW.pt (pw_and (pt_cmpR op_ge (pv 3) pe_int (nomark _)) (pw_and1 (pt_cmpR op_le (pv 3) pe_int (nomark _)))))
    (pss_cons (ps_set (i := 8) nd rfl (.inl rfl) (pe_f G_law_beyond hr (pa_cons (pv 0) (pa_cons (pv 1) pa_nil))))
    (pss_cons (ps_set (i := 9) nd rfl (.inl rfl) (pe_f G_law_take hr (pa_cons (pv 0) (pa_cons (pv 1) pa_nil))))
    (C8.pss_cut (ps_if (PW.pt (pw_or (pt_cmpR op_eq (pv 3) pe_int (nomark _)) (pw_or1 (pt_cmpR op_eq (pv 1) pe_int (nomark _)))))
    (pss_one (ps_set (i := 9) nd rfl (.inl rfl) (pe_f G_law_beyond hr (pa_cons (pv 0) (pa_cons (pv 1) pa_nil)))))
    pss_nil)
    (pss_cons (ps_set (i := 10) nd rfl (.inl rfl) (pe_ix ix_list (pe_lst (pa_cons (pe_tup (pa_cons (pv 8) (pa_cons (pv 9) pa_nil))) (pa_cons (pe_tup (pa_cons (pv 9) (pa_cons (pv 8) pa_nil))) pa_nil))) (pe_f G_law_take hr (pa_cons (pv 0) (pa_cons pe_int pa_nil))) (fun _ _ => rfl)))
    (pss_one (ps_expr (pe_bm PySem.F.plainAttrs_list PySem.F.slot_list_insert PySem.F.type_list_insert mt_insert' (pv 4) (pa_cons (pe_f G_law_take hr (pa_cons (pv 0) (pa_cons (pe_op op_add (pe_callB call_len' (by rfl) T.m_len (by decide +kernel) (pa_cons (pv 4) pa_nil)) pe_int) pa_nil))) (pa_cons (pv 10) pa_nil)))))))))
    pss_nil)
    (pss_one (ps_ret (pv 4)))))))), ?_⟩
    obtain ⟨s, c, a, m, ps, Fr, rfl, m0, m1, w, hb, hl, cl, h, q⟩ := h
    refine g_seq (g_set (g_call1 (e_cons (e_var rfl) (e_cons e_c e_nil)) ⟨s, c, 6, Fr, rfl, by decide, cl, h, fun so H s0 s1 h => ?_⟩))
    refine g_seq (g_set (g_cb (g_acons1 (e_var rfl) (g_anil (x_listV h w.up fun r H h => ?_)))))
    have h := h.pick [1, 0] 2
    refine g_cut (fun σ H => ∃ (qs : Ps) (y5 y6 y7 : Option V), σ = [some (.ref s), some (.int m), some (.ref a), some (.int so), some (.ref r), y5, y6, y7, none, none, none] ∧ Bd qs ∧ qs.length ≤ ps.length + 2 ∧ sat (sto s c :: ol r (dPs qs) :: Fr) H) ?_ ?_
    · refine g_if1 (t_and (t_I (e_cb (e_cons (e_var rfl) e_nil) (c_lenV h w.up.up)) e_c) fun _ => t_or (t_eqI (e_var rfl) e_c) fun _ => t_eqI (e_var rfl) e_c) (fun c0 => ?_) (fun c0 => ?_)
      · have lp : 0 < ps.length := by
          have := c0.1
          rw [dPs_len] at this
          omega
        refine g_forR1 (g_acons (g_op (g_e e_c (g_call1 (e_cons (e_var rfl) (e_cons e_c e_nil)) ⟨s, c, 2, _, rfl, by decide, cl.up, h, fun u H u0 u1 h => g_r r_I0 (g_anil ?_)⟩))))
        refine y_forR1 ⟨by omega, by omega⟩ (fun i σ H => ∃ (qs : Ps) (y5 y6 y7 : Option V), σ = [some (.ref s), some (.int m), some (.ref a), some (.int so), some (.ref r), y5, y6, y7, none, none, none] ∧ Bd qs ∧ qs.length ≤ ps.length + i ∧ i ≤ 2 ∧ sat (sto s c :: ol r (dPs qs) :: Fr) H) ⟨ps, none, none, none, rfl, hb, by omega, by omega, h⟩ ?_ ?_
        · rintro i σ H hi ⟨qs, y5, y6, y7, rfl, hq, hql, _, h⟩
          refine g_name ?_
          refine g_seq (g_asg (g_call1 (e_cons (e_var rfl) (e_cons (e_var rfl) e_nil)) ⟨s, c, a, _, _, rfl, w.up, by rw [dPs_len]; omega, by rw [dPs_len]; omega, cl.up, h, fun x d H hd h => ?_⟩))
          obtain ⟨p, hp, rfl⟩ := List.mem_map.mp hd
          have hpb := hb.of hp
          refine g_pairI h (.at 1) ?_
          refine g_drop (g_bmI (e_var rfl) (tyO h 2) (g_acons (g_call1 (e_cons (e_var rfl) (e_cons (e_op (e_cb (e_cons (e_var rfl) e_nil) (c_lenV h (.o 2))) e_c r_I0) e_nil)) ⟨s, c, _, _, rfl, by rw [dPs_len]; omega, cl.up.up, h, fun k H k0 k1 h => ?_⟩)))
          rw [dPs_len] at k1
          refine g_acons (g_tup h (e_cons (e_var rfl) (e_cons (e_var rfl) e_nil)) (EntA.cons Ent.v (EntA.cons Ent.v EntA.nil)) (sz 2 (by decide)) fun t H h => g_anil (x_ins (d := dP (p.2, p.1)) h 3 rfl (.at 0) (sl300 (by omega)) k0 (by omega) fun H h => ?_))
          have h := h.pick [1, 3] 4
          refine ⟨insP qs k.toNat (p.2, p.1), _, _, _, rfl, insP_bd hq hpb.2 hpb.1, by rw [insP_len]; omega, by omega, ?_⟩
          rw [← insP_D]
          exact h
        · rintro σ H ⟨qs, y5, y6, y7, rfl, hq, hql, hi2, h⟩
          exact ⟨qs, _, _, _, rfl, hq, by omega, h⟩
      · exact g_next ⟨ps, _, _, _, rfl, hb, by omega, h⟩
    rintro σ H ⟨qs, y5, y6, y7, rfl, hq, hql, h⟩
    refine g_cut (fun σ H => ∃ (qs : Ps) (y8 : Option V), σ = [some (.ref s), some (.int m), some (.ref a), some (.int so), some (.ref r), y5, y6, y7, y8, none, none] ∧ Bd qs ∧ qs.length ≤ ps.length + 3 ∧ sat (sto s c :: ol r (dPs qs) :: Fr) H) ?_ ?_
    · refine g_if1 (t_and (t_I (e_var rfl) e_c) fun _ => t_eqI (e_var rfl) e_c) (fun c0 => ?_) (fun c0 => ?_)
      · refine g_seq (g_set (g_call1 (e_cons (e_var rfl) (e_cons (e_var rfl) e_nil)) ⟨s, c, m, _, rfl, by omega, cl.up, h, fun x H x0 x1 h => ?_⟩))
        refine g_drop (g_bmI (e_var rfl) (tyO h 1) (g_acons (g_call1 (e_cons (e_var rfl) (e_cons (e_op (e_cb (e_cons (e_var rfl) e_nil) (c_lenV h (.o 1))) e_c r_I0) e_nil)) ⟨s, c, _, _, rfl, by rw [dPs_len]; omega, cl.up, h, fun k H k0 k1 h => ?_⟩)))
        rw [dPs_len] at k1
        refine g_acons (g_tup h (e_cons (e_var rfl) (e_cons (e_var rfl) e_nil)) (EntA.cons Ent.v (EntA.cons Ent.v EntA.nil)) (sz 2 (by decide)) fun t H h => g_anil (x_ins (d := dP (x, x)) h 2 rfl (.at 0) (sl300 (by omega)) k0 (by omega) fun H h => ?_))
        have h := h.drop 1
        refine ⟨insP qs k.toNat (x, x), _, rfl, insP_bd hq (by omega) (by omega), by rw [insP_len]; omega, ?_⟩
        rw [← insP_D]
        exact h
      · exact g_next ⟨qs, _, rfl, hq, by omega, h⟩
    rintro σ H ⟨qs, y8, rfl, hq, hql, h⟩
    refine g_cut (fun σ H => ∃ (qs : Ps) (y8 y9 y10 : Option V), σ = [some (.ref s), some (.int m), some (.ref a), some (.int so), some (.ref r), y5, y6, y7, y8, y9, y10] ∧ Bd qs ∧ qs.length ≤ ps.length + 4 ∧ sat (sto s c :: ol r (dPs qs) :: Fr) H) ?_ ?_
    · refine g_if1 (t_and (t_I (e_var rfl) e_c) fun _ => t_I (e_var rfl) e_c) (fun c0 => ?_) (fun c0 => ?_)
      · refine g_seq (g_set (g_call1 (e_cons (e_var rfl) (e_cons (e_var rfl) e_nil)) ⟨s, c, m, _, rfl, m0, m1, cl.up, h, fun x H x0 x1 h => ?_⟩))
        refine g_seq (g_set (g_call1 (e_cons (e_var rfl) (e_cons (e_var rfl) e_nil)) ⟨s, c, m, _, rfl, by omega, cl.up, h, fun y H yb0 yb1 h => ?_⟩))
        refine g_cut (fun σ H => ∃ y : Int, σ = [some (.ref s), some (.int m), some (.ref a), some (.int so), some (.ref r), y5, y6, y7, some (.int x), some (.int y), none] ∧ y.natAbs < 2 ^ 210 ∧ sat (sto s c :: ol r (dPs qs) :: Fr) H) ?_ ?_
        · refine g_if1 (t_or (t_eqI (e_var rfl) e_c) fun _ => t_eqI (e_var rfl) e_c) (fun c1 => ?_) (fun c1 => ?_)
          · exact g_set (g_call1 (e_cons (e_var rfl) (e_cons (e_var rfl) e_nil)) ⟨s, c, m, _, rfl, m0, m1, cl.up, h, fun z H z0 z1 h => ⟨z, rfl, z1, h⟩⟩)
          · exact g_next ⟨y, rfl, by omega, h⟩
        rintro σ H ⟨y, rfl, yb, h⟩
        refine g_seq (g_set (g_op (g_lst0 (g_acons (g_tup h (e_cons (e_var rfl) (e_cons (e_var rfl) e_nil)) (EntA.cons Ent.v (EntA.cons Ent.v EntA.nil)) (sz 2 (by decide)) fun t1 H h => g_acons (g_tup h (e_cons (e_var rfl) (e_cons (e_var rfl) e_nil)) (EntA.cons Ent.v (EntA.cons Ent.v EntA.nil)) (sz 2 (by decide)) fun t2 H h => g_anil ?_))))))
        refine x_lst0 (ds := dPs [(x, y), (y, x)]) h (EntA.cons (.at 1) (EntA.cons (.at 0) EntA.nil)) (sz 2 (by decide)) fun l h => ?_
        have h := h.pick [3, 0, 4] 5
        refine g_call1 (e_cons (e_var rfl) (e_cons e_c e_nil)) ⟨s, c, 2, _, rfl, by decide, cl.up.up, h, fun k H k0 k1 h => ?_⟩
        obtain ⟨u, v, huv, hu, hv⟩ : ∃ u v : Int, (dPs [(x, y), (y, x)])[k.toNat]? = some (dP (u, v)) ∧ u.natAbs < 2 ^ 210 ∧ v.natAbs < 2 ^ 210 := by
          have z : k = 0 ∨ k = 1 := by omega
          rcases z with rfl | rfl
          · exact ⟨x, y, rfl, x1, yb⟩
          · exact ⟨y, x, rfl, yb, x1⟩
        refine x_ixV (d := dP (u, v)) h (.o 1) (atI_at k.toNat (by omega) huv) fun pr h => ?_
        have h := h.pick [1, 3, 0] 4
        refine g_drop (g_bmI (e_var rfl) (tyO h 1) (g_acons (g_call1 (e_cons (e_var rfl) (e_cons (e_op (e_cb (e_cons (e_var rfl) e_nil) (c_lenV h (.o 1))) e_c r_I0) e_nil)) ⟨s, c, _, _, rfl, by rw [dPs_len]; omega, cl.up.up, h, fun k H k0 k1 h => g_acons1 (e_var rfl) (g_anil ?_)⟩)))
        rw [dPs_len] at k1
        refine x_ins (d := dP (u, v)) h 1 rfl (.at 2) (sl300 (by omega)) k0 (by omega) fun H h => ?_
        have h := h.pick [0, 1] 3
        refine ⟨insP qs k.toNat (u, v), _, _, _, rfl, insP_bd hq hu hv, by rw [insP_len]; omega, ?_⟩
        rw [← insP_D]
        exact h
      · exact g_next ⟨qs, _, _, _, rfl, hq, by omega, h⟩
    rintro σ H ⟨qs, y8, y9, y10, rfl, hq, hql, h⟩
    exact g_ret1 (e_var rfl) (q _ qs _ hq hql h)

end Law

namespace Law
open PySem PySem.Spec PyProof.Rows L2 Sat
open Evl (Ex)
open Wb
theorem ok_Web_init {P : Program} {w : World} {K : PySem.W.Frag} {mg : Str → Option Value} {base : Heap} {ad : Ad} (T : Tx K mg ad) (G_check_parts : Cal P w K mg base (L2N.CX P w) 3 "check_parts" ["size", "pairs"] (sp_check_parts K ad)) (G_closed_masks : Cal P w K mg base CX0 1 "closed_masks" ["size", "pairs"] (sp_closed_masks K)) (G_turned_masks : Cal P w K mg base CX0 2 "turned_masks" ["masks"] (sp_turned_masks)) (G_members : Cal P w K mg base CX0 1 "members" ["mask"] (sp_members)) (X_Ring : XCl P w K mg base "Ring" ad.Ring "ring_deed") {f : Addr} {fd : FuncData} (F : FunD K "__init__" "Web.__init__" (defArgs s_Web_init) (defBody s_Web_init) (defScope s_Web_init) ([V.ref ad.dflt]) [] f fd) : FnOk P w K mg base (L2N.CX P w) 4 f fd ["self", "size", "pairs"] (sp_Web_init K ad) := by
  have nd := sc_Web_init.nd
  refine F.ok sc_Web_init (fun vs H Q E h => ?_) (fun cdv A outer s H vs Q E hr h => ?_)
  · exact sp_Web_init_len h
  · refine ⟨_, (pss_cons (ps_expr (pe_fS G_check_parts hr (L2N.takes_of rfl rfl rfl rfl) (pa_cons (pv 1) (pa_cons (pv 2) pa_nil))))
    (pss_cons (ps_fld (pv 0) (pv 1) rfl)
    (pss_cons (ps_fld (pv 0) (pe_f G_closed_masks hr (pa_cons (pv 1) (pa_cons (pv 2) pa_nil))) rfl)
    (pss_cons (ps_fld (pv 0) (pe_f G_turned_masks hr (pa_cons (pe_fld (pv 0) rfl) pa_nil)) rfl)
    (pss_cons (ps_for (passes_of rfl) rfl (pi_range1 rfl T.m_range (pa_cons (pv 1) pa_nil)) (pg_name (i := 3) nd rfl (.inl rfl))
    (pss_one (ps_if (pt_tru' (pe_op op_and (pe_op op_shr (pe_ix ix_list (pe_fld (pv 0) rfl) (pv 3) (fun _ _ => rfl)) (pv 3)) pe_int))
    (pss_one (ps_raiseX X_Ring (L2N.takes_of rfl rfl rfl rfl) (pv 3) hr))
    pss_nil)))
    (pss_one (ps_fld (pv 0) (pe_lc2 (own := [("a", 4), ("b", 5)]) (vs1 := [5]) (by rfl) nd (pi_range1 rfl T.m_range (pa_cons (pv 1) pa_nil)) (blkOk_by (own := [("a", 4), ("b", 5)]) (N := ["self", "size", "pairs", "deed", "a", "b"]) (sc := defScope s_Web_init) (by decide +kernel)) (by decide) (fun _ _ _ _ _ => (pg_name (i := 4) nd rfl (.inl rfl))) (fun _ _ _ _ _ => pts_nil) (fun _ _ _ _ _ => (pi_listK (K := K) rfl (pe_f G_members hr (pa_cons (pe_ix (ix_listK (K := K) rfl) (pe_fldK (K := K) rfl (pv 0) rfl) (pv 4) (fun _ _ => rfl)) pa_nil)))) (fun _ _ _ _ _ => (pg_name (i := 5) nd rfl (.inl rfl))) (fun _ _ _ _ _ => pts_nil) (fun _ _ _ _ _ => (pe_tup (pa_cons (pv 4) (pa_cons (pv 5) pa_nil))))) rfl))))))), ?_⟩
    obtain ⟨n, s, a, ps, b, Fr, rfl, hn, hv, w, h, kr, kq⟩ := h
    refine g_seq (g_drop (g_callS1 (e_cons (e_var rfl) (e_cons (e_var rfl) e_nil)) ⟨n, a, ps, b, _, rfl, hn, hv, w.up, h, fun c f i z => Rz.up (kr c f i (by unfold wfault; rw [z])), fun hf H h => ?_⟩))
    obtain ⟨m, rfl, hm, hin⟩ := fault_none hf
    have lo := low_cl hin m
    unfold wfault at kr kq
    rw [hf, Int.toNat_natCast] at kr kq
    refine g_seq (g_fld (g_e (e_var rfl) (x_stoO (d := dI (m : Int)) h 0 T.c_Web T.n_Web_size rfl (by simp) (e_var rfl) Ent.v rfl fun H h => ?_)))
    have h : sat (oi s ad.Web [("size", dI (m : Int))] :: Fr) H := h
    refine g_seq (g_fld (g_call1 (e_cons (e_var rfl) (e_cons (e_var rfl) e_nil)) ⟨m, a, ps, b, _, rfl, hm, hin, w.up, h, fun p1 H h => ?_⟩))
    have h := h.frz 0
    refine x_stoO (d := .lst ((row m (clTo ps m)).map dI)) h 1 T.c_Web T.n_Web_masks_ahead rfl (by simp) (e_var rfl) (.at 0) rfl fun H h => ?_
    have h : sat (.rp (.ref p1) (.lst ((row m (clTo ps m)).map dI)) :: oi s ad.Web [("size", dI (m : Int)), ("masks_ahead", .lst ((row m (clTo ps m)).map dI))] :: Fr) H := h
    obtain ⟨x, hx, ex⟩ := x_fldO (f := "masks_ahead") h 1 T.c_Web T.n_Web_masks_ahead rfl
    obtain ⟨p2, rfl⟩ := lst_ref (h.of hx)
    have h := (h.rp hx).pick [0, 2] 3
    refine g_seq (g_fld (g_call1 (e_cons (ex (e_var rfl)) e_nil) ⟨m, p2, clTo ps m, _, rfl, hm, lo, .r 0, h, fun p3 H h => ?_⟩))
    have h := h.frz 0
    refine x_stoO (d := .lst ((row m (turnTo (clTo ps m) m)).map dI)) h 2 T.c_Web T.n_Web_masks_behind rfl (by simp) (e_var rfl) (.at 0) rfl fun H h => ?_
    have h : sat (oi s ad.Web [("size", dI (m : Int)), ("masks_ahead", .lst ((row m (clTo ps m)).map dI)), ("masks_behind", .lst ((row m (turnTo (clTo ps m) m)).map dI))] :: Fr) H := h.pick [2] 3
    refine g_seq (x_forR1 (e_cons (e_var rfl) e_nil) ⟨by omega, by omega⟩ (fun i σ H => ∃ y3 : Option V, σ = [some (.ref s), some (.int (m : Int)), some (.ref a), y3, none, none] ∧ ((List.range i).find? fun d => (clTo ps m d).testBit d) = none ∧ sat (oi s ad.Web [("size", dI (m : Int)), ("masks_ahead", .lst ((row m (clTo ps m)).map dI)), ("masks_behind", .lst ((row m (turnTo (clTo ps m) m)).map dI))] :: Fr) H) ⟨none, rfl, rfl, h⟩ ?_ ?_)
    · rintro i σ H hi ⟨y3, rfl, hr, h⟩
      refine g_name ?_
      obtain ⟨x, hx, ex⟩ := x_fldO (f := "masks_ahead") h 0 T.c_Web T.n_Web_masks_ahead rfl
      obtain ⟨p4, rfl⟩ := lst_ref (h.of hx)
      have h2 := h.rp hx
      have fr := find_range hr
      refine g_if1 (t_truI (e_op (e_op (e_op (ex (e_var rfl)) (e_var rfl) (r_ixV h2 (.r 0) (rowN (by omega)))) (e_var rfl) (r_shr (by omega))) e_c r_I0)) (fun c => ?_) (fun c => ?_)
      · have c2 := (mem_testI _ _).mp c
        rw [if_pos c2] at fr
        refine g_raiseX (h.drop 1) (e_var rfl) (lg ?_) (kr _ _ _ ?_)
        · have : (16 : Nat) < 2 ^ 1900 := by decide
          omega
        · unfold ringOf
          rw [find_le (by omega) fr]
          rfl
      · have c2 := fun z => c ((mem_testI _ _).mpr z)
        rw [if_neg c2] at fr
        exact g_next ⟨_, rfl, fr, h⟩
    rintro σ H ⟨y3, rfl, hr, h⟩
    rw [Int.toNat_natCast] at hr
    have kq := kq (by unfold ringOf; rw [hr]; rfl)
    refine g_fld ?_
    refine x_lc2R1 h (e_cons (e_var rfl) e_nil) ⟨by omega, by omega⟩ (fun Dl i H => i ≤ m ∧ sat (ol Dl (dPs (pairsTo m (turnTo (clTo ps m) m) i)) :: oi s ad.Web [("size", dI (m : Int)), ("masks_ahead", .lst ((row m (clTo ps m)).map dI)), ("masks_behind", .lst ((row m (turnTo (clTo ps m) m)).map dI))] :: Fr) H) (fun Dl H1 h => ⟨Nat.zero_le _, h⟩) ?_ ?_
    · rintro Dl i H hi ⟨_, h⟩
      refine g_name ⟨rfl, ?_⟩
      refine l_yes ?_
      obtain ⟨x, hx, ex⟩ := x_fldO (f := "masks_behind") h 1 T.c_Web T.n_Web_masks_behind rfl
      obtain ⟨p5, rfl⟩ := lst_ref (h.of hx)
      have h2 := h.rp hx
      have lt : turnTo (clTo ps m) m i < 2 ^ 64 := Nat.lt_of_lt_of_le (low_turn (clTo ps m) m (Nat.le_refl _) i) (Nat.pow_le_pow_right (by decide) (by omega))
      refine g_call1 (e_cons (e_op (ex (e_var rfl)) (e_var rfl) (r_ixV h2 (.r 0) (rowN (by omega)))) e_nil) ⟨turnTo (clTo ps m) m i, _, rfl, lt, h, fun p H1 h => ?_⟩
      obtain ⟨xs, hxs, _⟩ := h.olv 0
      refine ⟨p, rfl, ⟨xs, .inl (.inl hxs)⟩, ?_⟩
      refine in2_list h (.o 0) (fun j H => sat (ol p ((Mk.bits (turnTo (clTo ps m) m i)).map dI) :: ol Dl (dPs (pairsTo m (turnTo (clTo ps m) m) i ++ ((Mk.nums (turnTo (clTo ps m) m i)).take j).map fun (b : Nat) => ((i : Int), (b : Int)))) :: oi s ad.Web [("size", dI (m : Int)), ("masks_ahead", .lst ((row m (clTo ps m)).map dI)), ("masks_behind", .lst ((row m (turnTo (clTo ps m) m)).map dI))] :: Fr) H) ?_ (fun j H _ h => ⟨_, h, .o 0⟩) ?_ ?_
      · rw [List.take_zero, List.map_nil, List.append_nil]
        exact h
      · rintro j d x H hd h hx
        obtain ⟨v, hv2, rfl⟩ := getI hd
        obtain rfl := h.flat (hx h (.o 0))
        obtain ⟨e, he, rfl⟩ := nums_get hv2
        refine l_name rfl ?_
        refine l_yes ?_
        refine g_tup h (e_cons (e_var rfl) (e_cons (e_var rfl) e_nil)) (EntA.cons Ent.v (EntA.cons Ent.v EntA.nil)) (sz 2 (by decide)) fun q H h => ?_
        have z1 := pairsTo_len m (turnTo (clTo ps m) m) i
        have z2 := Mk.nums_le (turnTo (clTo ps m) m i)
        refine x_lcE (d := dP ((i : Int), (e : Int))) h 2 rfl (.at 0) ?_ fun acc h => ?_
        · rw [List.length_map, List.length_append, List.length_map, List.length_take, sizeLine_eq]
          omega
        have h := h.pick [1, 2] 3
        rw [takeS he, List.map_append, ← List.append_assoc]
        show sat (ol p _ :: ol Dl (dPs (_ ++ [((i : Int), (e : Int))])) :: _) _
        unfold dPs
        rw [List.map_append]
        exact h
      · rintro H h
        rw [List.length_map, Mk.bits_len, List.take_length, ← pairsTo_succ] at h
        exact ⟨by omega, h.drop 1⟩
    rintro Dl H ⟨_, h⟩
    rw [Int.toNat_natCast] at h
    have h := h.frz 0
    refine x_stoO (nx := fun _ H' => Q .non H') (d := .lst (dPs (pairsTo m (turnTo (clTo ps m) m) m))) h 1 T.c_Web T.n_Web_pair_rows rfl (by simp) (e_var rfl) (.at 0) rfl fun H h => ?_
    have h : sat (.rp (.ref Dl) (.lst (dPs (pairsTo m (turnTo (clTo ps m) m) m))) :: oi s ad.Web (webF m (clTo ps m)) :: Fr) H := h
    exact kq _ ((h.frzI 1).drop 1)

end Law

namespace Law
open PySem PySem.Spec PyProof.Rows L2 Sat
open Evl (Ex)
open Wb
theorem ok_Web_ahead {P : Program} {w : World} {K : PySem.W.Frag} {mg : Str → Option Value} {base : Heap} {ad : Ad} (T : Tx K mg ad) (G_Web_check_deed : Mtd P w K mg base 3 ad.Web "check_deed" ["self", "deed"] (sp_Web_check_deed ad)) {f : Addr} {fd : FuncData} (F : Fun K "ahead" "Web.ahead" s_Web_ahead f fd) : FnOk P w K mg base (L2N.CX P w) 4 f fd ["self", "a", "b"] (sp_Web_ahead ad) := by
  have nd := sc_Web_ahead.nd
  refine F.okN sc_Web_ahead (fun vs H Q E h => ?_) (fun cdv A outer s H vs Q E hr h => ?_)
  · exact sp_Web_ahead_len h
  · refine ⟨_, (pss_cons (ps_expr (pe_mS G_Web_check_deed hr (L2N.takes_of rfl rfl rfl rfl) (pv 0) (pa_cons (pv 1) pa_nil)))
    (pss_cons (ps_expr (pe_mS G_Web_check_deed hr (L2N.takes_of rfl rfl rfl rfl) (pv 0) (pa_cons (pv 2) pa_nil)))
    (pss_one (ps_ret (pe_cmpR op_eq (pe_op op_and (pe_op op_shr (pe_ix ix_list (pe_fld (pv 0) rfl) (pv 2) (fun _ _ => rfl)) (pv 1)) pe_int) pe_int (nomark _)))))), ?_⟩
    obtain ⟨n, s, M, a, b, Fr, rfl, ha, hb, h, kr, kq⟩ := h
    refine g_seq (g_drop (g_methF h (.at 0) rfl (e_var rfl) (e_cons (e_var rfl) e_nil) ⟨n, s, M, a, Fr, rfl, ha, h, fun z => kr _ (bad2_l z), fun a0 a1 H h => ?_⟩))
    refine g_seq (g_drop (g_methF h (.at 0) rfl (e_var rfl) (e_cons (e_var rfl) e_nil) ⟨n, s, M, b, Fr, rfl, hb, h, fun z => kr _ (bad2_r a0 a1 z), fun b0 b1 H h => ?_⟩))
    have kq := kq (bad2_n a0 a1 b0 b1)
    obtain ⟨x, hx, ex⟩ := x_fldF (f := "masks_ahead") h T.c_Web T.n_Web_masks_ahead (.at 0) rfl
    obtain ⟨p, rfl⟩ := lst_ref (h.of hx)
    have h2 := h.rp hx
    refine g_ret1 (e_op (e_op (e_op (e_op (ex (e_var rfl)) (e_var rfl) (r_ixV h2 (.r 0) (rowI b0 b1))) (e_var rfl) (r_shr a0)) e_c r_I0) e_c r_eqI) ?_
    rw [tb_eq1]
    exact kq _ h

end Law

namespace Law
open PySem PySem.Spec PyProof.Rows L2 Sat
open Evl (Ex)
open Wb
theorem ok_Web_beside {P : Program} {w : World} {K : PySem.W.Frag} {mg : Str → Option Value} {base : Heap} {ad : Ad} (T : Tx K mg ad) (G_Web_check_deed : Mtd P w K mg base 3 ad.Web "check_deed" ["self", "deed"] (sp_Web_check_deed ad)) {f : Addr} {fd : FuncData} (F : Fun K "beside" "Web.beside" s_Web_beside f fd) : FnOk P w K mg base (L2N.CX P w) 4 f fd ["self", "a", "b"] (sp_Web_beside ad) := by
  have nd := sc_Web_beside.nd
  refine F.okN sc_Web_beside (fun vs H Q E h => ?_) (fun cdv A outer s H vs Q E hr h => ?_)
  · exact sp_Web_beside_len h
  · refine ⟨_, (pss_cons (ps_expr (pe_mS G_Web_check_deed hr (L2N.takes_of rfl rfl rfl rfl) (pv 0) (pa_cons (pv 1) pa_nil)))
    (pss_cons (ps_expr (pe_mS G_Web_check_deed hr (L2N.takes_of rfl rfl rfl rfl) (pv 0) (pa_cons (pv 2) pa_nil)))
    (pss_cons (ps_if (pt_cmpR op_eq (pv 1) (pv 2) (nomark _))
    (pss_one (ps_ret pe_bl))
    pss_nil)
    (pss_cons (ps_set (i := 3) nd rfl (.inl rfl) (pe_op op_or (pe_ix ix_list (pe_fld (pv 0) rfl) (pv 2) (fun _ _ => rfl)) (pe_ix ix_list (pe_fld (pv 0) rfl) (pv 2) (fun _ _ => rfl))))
    (pss_one (ps_ret (pe_cmpR op_eq (pe_op op_and (pe_op op_shr (pv 3) (pv 1)) pe_int) pe_int (nomark _)))))))), ?_⟩
    obtain ⟨n, s, M, a, b, Fr, rfl, ha, hb, h, kr, kq⟩ := h
    refine g_seq (g_drop (g_methF h (.at 0) rfl (e_var rfl) (e_cons (e_var rfl) e_nil) ⟨n, s, M, a, Fr, rfl, ha, h, fun z => kr _ (bad2_l z), fun a0 a1 H h => ?_⟩))
    refine g_seq (g_drop (g_methF h (.at 0) rfl (e_var rfl) (e_cons (e_var rfl) e_nil) ⟨n, s, M, b, Fr, rfl, hb, h, fun z => kr _ (bad2_r a0 a1 z), fun b0 b1 H h => ?_⟩))
    have kq := kq (bad2_n a0 a1 b0 b1)
    obtain ⟨x, hx, ex⟩ := x_fldF (f := "masks_ahead") h T.c_Web T.n_Web_masks_ahead (.at 0) rfl
    obtain ⟨p, rfl⟩ := lst_ref (h.of hx)
    have h2 := h.rp hx
    obtain ⟨y, hy, ey⟩ := x_fldF (f := "masks_behind") h T.c_Web T.n_Web_masks_behind (.at 0) rfl
    obtain ⟨r, rfl⟩ := lst_ref (h.of hy)
    have h3 := h.rp hy
    refine g_seq (g_if1 (t_eqI (e_var rfl) (e_var rfl)) (fun c => ?_) (fun c => ?_))
    · refine g_ret1 e_c ?_
      have z : isBeside n M a b = false := by unfold isBeside; rw [decide_eq_true c]; rfl
      rw [← z]
      exact kq _ h
    refine g_next ?_
    refine g_seq (g_set1 (e_op (e_op (ex (e_var rfl)) (e_var rfl) (r_ixV h2 (.r 0) (rowI b0 b1))) (e_op (ey (e_var rfl)) (e_var rfl) (r_ixV h3 (.r 0) (rowI b0 b1))) r_I0) ?_)
    rw [orNN]
    refine g_ret1 (e_op (e_op (e_op (e_var rfl) (e_var rfl) (r_shr a0)) e_c r_I0) e_c r_eqI) ?_
    rw [tb_eq0]
    have z : isBeside n M a b = !(M b.toNat ||| turnTo M n b.toNat).testBit a.toNat := by unfold isBeside; rw [decide_eq_false c]; rfl
    rw [← z]
    exact kq _ h

end Law

namespace Law
open PySem PySem.Spec PyProof.Rows L2 Sat
open Evl (Ex)
open Wb
theorem ok_law_web {P : Program} {w : World} {K : PySem.W.Frag} {mg : Str → Option Value} {base : Heap} {ad : Ad} (T : Tx K mg ad) (G_law_size : Cal P w K mg base CX0 2 "_law_size" ["store", "least", "most"] (sp_law_size)) (G_law_mixed : Cal P w K mg base CX0 2 "_law_mixed" ["store", "items"] (sp_law_mixed)) (G_law_closure : Cal P w K mg base CX0 1 "_law_closure" ["size", "pairs"] (sp_law_closure)) (G_law_take : Cal P w K mg base CX0 1 "_law_take" ["store", "many"] (sp_law_take)) (G_law_pick : Cal P w K mg base CX0 2 "_law_pick" ["store", "items"] (sp_law_pick)) (G_law_shape : Cal P w K mg base CX0 3 "_law_shape" ["store", "size"] (sp_law_shape)) {f : Addr} {fd : FuncData} (F : Fun K "_law_web" "_law_web" s_law_web f fd) : FnOk P w K mg base CX0 4 f fd ["store", "least", "most"] (sp_law_web) := by
  have nd := sc_law_web.nd
  refine F.ok sc_law_web (fun vs H Q E h => ?_) (fun cdv A outer s H vs Q E hr h => ?_)
  · exact sp_law_web_len h
  · refine ⟨_, (pss_cons (ps_set (i := 3) nd rfl (.inl rfl) (pe_f G_law_size hr (pa_cons (pv 0) (pa_cons (pv 1) (pa_cons (pv 2) pa_nil)))))
    (pss_cons (ps_set (i := 4) nd rfl (.inr rfl) (pe_f G_law_mixed hr (pa_cons (pv 0) (pa_cons (pe_listRg rfl (by rfl) T.m_list (prg_1 (by rfl) T.m_range (pv 3))) pa_nil))))
    (pss_cons (ps_set (i := 5) nd rfl (.inl rfl) (pe_f G_law_mixed hr (pa_cons (pv 0) (pa_cons (pe_lc (own := [("a", 6), ("b", 7)]) (by rfl) nd (pi_list (pe_f G_law_shape hr (pa_cons (pv 0) (pa_cons (pv 3) pa_nil)))) (blkOk_by (own := [("a", 6), ("b", 7)]) (N := ["store", "least", "most", "size", "row", "pairs", "a", "b"]) (sc := defScope s_law_web) (by decide +kernel)) (fun _ _ _ _ _ => (pg_tupK (K := K) (n := 2) rfl rfl (pgs_cons (pg_name (i := 6) nd rfl (.inl rfl)) (pgs_cons (pg_name (i := 7) nd rfl (.inl rfl)) pgs_nil)) (by first | rfl | simp [assignEach]) (by first | rfl | simp [assignEach]))) (fun _ _ _ _ _ => pts_nil) (fun _ _ _ _ _ => (pe_tup (pa_cons (pe_ix (ix_listK (K := K) rfl) (pv 4) (pv 6) (fun _ _ => rfl)) (pa_cons (pe_ix (ix_listK (K := K) rfl) (pv 4) (pv 7) (fun _ _ => rfl)) pa_nil))))) pa_nil))))
    (C8.pss_cut (ps_if (PW.pt (pw_and (pt_cmpR op_gt (pe_callB call_len' (by rfl) T.m_len (by decide +kernel) (pa_cons (pv 5) pa_nil)) pe_int (nomark _)) (pw_and1 (pt_cmpR op_eq (pe_f G_law_take hr (pa_cons (pv 0) (pa_cons pe_int pa_nil))) pe_int (nomark _)))))
    (pss_one (ps_expr (pe_bm PySem.F.plainAttrs_list PySem.F.slot_list_append PySem.F.type_list_append mt_append (pv 5) (pa_cons (pe_f G_law_pick hr (pa_cons (pv 0) (pa_cons (pv 5) pa_nil))) pa_nil))))
    pss_nil)
    (pss_one (ps_ret (pe_tup (pa_cons (pv 3) (pa_cons (pv 5) (pa_cons (pe_f G_law_closure hr (pa_cons (pv 3) (pa_cons (pv 5) pa_nil))) pa_nil)))))))))), ?_⟩
    obtain ⟨s, c, Fr, rfl, cl, h, q⟩ := h
    refine g_seq (g_set (g_call1 (e_cons (e_var rfl) (e_cons (e_var rfl) (e_cons (e_var rfl) e_nil))) ⟨s, c, 0, 16, Fr, rfl, by decide, by decide, cl, h, fun z H z0 z1 h => ?_⟩))
    obtain ⟨n, rfl⟩ : ∃ n : Nat, z = (n : Int) := ⟨z.toNat, by omega⟩
    refine g_seq (g_set (g_call (g_acons1 (e_var rfl) (g_acons (g_listR1 h (e_var rfl) ⟨by omega, by omega⟩ fun p1 H h => g_anil ?_)))))
    have h := h.pick [1, 0] 2
    refine ⟨s, c, p1, _, _, rfl, .o 0, by rw [List.length_map, rangeI_len]; omega, cl.up, h, fun pr es H hp h => ?_⟩
    obtain ⟨ns, rfl, hns⟩ := perm_ints hp
    have nl : ns.length = n := by rw [hns.length_eq, rangeI_len]; omega
    have nv : ∀ v ∈ ns, 0 ≤ v ∧ v < (n : Int) := fun v hv => mem_rangeI.mp (hns.mem_iff.mp hv)
    have h := h.pick [0, 1] 3
    refine g_seq (g_set (g_call (g_acons1 (e_var rfl) (g_acons ?_))))
    refine g_lcL (g_call1 (e_cons (e_var rfl) (e_cons (e_var rfl) e_nil)) ⟨s, c, n, _, rfl, by omega, cl.up, h, fun p2 ps H hin hl h => ?_⟩)
    refine y_lcV h (.o 1) (fun Dl i H => ∃ qs : Ps, In n qs ∧ qs.length ≤ i ∧ i ≤ 300 ∧ sat (sto s c :: ol Dl (dPs qs) :: ol p2 (dPs ps) :: ol pr (ns.map dI) :: Fr) H) (fun Dl H1 h => ⟨[], fun _ z => (nomatch z), Nat.le_refl _, Nat.zero_le _, h.pick [1, 0] 2⟩) (fun _ _ _ _ ⟨_, _, _, _, h⟩ => ⟨_, h, .o 2⟩) ?_ ?_
    · rintro Dl i d x H hd ⟨qs, hq, hql, _, h⟩ hx
      obtain ⟨p, hp, rfl⟩ := getP hd
      have hil : i < ps.length := (List.getElem?_eq_some_iff.mp hp).1
      obtain ⟨u, v, rfl, hu, hv⟩ := in_nat (hin p (List.mem_of_getElem? hp))
      refine g_pairI h (hx h (.o 2)) ⟨rfl, ?_⟩
      refine l_yes ?_
      obtain ⟨a, ha⟩ : ∃ a, ns[u]? = some a := ⟨_, List.getElem?_eq_getElem (by omega)⟩
      obtain ⟨b, hb⟩ : ∃ b, ns[v]? = some b := ⟨_, List.getElem?_eq_getElem (by omega)⟩
      refine g_tup h (e_cons (e_op (e_var rfl) (e_var rfl) (r_ixV h (.o 3) (atI_ints (by omega) (by rw [Int.toNat_natCast]; exact ha)))) (e_cons (e_op (e_var rfl) (e_var rfl) (r_ixV h (.o 3) (atI_ints (by omega) (by rw [Int.toNat_natCast]; exact hb)))) e_nil)) (EntA.cons Ent.v (EntA.cons Ent.v EntA.nil)) (sz 2 (by decide)) fun t H h => ?_
      refine x_lcE (d := dP (a, b)) h 2 rfl (.at 0) (sl300 (by omega)) fun acc h => ?_
      have h := h.drop 1
      refine ⟨qs ++ [(a, b)], hq.snoc (nv a (List.mem_of_getElem? ha)) (nv b (List.mem_of_getElem? hb)), by rw [List.length_append]; show qs.length + 1 ≤ _; omega, by omega, ?_⟩
      rw [← dPs_snoc]
      exact h
    rintro Dl H ⟨qs, hq, hql, _, h⟩
    rw [dPs_len] at hql
    refine g_anil ⟨s, c, Dl, _, _, rfl, .o 0, by rw [dPs_len]; omega, cl.up.up.up, h, fun p3 es H hp h => ?_⟩
    obtain ⟨ps3, rfl, hps⟩ := permP hp
    have hin3 : In n ps3 := fun p hp => hq p (hps.mem_iff.mp hp)
    have hl3 : ps3.length ≤ 300 := by rw [hps.length_eq]; omega
    have h := h.pick [0, 1] 5
    refine g_cut (fun σ H => ∃ ps : Ps, σ = [some (.ref s), some (.int 0), some (.int 16), some (.int (n : Int)), some (.ref pr), some (.ref p3), none, none] ∧ In n ps ∧ ps.length ≤ 301 ∧ sat (sto s c :: ol p3 (dPs ps) :: Fr) H) ?_ ?_
    · refine g_if (g_and ?_)
      refine t_I (e_cb (e_cons (e_var rfl) e_nil) (c_lenV h (.o 1))) e_c _ (fun c0 => iteT ?_) (fun c0 => iteF (iteF ?_))
      · rw [dPs_len] at c0
        refine g_T (g_op (g_call1 (e_cons (e_var rfl) (e_cons e_c e_nil)) ⟨s, c, 3, _, rfl, by decide, cl.up, h, fun u H _ _ h => g_e e_c (g_r r_eqI (g_dec (fun c1 => iteT ?_) (fun c1 => iteF ?_)))⟩))
        · refine g_drop (g_bmI (e_var rfl) (tyO h 1) (g_acons (g_call1 (e_cons (e_var rfl) (e_cons (e_var rfl) e_nil)) ⟨s, c, p3, _, _, rfl, .o 0, by rw [dPs_len]; omega, by rw [dPs_len]; omega, cl.up, h, fun x d H hd h => g_anil ?_⟩)))
          obtain ⟨p, hp, rfl⟩ := List.mem_map.mp hd
          refine x_app (d := dP p) h 2 rfl (.at 1) (sl300 (by omega)) fun H h => ?_
          have h := h.pick [0, 2] 3
          have hpi := hin3 p hp
          refine ⟨ps3 ++ [(p.1, p.2)], rfl, hin3.snoc hpi.1 hpi.2, by rw [List.length_append]; show ps3.length + 1 ≤ _; omega, ?_⟩
          rw [← dPs_snoc]
          exact h
        · exact g_next ⟨ps3, rfl, hin3, by omega, h⟩
      · exact g_next ⟨ps3, rfl, hin3, by omega, h⟩
    rintro σ H ⟨ps, rfl, hin, hl, h⟩
    refine g_ret (g_tup0 (g_acons1 (e_var rfl) (g_acons1 (e_var rfl) (g_acons (g_call1 (e_cons (e_var rfl) (e_cons (e_var rfl) e_nil)) ⟨n, p3, ps, _, rfl, by omega, hin, .o 1, h, fun p4 H h => g_anil ?_⟩)))))
    have h := h.frz 2
    refine x_tup0 (ds := [dI (n : Int), .lst (dPs ps), rowsD n (clTo ps n)]) h (EntA.cons Ent.v (EntA.cons (.at 2) (EntA.cons (.at 0) EntA.nil))) (sz 3 (by decide)) fun t h => ?_
    exact q t n ps _ (by omega) hin (by omega) (h.pick [2, 0] 4)

end Law

namespace Law
open PySem PySem.Spec PyProof.Rows L2 Sat
open Evl (Ex)
open Wb
theorem ok_law_question {P : Program} {w : World} {K : PySem.W.Frag} {mg : Str → Option Value} {base : Heap} {ad : Ad} (T : Tx K mg ad) (G_law_web : Cal P w K mg base CX0 4 "_law_web" ["store", "least", "most"] (sp_law_web)) (G_law_take : Cal P w K mg base CX0 1 "_law_take" ["store", "many"] (sp_law_take)) (G_law_loops : Cal P w K mg base CX0 2 "_law_loops" ["store", "size"] (sp_law_loops)) (G_law_bent_pairs : Cal P w K mg base CX0 3 "_law_bent_pairs" ["store", "size", "pairs"] (sp_law_bent_pairs)) {f : Addr} {fd : FuncData} (F : Fun K "_law_question" "_law_question" s_law_question f fd) : FnOk P w K mg base CX0 5 f fd ["store"] (sp_law_question) := by
  have nd := sc_law_question.nd
  refine F.ok sc_law_question (fun vs H Q E h => ?_) (fun cdv A outer s H vs Q E hr h => ?_)
  · exact sp_law_question_len h
  · refine ⟨_, (pss_cons (ps_asg (pe_f G_law_web hr (pa_cons (pv 0) (pa_cons pe_int (pa_cons pe_int pa_nil)))) (pg_tup rfl (pgs_cons (pg_name (i := 1) nd rfl (.inl rfl)) (pgs_cons (pg_name (i := 2) nd rfl (.inl rfl)) (pgs_cons (pg_name (i := 3) nd rfl (.inl rfl)) pgs_nil)))))
    (pss_cons (ps_set (i := 4) nd rfl (.inl rfl) (pe_f G_law_take hr (pa_cons (pv 0) (pa_cons pe_int pa_nil))))
    (C8.pss_cut (ps_if (pt_cmpR op_eq (pv 4) pe_int (nomark _))
    (pss_one (ps_set (i := 1) nd rfl (.inl rfl) (pe_op op_sub (pe_un un_neg pe_int) (pe_f G_law_take hr (pa_cons (pv 0) (pa_cons pe_int pa_nil))))))
    pss_nil)
    (C8.pss_cut (ps_if (pt_cmpR op_eq (pv 4) pe_int (nomark _))
    (pss_one (ps_set (i := 1) nd rfl (.inl rfl) (pe_op op_sub (pe_un un_neg (pe_op op_pow pe_int pe_int)) (pv 1))))
    pss_nil)
    (C8.pss_cut (ps_if (pt_cmpR op_eq (pv 4) pe_int (nomark _))
    (pss_one (ps_set (i := 1) nd rfl (.inl rfl) pe_int))
    pss_nil)
    (C8.pss_cut (ps_if (pt_cmpR op_eq (pv 4) pe_int (nomark _))
    (pss_one (ps_set (i := 1) nd rfl (.inl rfl) (pe_op op_add pe_int (pe_f G_law_take hr (pa_cons (pv 0) (pa_cons pe_int pa_nil))))))
    pss_nil)
    (C8.pss_cut (ps_if (pt_cmpR op_eq (pv 4) pe_int (nomark _))
    (pss_one (ps_set (i := 1) nd rfl (.inl rfl) (pe_op op_add (pe_op op_pow pe_int pe_int) (pv 1))))
    pss_nil)
    (C8.pss_cut (ps_if (PW.pt (pw_and (pt_cmpR op_ge (pv 4) pe_int (nomark _)) (pw_and (pt_cmpR op_le (pv 4) pe_int (nomark _)) (pw_and1 (pt_cmpR op_eq (pe_f G_law_take hr (pa_cons (pv 0) (pa_cons pe_int pa_nil))) pe_int (nomark _))))))
    (pss_one (ps_set (i := 2) nd rfl (.inl rfl) (pe_op op_cat (pv 2) (pe_lst (pa_cons (pe_tup (pa_cons (pe_op op_sub (pv 1) pe_int) (pa_cons pe_int pa_nil))) pa_nil)))))
    pss_nil)
    (C8.pss_cut (ps_if (pt_cmpR op_eq (pv 4) pe_int (nomark _))
    (pss_one (ps_set (i := 2) nd rfl (.inl rfl) (pe_f G_law_loops hr (pa_cons (pv 0) (pa_cons (pv 1) pa_nil)))))
    pss_nil)
    (C8.pss_cut (ps_if (PW.pt (pw_and (pt_cmpR op_eq (pv 4) pe_int (nomark _)) (pw_and1 (pt_cmpR op_gt (pe_callB call_len' (by rfl) T.m_len (by decide +kernel) (pa_cons (pv 2) pa_nil)) pe_int (nomark _)))))
    (pss_one (ps_set (i := 2) nd rfl (.inl rfl) (pe_op op_rep (pv 2) (pe_op op_fdivW pe_int (pe_callB call_len' (by rfl) T.m_len (by decide +kernel) (pa_cons (pv 2) pa_nil))))))
    pss_nil)
    (C8.pss_cut (ps_if (pt_cmpR op_eq (pe_f G_law_take hr (pa_cons (pv 0) (pa_cons pe_int pa_nil))) pe_int (nomark _))
    (pss_one (ps_set (i := 2) nd rfl (.inl rfl) (pe_f G_law_bent_pairs hr (pa_cons (pv 0) (pa_cons (pe_callB (call_max2' rfl) (by rfl) T.m_max (by decide +kernel) (pa_cons (pv 1) (pa_cons pe_int pa_nil))) (pa_cons (pv 2) pa_nil))))))
    pss_nil)
    (pss_one (ps_ret (pe_tup (pa_cons (pv 1) (pa_cons (pe_slice sl_list (pv 2) (po_some (pe_un un_neg pe_int)) po_none) pa_nil)))))))))))))))), ?_⟩
    obtain ⟨s, c, Fr, rfl, cl, h, q⟩ := h
    refine g_seq (g_asg (g_call1 (e_cons (e_var rfl) (e_cons e_c (e_cons e_c e_nil))) ⟨s, c, Fr, rfl, cl, h, fun t n ps H hn hin hl h => ?_⟩))
    refine g_trip h (.at 1) fun pv pr he _ => ?_
    obtain ⟨pp, rfl⟩ := lst_ref (h.of he)
    have h := (h.rp he).pick [1, 0] 3
    have hb := hin.bd hn
    have hn0 := hn
    refine g_seq (g_set (g_call1 (e_cons (e_var rfl) (e_cons e_c e_nil)) ⟨s, c, 12, _, rfl, by decide, cl.up, h, fun so H s0 s1 h => ?_⟩))
    obtain ⟨z, hz⟩ : ∃ z : Int, z = (n : Int) := ⟨_, rfl⟩
    rw [← hz]
    have zn : (-1 : Int) < so → z = (n : Int) := fun _ => hz
    have zb : z.natAbs < 2 ^ 197 := by omega
    refine g_cut (fun σ H => ∃ z : Int, σ = [some (.ref s), some (.int z), some (.ref pp), some pr, some (.int so)] ∧ (0 < so → z = (n : Int)) ∧ z.natAbs < 2 ^ 197 ∧ sat (sto s c :: .rp (.ref pp) (.lst (dPs ps)) :: Fr) H) ?_ ?_
    · refine g_if1 (t_eqI (e_var rfl) e_c) (fun c0 => ?_) (fun c0 => ?_)
      · exact g_set (g_op (g_e (e_un e_c u_I) (g_call1 (e_cons (e_var rfl) (e_cons e_c e_nil)) ⟨s, c, 3, _, rfl, by decide, cl.up, h, fun u H u0 u1 h => g_r r_I0 ⟨_, rfl, fun y => by omega, by omega, h⟩⟩)))
      · exact g_next ⟨z, rfl, fun y => zn (by omega), zb, h⟩
    rintro σ H ⟨z, rfl, zn, zb, h⟩
    refine g_cut (fun σ H => ∃ z : Int, σ = [some (.ref s), some (.int z), some (.ref pp), some pr, some (.int so)] ∧ (1 < so → z = (n : Int)) ∧ z.natAbs < 2 ^ 197 ∧ sat (sto s c :: .rp (.ref pp) (.lst (dPs ps)) :: Fr) H) ?_ ?_
    · refine g_if1 (t_eqI (e_var rfl) e_c) (fun c0 => ?_) (fun c0 => ?_)
      · have z0 := zn (by omega)
        exact g_set1 (e_op (e_un (e_op e_c e_c (r_pow ⟨by decide, by decide, by decide⟩)) u_I) (e_var rfl) r_I0) ⟨_, rfl, fun y => by omega, by rw [e59]; omega, h⟩
      · exact g_next ⟨z, rfl, fun y => zn (by omega), zb, h⟩
    rintro σ H ⟨z, rfl, zn, zb, h⟩
    refine g_cut (fun σ H => ∃ z : Int, σ = [some (.ref s), some (.int z), some (.ref pp), some pr, some (.int so)] ∧ (2 < so → z = (n : Int)) ∧ z.natAbs < 2 ^ 197 ∧ sat (sto s c :: .rp (.ref pp) (.lst (dPs ps)) :: Fr) H) ?_ ?_
    · refine g_if1 (t_eqI (e_var rfl) e_c) (fun c0 => ?_) (fun c0 => ?_)
      · exact g_set1 e_c ⟨_, rfl, fun y => by omega, by decide, h⟩
      · exact g_next ⟨z, rfl, fun y => zn (by omega), zb, h⟩
    rintro σ H ⟨z, rfl, zn, zb, h⟩
    refine g_cut (fun σ H => ∃ z : Int, σ = [some (.ref s), some (.int z), some (.ref pp), some pr, some (.int so)] ∧ (3 < so → z = (n : Int)) ∧ z.natAbs < 2 ^ 197 ∧ sat (sto s c :: .rp (.ref pp) (.lst (dPs ps)) :: Fr) H) ?_ ?_
    · refine g_if1 (t_eqI (e_var rfl) e_c) (fun c0 => ?_) (fun c0 => ?_)
      · exact g_set (g_op (g_e e_c (g_call1 (e_cons (e_var rfl) (e_cons e_c e_nil)) ⟨s, c, 60, _, rfl, by decide, cl.up, h, fun u H u0 u1 h => g_r r_I0 ⟨_, rfl, fun y => by omega, by omega, h⟩⟩)))
      · exact g_next ⟨z, rfl, fun y => zn (by omega), zb, h⟩
    rintro σ H ⟨z, rfl, zn, zb, h⟩
    refine g_cut (fun σ H => ∃ z : Int, σ = [some (.ref s), some (.int z), some (.ref pp), some pr, some (.int so)] ∧ (4 < so → z = (n : Int)) ∧ z.natAbs < 2 ^ 197 ∧ sat (sto s c :: .rp (.ref pp) (.lst (dPs ps)) :: Fr) H) ?_ ?_
    · refine g_if1 (t_eqI (e_var rfl) e_c) (fun c0 => ?_) (fun c0 => ?_)
      · have z0 := zn (by omega)
        exact g_set1 (e_op (e_op e_c e_c (r_pow ⟨by decide, by decide, by decide⟩)) (e_var rfl) r_I0) ⟨_, rfl, fun y => by omega, by rw [e59]; omega, h⟩
      · exact g_next ⟨z, rfl, fun y => zn (by omega), zb, h⟩
    rintro σ H ⟨z, rfl, zn, zb, h⟩
    refine g_cut (fun σ H => ∃ (pp : Addr) (ps : Ps), σ = [some (.ref s), some (.int z), some (.ref pp), some pr, some (.int so)] ∧ Bd ps ∧ ps.length ≤ 311 ∧ sat (sto s c :: .rp (.ref pp) (.lst (dPs ps)) :: Fr) H) ?_ ?_
    · refine g_if (g_and ?_)
      refine t_I (e_var rfl) e_c _ (fun c0 => iteT ?_) (fun c0 => iteF (iteF (g_next ⟨pp, ps, rfl, hb, by omega, h⟩)))
      refine g_and ?_
      refine t_I (e_var rfl) e_c _ (fun c1 => iteT ?_) (fun c1 => iteF (iteF (g_next ⟨pp, ps, rfl, hb, by omega, h⟩)))
      refine g_T (g_op (g_call1 (e_cons (e_var rfl) (e_cons e_c e_nil)) ⟨s, c, 2, _, rfl, by decide, cl.up, h, fun u H _ _ h => g_e e_c (g_r r_eqI (g_dec (fun c2 => iteT ?_) (fun c2 => iteF (g_next ⟨pp, ps, rfl, hb, by omega, h⟩))))⟩))
      refine g_set (g_op (g_e (e_var rfl) (g_lst0 (g_acons (g_tup h (e_cons (e_op (e_var rfl) e_c r_I0) (e_cons e_c e_nil)) (EntA.cons Ent.v (EntA.cons Ent.v EntA.nil)) (sz 2 (by decide)) fun t1 H h => g_anil ?_)))))
      refine x_lst0 (ds := [dP (z - 1, 0)]) h (EntA.cons (.at 0) EntA.nil) (sz 1 (by decide)) fun l h => ?_
      refine x_catV h (.r 3) (.o 0) (by rw [dPs_len, sizeLine_eq]; show ps.length + 1 ≤ _; omega) fun p H h => ?_
      have h := (h.frz 0).pick [3, 0] 5
      refine ⟨p, ps ++ [(z - 1, 0)], rfl, hb.snoc (by omega) (by decide), by rw [List.length_append]; show ps.length + 1 ≤ _; omega, ?_⟩
      rw [← dPs_snoc]
      exact h
    rintro σ H ⟨pp, ps, rfl, hb, hl, h⟩
    refine g_cut (fun σ H => ∃ (pp : Addr) (ps : Ps), σ = [some (.ref s), some (.int z), some (.ref pp), some pr, some (.int so)] ∧ Bd ps ∧ ps.length ≤ 311 ∧ sat (sto s c :: .rp (.ref pp) (.lst (dPs ps)) :: Fr) H) ?_ ?_
    · refine g_if1 (t_eqI (e_var rfl) e_c) (fun c0 => ?_) (fun c0 => ?_)
      · have z0 := zn (by omega)
        subst z0
        refine g_set (g_call1 (e_cons (e_var rfl) (e_cons (e_var rfl) e_nil)) ⟨s, c, n, _, rfl, by omega, cl.up, h, fun p qs H hq hql h => ?_⟩)
        have h := (h.frz 1).pick [0, 1] 3
        exact ⟨p, qs, rfl, fun v hv => by have := hq v hv; omega, by omega, h⟩
      · exact g_next ⟨pp, ps, rfl, hb, by omega, h⟩
    rintro σ H ⟨pp, ps, rfl, hb, hl, h⟩
    refine g_cut (fun σ H => ∃ (pp : Addr) (ps : Ps), σ = [some (.ref s), some (.int z), some (.ref pp), some pr, some (.int so)] ∧ Bd ps ∧ ps.length ≤ 400 ∧ sat (sto s c :: .rp (.ref pp) (.lst (dPs ps)) :: Fr) H) ?_ ?_
    · refine g_if1 (t_and (t_eqI (e_var rfl) e_c) fun _ => t_I (e_cb (e_cons (e_var rfl) e_nil) (c_lenV h (.r 1))) e_c) (fun c0 => ?_) (fun c0 => ?_)
      · have lp := c0.2
        rw [dPs_len] at lp
        have k0 : 0 ≤ 400 / (ps.length : Int) := Int.ediv_nonneg (by decide) (by omega)
        have k1 : (400 / (ps.length : Int)) * (ps.length : Int) ≤ 400 := Int.ediv_mul_le _ (by omega)
        have k2 : 400 / (ps.length : Int) ≤ 400 := Int.ediv_le_self _ (by decide)
        have k3 : ps.length * (400 / (ps.length : Int)).toNat ≤ 400 := by
          have e : ((400 / (ps.length : Int)).toNat : Int) = 400 / (ps.length : Int) := Int.toNat_of_nonneg k0
          have : ((ps.length * (400 / (ps.length : Int)).toNat : Nat) : Int) ≤ 400 := by
            rw [Int.natCast_mul, e, Int.mul_comm]
            exact k1
          omega
        refine g_set (g_op (g_e (e_var rfl) (g_e (e_op e_c (e_cb (e_cons (e_var rfl) e_nil) (c_lenV h (.r 1))) (r_divW (by rw [dPs_len]; omega) (by rw [dPs_len]; omega))) ?_)))
        rw [dPs_len]
        refine x_repV h (.r 1) ⟨by omega, by omega⟩ (by rw [dPs_len, sizeLine_eq]; omega) fun p H h => ?_
        rw [dPs_reps] at h
        have h := (h.frz 0).pick [1, 0] 3
        refine ⟨p, _, rfl, hb.reps _, ?_, h⟩
        rw [List.length_flatten, List.map_replicate, List.sum_replicate_nat, Nat.mul_comm]
        exact k3
      · exact g_next ⟨pp, ps, rfl, hb, by omega, h⟩
    rintro σ H ⟨pp, ps, rfl, hb, hl, h⟩
    refine g_cut (fun σ H => ∃ (pp : Addr) (ps : Ps), σ = [some (.ref s), some (.int z), some (.ref pp), some pr, some (.int so)] ∧ Bd ps ∧ ps.length ≤ 404 ∧ sat (sto s c :: .rp (.ref pp) (.lst (dPs ps)) :: Fr) H) ?_ ?_
    · refine g_if (g_T (g_op (g_call1 (e_cons (e_var rfl) (e_cons e_c e_nil)) ⟨s, c, 2, _, rfl, by decide, cl.up, h, fun u H _ _ h => g_e e_c (g_r r_eqI (g_dec (fun c2 => iteT ?_) (fun c2 => iteF (g_next ⟨pp, ps, rfl, hb, by omega, h⟩))))⟩)))
      refine g_set (g_call1 (e_cons (e_var rfl) (e_cons (e_cb (e_cons (e_var rfl) (e_cons e_c e_nil)) c_max2) (e_cons (e_var rfl) e_nil))) ⟨s, c, pp, _, ps, _, rfl, by split <;> omega, by split <;> omega, .r 0, hb, by omega, cl.up, h, fun p qs H hq hql h => ?_⟩)
      have h := (h.frz 1).pick [0, 1] 3
      exact ⟨p, qs, rfl, hq, by omega, h⟩
    rintro σ H ⟨pp, ps, rfl, hb, hl, h⟩
    refine g_ret (g_tup0 (g_acons1 (e_var rfl) (g_acons ?_)))
    show (tSl _ _ _ _) _ H _
    refine (e_var (v := .ref pp) rfl) _ ?_
    refine (e_un e_c u_I) _ ⟨_, rfl, ?_⟩
    show tNoPart _ H _
    unfold tNoPart
    refine x_slV h (.r 1) fun i j p H h => ?_
    rw [dPs_cut] at h
    have h := h.frz 0
    refine g_anil (x_tup0 (ds := [dI z, .lst (dPs ((ps.drop i).take j))]) h (EntA.cons Ent.v (EntA.cons (.at 0) EntA.nil)) (sz 2 (by decide)) fun t h => ?_)
    exact q t z _ _ (by omega) (hb.cut i j) (by rw [List.length_take, List.length_drop]; omega) (h.pick [2, 0] 4)

end Law

namespace Law
open PySem PySem.Spec PyProof.Rows L2 Sat
open Evl (Ex)
open Wb
theorem ok_law_asked {P : Program} {w : World} {K : PySem.W.Frag} {mg : Str → Option Value} {base : Heap} {ad : Ad} (T : Tx K mg ad) (G_Web_ahead : Mtd P w K mg base 4 ad.Web "ahead" ["self", "a", "b"] (sp_Web_ahead ad)) (G_Web_beside : Mtd P w K mg base 4 ad.Web "beside" ["self", "a", "b"] (sp_Web_beside ad)) (KM_Web_ahead : ∀ (y : Value) (ws : List Value) (s' : Shared), ws.length = (["a", "b"] : List Str).length → BindsTo s' G_Web_ahead.fd ⟨[y], (["a", "b"] : List Str).zip ws⟩ ((["self", "a", "b"] : List Str).zip (y :: ws))) (KM_Web_beside : ∀ (y : Value) (ws : List Value) (s' : Shared), ws.length = (["a", "b"] : List Str).length → BindsTo s' G_Web_beside.fd ⟨[y], (["a", "b"] : List Str).zip ws⟩ ((["self", "a", "b"] : List Str).zip (y :: ws))) {f : Addr} {fd : FuncData} (F : Fun K "_law_asked" "_law_asked" s_law_asked f fd) : FnOk P w K mg base CX0 5 f fd ["net", "a", "b", "which"] (sp_law_asked ad) := by
  have nd := sc_law_asked.nd
  refine F.ok sc_law_asked (fun vs H Q E h => ?_) (fun cdv A outer s H vs Q E hr h => ?_)
  · exact sp_law_asked_len h
  · refine ⟨_, (pss_cons (ps_tryX rfl rfl nd takes0N (fun W pn xe tkB poB => (pss_one (ps_if (pt_cmpR op_eq (pv 3) pe_int (nomark _))
    (pss_one (ps_set (i := 4) nd rfl (.inl rfl) (pe_mS G_Web_ahead hr tkB (pv 0) (pa_cons (pv 1) (pa_cons (pv 2) pa_nil)))))
    (pss_one (ps_if (pt_cmpR op_eq (pv 3) pe_int (nomark _))
    (pss_one (ps_set (i := 4) nd rfl (.inl rfl) (pe_mS G_Web_beside hr tkB (pv 0) (pa_cons (pv 1) (pa_cons (pv 2) pa_nil)))))
    (pss_one (ps_if (pt_cmpR op_eq (pv 3) pe_int (nomark _))
    (pss_one (ps_set (i := 4) nd rfl (.inl rfl) (pe_mKS G_Web_ahead KM_Web_ahead hr tkB (pv 0) (pk_cons (pv 1) (pk_cons (pv 2) pk_nil)))))
    (pss_one (ps_set (i := 4) nd rfl (.inl rfl) (pe_mKS G_Web_beside KM_Web_beside hr tkB (pv 0) (pk_cons (pv 1) (pk_cons (pv 2) pk_nil))))))))))))
    (.named ⟨rfl, by decide, .inl T.x_BadDeed⟩ (i := 5) rfl rfl (fun a oe cls d pn hz hf => (pss_one (ps_ret (pe_tup (pa_cons pe_str (pa_cons (pe_xf T.f_BadDeed T.e_BadDeed hz.zc hf (pv 5)) pa_nil)))))) (.plain ⟨rfl, by decide, .inl T.x_WatchError⟩ (fun a oe cls d pn hz hf => (pss_one (ps_ret (pe_tup (pa_cons pe_str pa_nil))))) .nil)))
    (pss_one (ps_ret (pv 4)))), ?_⟩
    obtain ⟨n, s, M, a, b, w, Fr, rfl, hw, ha, hb, h, q⟩ := h
    refine g_seq (g_try ?_)
    refine g_if1 (t_eqI (e_var rfl) e_c) (fun c0 => ?_) (fun c0 => ?_)
    · obtain rfl : w = 0 := by omega
      exact g_set (g_methF h (.at 0) rfl (e_var rfl) (e_cons (e_var rfl) (e_cons (e_var rfl) e_nil)) ⟨n, s, M, a, b, Fr, rfl, ha, hb, h, fun v z d H' h => wx_yes T.h_BadDeed_BadDeed fun e _ => g_ret (g_tup (ds := [dS "BadDeed", dI v]) h (e_cons e_c (e_cons (e_xf (i := 0) h (e_var rfl) rfl) e_nil)) (EntA.cons Ent.v (EntA.cons Ent.v EntA.nil)) (sz 2 (by decide)) fun t H h => by rw [z] at q; exact q _ _ (h.pick [0, 2] 3)), fun z H' h => g_ret1 (e_var rfl) (by rw [z] at q; exact q _ _ (h.rp Ent.v))⟩)
    refine g_if1 (t_eqI (e_var rfl) e_c) (fun c1 => ?_) (fun c1 => ?_)
    · obtain rfl : w = 1 := by omega
      exact g_set (g_methF h (.at 0) rfl (e_var rfl) (e_cons (e_var rfl) (e_cons (e_var rfl) e_nil)) ⟨n, s, M, a, b, Fr, rfl, ha, hb, h, fun v z d H' h => wx_yes T.h_BadDeed_BadDeed fun e _ => g_ret (g_tup (ds := [dS "BadDeed", dI v]) h (e_cons e_c (e_cons (e_xf (i := 0) h (e_var rfl) rfl) e_nil)) (EntA.cons Ent.v (EntA.cons Ent.v EntA.nil)) (sz 2 (by decide)) fun t H h => by rw [z] at q; exact q _ _ (h.pick [0, 2] 3)), fun z H' h => g_ret1 (e_var rfl) (by rw [z] at q; exact q _ _ (h.rp Ent.v))⟩)
    refine g_if1 (t_eqI (e_var rfl) e_c) (fun c2 => ?_) (fun c2 => ?_)
    · obtain rfl : w = 2 := by omega
      exact g_set (g_methF h (.at 0) rfl (e_var rfl) (e_cons (e_var rfl) (e_cons (e_var rfl) e_nil)) ⟨n, s, M, a, b, Fr, rfl, ha, hb, h, fun v z d H' h => wx_yes T.h_BadDeed_BadDeed fun e _ => g_ret (g_tup (ds := [dS "BadDeed", dI v]) h (e_cons e_c (e_cons (e_xf (i := 0) h (e_var rfl) rfl) e_nil)) (EntA.cons Ent.v (EntA.cons Ent.v EntA.nil)) (sz 2 (by decide)) fun t H h => by rw [z] at q; exact q _ _ (h.pick [0, 2] 3)), fun z H' h => g_ret1 (e_var rfl) (by rw [z] at q; exact q _ _ (h.rp Ent.v))⟩)
    obtain rfl : w = 3 := by omega
    exact g_set (g_methF h (.at 0) rfl (e_var rfl) (e_cons (e_var rfl) (e_cons (e_var rfl) e_nil)) ⟨n, s, M, a, b, Fr, rfl, ha, hb, h, fun v z d H' h => wx_yes T.h_BadDeed_BadDeed fun e _ => g_ret (g_tup (ds := [dS "BadDeed", dI v]) h (e_cons e_c (e_cons (e_xf (i := 0) h (e_var rfl) rfl) e_nil)) (EntA.cons Ent.v (EntA.cons Ent.v EntA.nil)) (sz 2 (by decide)) fun t H h => by rw [z] at q; exact q _ _ (h.pick [0, 2] 3)), fun z H' h => g_ret1 (e_var rfl) (by rw [z] at q; exact q _ _ (h.rp Ent.v))⟩)

end Law

namespace Law
open PySem PySem.Spec PyProof.Rows L2 Sat
open Evl (Ex)
open Wb
theorem ok_law_made {P : Program} {w : World} {K : PySem.W.Frag} {mg : Str → Option Value} {base : Heap} {ad : Ad} (T : Tx K mg ad) (G_Web_init : Mkr P w K mg base 4 "Web" ad.Web ["self", "size", "pairs"] (sp_Web_init K ad)) (G_law_take : Cal P w K mg base CX0 1 "_law_take" ["store", "many"] (sp_law_take)) {ds1_Web_init : List Value} (B1_Web_init : Binds K G_Web_init.fd ["self", "size", "pairs"] ds1_Web_init) (V1_Web_init : Vals [V.ref ad.dflt] ds1_Web_init) (B2_Web_init : Binds K G_Web_init.fd ["self", "size", "pairs"] []) (V2_Web_init : Vals [] ([] : List Value)) (K_Web_init : ∀ (y : Value) (ws : List Value) (s' : Shared), K.In s'.heap → ws.length = (["size", "pairs"] : List Str).length → BindsTo s' G_Web_init.fd ⟨[y], (["size", "pairs"] : List Str).zip ws⟩ ((["self", "size", "pairs"] : List Str).zip (y :: ws))) {f : Addr} {fd : FuncData} (F : Fun K "_law_made" "_law_made" s_law_made f fd) : FnOk P w K mg base (L2N.CX P w) 6 f fd ["store", "size", "pairs"] (sp_law_made K ad) := by
  have nd := sc_law_made.nd
  refine F.okN sc_law_made (fun vs H Q E h => ?_) (fun cdv A outer s H vs Q E hr h => ?_)
  · exact sp_law_made_len h
  · refine ⟨_, (pss_cons (ps_set (i := 3) nd rfl (.inl rfl) (pe_f G_law_take hr (pa_cons (pv 0) (pa_cons pe_int pa_nil))))
    (pss_cons (ps_if (PW.pt (pw_and (pt_cmpR op_eq (pv 3) pe_int (nomark _)) (pw_and1 (pt_cmpR op_eq (pe_callB call_len' (by rfl) T.m_len (by decide +kernel) (pa_cons (pv 2) pa_nil)) pe_int (nomark _)))))
    (pss_one (ps_ret (pe_mkS G_Web_init B1_Web_init V1_Web_init hr (L2N.takes_of rfl rfl rfl rfl) (pa_cons (pv 1) pa_nil) (hl := fun _ _ _ _ h => sp_Web_init_len h))))
    pss_nil)
    (pss_cons (ps_if (pt_cmpR op_eq (pv 3) pe_int (nomark _))
    (pss_one (ps_ret (pe_mkS G_Web_init B2_Web_init V2_Web_init hr (L2N.takes_of rfl rfl rfl rfl) (pa_cons (pv 1) (pa_cons (pe_callTy call_tuple' (by rfl) T.m_tuple (by decide +kernel) (pa_cons (pv 2) pa_nil)) pa_nil)) (hl := fun _ _ _ _ h => sp_Web_init_len h))))
    pss_nil)
    (pss_one (ps_ret (pe_mkKS G_Web_init K_Web_init hr (L2N.takes_of rfl rfl rfl rfl) (pk_cons (pv 1) (pk_cons (pe_callTy call_list' (by rfl) T.m_list (by decide +kernel) (pa_cons (pv 2) pa_nil)) pk_nil)) (fun _ _ _ _ h => sp_Web_init_len h))))))), ?_⟩
    obtain ⟨s, c, a, n, ps, Fr, rfl, hn, hb, hl, w, cl, h, kr, kq⟩ := h
    refine g_seq (g_set (g_call1 (e_cons (e_var rfl) (e_cons e_c e_nil)) ⟨s, c, 3, Fr, rfl, by decide, cl, h, fun so H s0 s1 h => ?_⟩))
    refine g_seq (g_if1 (t_and (t_eqI (e_var rfl) e_c) fun _ => t_eqI (e_cb (e_cons (e_var rfl) e_nil) (c_lenV h w.up)) e_c) (fun c0 => ?_) (fun c0 => ?_))
    · have l0 := c0.2
      rw [dPs_len] at l0
      obtain rfl : ps = [] := List.length_eq_zero_iff.mp (by omega)
      refine g_ret (g_mk (g_a (e_cons (e_var rfl) e_nil) (x_mk h fun x H h => ?_)))
      exact ⟨n, x, ad.dflt, [], true, _, rfl, Sm.of198 hn, hb.sm, .k rfl T.d_dflt, h, fun cc f i z => kr cc f i z, fun z H h => ⟨rfl, kq z x _ (h.pick [1, 0] 2)⟩⟩
    refine g_next ?_
    refine g_seq (g_if1 (t_eqI (e_var rfl) e_c) (fun c1 => ?_) (fun c1 => ?_))
    · refine g_ret (g_mk (g_acons1 (e_var rfl) (g_acons (g_cb (g_acons1 (e_var rfl) (g_anil (x_tupleV h w.up fun t H h => g_anil (x_mk h fun x H h => ?_))))))))
      exact ⟨n, x, t, ps, true, _, rfl, Sm.of198 hn, hb.sm, .t 0 rfl, h, fun cc f i z d H' h => kr cc f i z d H' (h.pick [0, 2] 3), fun z H h => ⟨rfl, kq z x _ (h.pick [2, 0] 3)⟩⟩
    refine g_next ?_
    refine g_ret (g_mk (g_acons1 (e_var rfl) (g_acons (g_cb (g_acons1 (e_var rfl) (g_anil (x_listV h w.up fun t H h => g_anil (x_mk h fun x H h => ?_))))))))
    exact ⟨n, x, t, ps, false, _, rfl, Sm.of198 hn, hb.sm, .l (.o 0), h, fun cc f i z d H' h => kr cc f i z d H' (h.pick [0, 2] 3), fun z H h => ⟨rfl, kq z x _ (h.pick [2, 0] 3)⟩⟩

end Law

namespace Law
open PySem PySem.Spec PyProof.Rows L2 Sat
open Evl (Ex)
open Wb
theorem ok_law_kinds {P : Program} {w : World} {K : PySem.W.Frag} {mg : Str → Option Value} {base : Heap} {ad : Ad} (T : Tx K mg ad) (G_Web_init : Mkr P w K mg base 4 "Web" ad.Web ["self", "size", "pairs"] (sp_Web_init K ad)) (B2_Web_init : Binds K G_Web_init.fd ["self", "size", "pairs"] []) (V2_Web_init : Vals [] ([] : List Value)) {f : Addr} {fd : FuncData} (F : Fun K "_law_kinds" "_law_kinds" s_law_kinds f fd) : FnOk P w K mg base CX0 6 f fd ["size", "pairs"] (sp_law_kinds ad) := by
  have nd := sc_law_kinds.nd
  refine F.ok sc_law_kinds (fun vs H Q E h => ?_) (fun cdv A outer s H vs Q E hr h => ?_)
  · exact sp_law_kinds_len h
  · refine ⟨_, (pss_cons (ps_tryX rfl rfl nd takes0N (fun W pn xe tkB poB => (pss_one (ps_expr (pe_mkS G_Web_init B2_Web_init V2_Web_init hr tkB (pa_cons (pv 0) (pa_cons (pv 1) pa_nil)) (hl := fun _ _ _ _ h => sp_Web_init_len h)))))
    (.named ⟨rfl, by decide, .inl T.x_WatchError⟩ (i := 2) rfl rfl (fun a oe cls d pn hz hf => (pss_cons (ps_set (i := 3) nd rfl (.inl rfl) (pe_lst (pa_cons (pe_callB (call_isX hz hf) (by rfl) T.m_isinstance (by decide +kernel) (pa_cons (pv 2) (pa_cons (pe_glob (v := .ref ad.TooMany) rfl T.x_TooMany rfl) pa_nil))) (pa_cons (pe_callB (call_isX hz hf) (by rfl) T.m_isinstance (by decide +kernel) (pa_cons (pv 2) (pa_cons (pe_glob (v := .ref ad.BadDeed) rfl T.x_BadDeed rfl) pa_nil))) (pa_cons (pe_callB (call_isX hz hf) (by rfl) T.m_isinstance (by decide +kernel) (pa_cons (pv 2) (pa_cons (pe_glob (v := .ref ad.Ring) rfl T.x_Ring rfl) pa_nil))) (pa_cons (pe_callB (call_isX hz hf) (by rfl) T.m_isinstance (by decide +kernel) (pa_cons (pv 2) (pa_cons (pe_glob (v := .ref ad.BadOrder) rfl T.x_BadOrder rfl) pa_nil))) pa_nil))))))
    (pss_cons (ps_set (i := 4) nd rfl (.inl rfl) (pe_lst (pa_cons (pe_callB (call_isX hz hf) (by rfl) T.m_isinstance (by decide +kernel) (pa_cons (pv 2) (pa_cons (pe_glob (v := .ref ad.NotAhead) rfl T.x_NotAhead rfl) pa_nil))) (pa_cons (pe_callB (call_isX hz hf) (by rfl) T.m_isinstance (by decide +kernel) (pa_cons (pv 2) (pa_cons (pe_glob (v := .ref ad.BadFront) rfl T.x_BadFront rfl) pa_nil))) (pa_cons (pe_callB (call_isX hz hf) (by rfl) T.m_isinstance (by decide +kernel) (pa_cons (pv 2) (pa_cons (pe_glob (v := .ref ad.BadPlace) rfl T.x_BadPlace rfl) pa_nil))) (pa_cons (pe_callB (call_isX hz hf) (by rfl) T.m_isinstance (by decide +kernel) (pa_cons (pv 2) (pa_cons (pe_glob (v := .ref ad.BadText) rfl T.x_BadText rfl) pa_nil))) pa_nil))))))
    (pss_cons (ps_set (i := 5) nd rfl (.inl rfl) (pe_lst (pa_cons (pe_callB (call_isX hz hf) (by rfl) T.m_isinstance (by decide +kernel) (pa_cons (pv 2) (pa_cons (pe_glob (v := .ref ad.BadSize) rfl T.x_BadSize rfl) pa_nil))) (pa_cons (pe_callB (call_isX hz hf) (by rfl) T.m_isinstance (by decide +kernel) (pa_cons (pv 2) (pa_cons (pe_glob (v := .ref ad.BadLength) rfl T.x_BadLength rfl) pa_nil))) (pa_cons (pe_callB (call_isX hz hf) (by rfl) T.m_isinstance (by decide +kernel) (pa_cons (pv 2) (pa_cons (pe_glob (v := .ref ad.NotBeside) rfl T.x_NotBeside rfl) pa_nil))) (pa_cons (pe_callB (call_isX hz hf) (by rfl) T.m_isinstance (by decide +kernel) (pa_cons (pv 2) (pa_cons (pe_glob (v := .ref ad.BadTable) rfl T.x_BadTable rfl) pa_nil))) pa_nil))))))
    (pss_cons (ps_set (i := 6) nd rfl (.inl rfl) (pe_lst (pa_cons (pe_callB (call_isX hz hf) (by rfl) T.m_isinstance (by decide +kernel) (pa_cons (pv 2) (pa_cons (pe_glob (v := .ref ad.BadKind) rfl T.x_BadKind rfl) pa_nil))) (pa_cons (pe_callB (call_isX hz hf) (by rfl) T.m_isinstance (by decide +kernel) (pa_cons (pv 2) (pa_cons (pe_glob (v := .ref ad.BadCell) rfl T.x_BadCell rfl) pa_nil))) (pa_cons (pe_callB (call_isX hz hf) (by rfl) T.m_isinstance (by decide +kernel) (pa_cons (pv 2) (pa_cons (pe_glob (v := .ref ad.NotReadWrite) rfl T.x_NotReadWrite rfl) pa_nil))) pa_nil)))))
    (pss_cons (ps_set (i := 7) nd rfl (.inl rfl) (pe_lst (pa_cons (pe_callB (call_isX hz hf) (by rfl) T.m_isinstance (by decide +kernel) (pa_cons (pv 2) (pa_cons (pe_glob (v := .ref ad.BadProgram) rfl T.x_BadProgram rfl) pa_nil))) (pa_cons (pe_callB (call_isX hz hf) (by rfl) T.m_isinstance (by decide +kernel) (pa_cons (pv 2) (pa_cons (pe_glob (v := .ref ad.Twice) rfl T.x_Twice rfl) pa_nil))) (pa_cons (pe_callB (call_isX hz hf) (by rfl) T.m_isinstance (by decide +kernel) (pa_cons (pv 2) (pa_cons (pe_glob (v := .ref ad.NotMine) rfl T.x_NotMine rfl) pa_nil))) (pa_cons (pe_callB (call_isX hz hf) (by rfl) T.m_isinstance (by decide +kernel) (pa_cons (pv 2) (pa_cons (pe_glob (v := .ref ad.Unmet) rfl T.x_Unmet rfl) pa_nil))) pa_nil))))))
    (pss_cons (ps_set (i := 8) nd rfl (.inl rfl) (pe_lst (pa_cons (pe_callB (call_isX hz hf) (by rfl) T.m_isinstance (by decide +kernel) (pa_cons (pv 2) (pa_cons (pe_glob (v := .ref ad.NoTwoLines) rfl T.x_NoTwoLines rfl) pa_nil))) (pa_cons (pe_callB (call_isX hz hf) (by rfl) T.m_isinstance (by decide +kernel) (pa_cons (pv 2) (pa_cons (pe_glob (v := .ref ad.WrongSide) rfl T.x_WrongSide rfl) pa_nil))) (pa_cons (pe_callB (call_isX hz hf) (by rfl) T.m_isinstance (by decide +kernel) (pa_cons (pv 2) (pa_cons (pe_glob (v := .ref ad.BadLot) rfl T.x_BadLot rfl) pa_nil))) (pa_cons (pe_callB (call_isX hz hf) (by rfl) T.m_isinstance (by decide +kernel) (pa_cons (pv 2) (pa_cons (pe_glob (v := .ref ad.BadRule) rfl T.x_BadRule rfl) pa_nil))) pa_nil))))))
    (pss_cons (ps_set (i := 9) nd rfl (.inl rfl) (pe_lst (pa_cons (pe_callB (call_isX hz hf) (by rfl) T.m_isinstance (by decide +kernel) (pa_cons (pv 2) (pa_cons (pe_glob (v := .ref ad.NoCrown) rfl T.x_NoCrown rfl) pa_nil))) (pa_cons (pe_callB (call_isX hz hf) (by rfl) T.m_isinstance (by decide +kernel) (pa_cons (pv 2) (pa_cons (pe_glob (v := .ref ad.NoBook) rfl T.x_NoBook rfl) pa_nil))) (pa_cons (pe_callB (call_isX hz hf) (by rfl) T.m_isinstance (by decide +kernel) (pa_cons (pv 2) (pa_cons (pe_glob (v := .ref ad.NoEntry) rfl T.x_NoEntry rfl) pa_nil))) (pa_cons (pe_callB (call_isX hz hf) (by rfl) T.m_isinstance (by decide +kernel) (pa_cons (pv 2) (pa_cons (pe_glob (v := .ref ad.Done) rfl T.x_Done rfl) pa_nil))) pa_nil))))))
    (pss_cons (ps_set (i := 10) nd rfl (.inl rfl) (pe_lst (pa_cons (pe_callB (call_isX hz hf) (by rfl) T.m_isinstance (by decide +kernel) (pa_cons (pv 2) (pa_cons (pe_glob (v := .ref ad.BadMove) rfl T.x_BadMove rfl) pa_nil))) (pa_cons (pe_callB (call_isX hz hf) (by rfl) T.m_isinstance (by decide +kernel) (pa_cons (pv 2) (pa_cons (pe_glob (v := .ref ad.BadLanes) rfl T.x_BadLanes rfl) pa_nil))) (pa_cons (pe_callB (call_isX hz hf) (by rfl) T.m_isinstance (by decide +kernel) (pa_cons (pv 2) (pa_cons (pe_glob (v := .ref ad.NotTime) rfl T.x_NotTime rfl) pa_nil))) (pa_cons (pe_callB (call_isX hz hf) (by rfl) T.m_isinstance (by decide +kernel) (pa_cons (pv 2) (pa_cons (pe_glob (v := .ref ad.BadPromise) rfl T.x_BadPromise rfl) pa_nil))) pa_nil))))))
    (pss_cons (ps_set (i := 11) nd rfl (.inl rfl) (pe_lst (pa_cons (pe_callB (call_isX hz hf) (by rfl) T.m_isinstance (by decide +kernel) (pa_cons (pv 2) (pa_cons (pe_glob (v := .ref ad.NotNext) rfl T.x_NotNext rfl) pa_nil))) (pa_cons (pe_callB (call_isX hz hf) (by rfl) T.m_isinstance (by decide +kernel) (pa_cons (pv 2) (pa_cons (pe_glob (v := .ref ad.NotSingle) rfl T.x_NotSingle rfl) pa_nil))) (pa_cons (pe_callB (call_isX hz hf) (by rfl) T.m_isinstance (by decide +kernel) (pa_cons (pv 2) (pa_cons (pe_glob (v := .ref ad.Between) rfl T.x_Between rfl) pa_nil))) (pa_cons (pe_callB (call_isX hz hf) (by rfl) T.m_isinstance (by decide +kernel) (pa_cons (pv 2) (pa_cons (pe_glob (v := .ref ad.NotStep) rfl T.x_NotStep rfl) pa_nil))) pa_nil))))))
    (pss_cons (ps_set (i := 12) nd rfl (.inl rfl) (pe_lst (pa_cons (pe_callB (call_isX hz hf) (by rfl) T.m_isinstance (by decide +kernel) (pa_cons (pv 2) (pa_cons (pe_glob (v := .ref ad.NothingBack) rfl T.x_NothingBack rfl) pa_nil))) (pa_cons (pe_callB (call_isX hz hf) (by rfl) T.m_isinstance (by decide +kernel) (pa_cons (pv 2) (pa_cons (pe_glob (v := .ref ad.BadPaper) rfl T.x_BadPaper rfl) pa_nil))) (pa_cons (pe_callB (call_isX hz hf) (by rfl) T.m_isinstance (by decide +kernel) (pa_cons (pv 2) (pa_cons (pe_glob (v := .ref ad.BadLine) rfl T.x_BadLine rfl) pa_nil))) (pa_cons (pe_callB (call_isX hz hf) (by rfl) T.m_isinstance (by decide +kernel) (pa_cons (pv 2) (pa_cons (pe_glob (v := .ref ad.Strange) rfl T.x_Strange rfl) pa_nil))) pa_nil))))))
    (pss_cons (ps_set (i := 13) nd rfl (.inl rfl) (pe_op op_cat (pe_op op_cat (pe_op op_cat (pe_op op_cat (pe_op op_cat (pe_op op_cat (pe_op op_cat (pe_op op_cat (pe_op op_cat (pv 3) (pv 4)) (pv 5)) (pv 6)) (pv 7)) (pv 8)) (pv 9)) (pv 10)) (pv 11)) (pv 12)))
    (pss_one (ps_ret (pe_and (pe_callB (call_isX hz hf) (by rfl) T.m_isinstance (by decide +kernel) (pa_cons (pv 2) (pa_cons (pe_bltn (v := .ty "ValueError") (u := .type "ValueError") (by rfl) T.m_ValueError (by decide +kernel) rfl) pa_nil))) (pe_one (pe_cmpR op_eq (pe_callB (call_lenK (K := K) rfl) (by rfl) T.m_len (by decide +kernel) (pa_cons (pe_lcH (own := [("kind", 14)]) (K := K) rfl (hot_suite hz hf) nd (pv 13) (blkOk_by (own := [("kind", 14)]) (N := ["size", "pairs", "e", "one", "two", "three", "four", "five", "six", "seven", "eight", "nine", "ten", "kinds", "kind"]) (sc := defScope s_law_kinds) (by decide +kernel)) (fun _ _ _ _ _ => (pg_name (i := 14) nd rfl (.inl rfl))) (fun _ _ _ _ _ => pts_one (pt_val (pv 14))) (fun _ _ _ _ _ => (pv 14))) pa_nil)) pe_int (nomark _)))))))))))))))))) .nil))
    (pss_one (ps_ret pe_bl))), ?_⟩
    obtain ⟨a, n, ps, Fr, rfl, hn, hb, w, hk, h, q⟩ := h
    refine g_seq (g_try (g_drop (g_mk (g_a (e_cons (e_var rfl) (e_cons (e_var rfl) e_nil)) (x_mk h fun x H h => ⟨n, x, a, ps, false, _, rfl, Sm.of198 hn, hb.sm, .l w, h, fun cc f i z d H' h => ?_, fun z H' h => ?_⟩)))))
    rotate_left
    · rw [wfault_kf] at z
      cases e : kf n ps with
      | none => exact absurd e hk
      | some _ => rw [e] at z; cases z
    obtain ⟨iD, kk, one, kv, hw⟩ : ExcC K cc ∧ (∀ C ∈ KL ad, PySem.W.kitOne K (.ref cc) (.ref C) = some (decide (C = cc))) ∧ ((KL ad).filter fun C => decide (C = cc)).length = 1 ∧ PySem.W.kitOne K (.ref cc) (.type "ValueError") = some true ∧ PySem.W.exmOne K (.ref cc) (.ref ad.WatchError) = some true := by
      rw [wfault_kf] at z
      cases e : kf n ps with
      | none => exact absurd e hk
      | some kv =>
        obtain ⟨k, v⟩ := kv
        rw [e] at z
        cases z
        match k with
        | 0 => exact ⟨T.i_BadSize, T.kk_BadSize, T.one_BadSize, T.kv_BadSize, T.h_BadSize_WatchError⟩
        | 1 => exact ⟨T.i_BadDeed, T.kk_BadDeed, T.one_BadDeed, T.kv_BadDeed, T.h_BadDeed_WatchError⟩
        | 2 => exact ⟨T.i_TooMany, T.kk_TooMany, T.one_TooMany, T.kv_TooMany, T.h_TooMany_WatchError⟩
        | _ + 3 => exact ⟨T.i_Ring, T.kk_Ring, T.one_Ring, T.kv_Ring, T.h_Ring_WatchError⟩
    refine wx_yes hw fun e0 _ => ?_
    refine g_seq (g_set (g_lst (ds := (seg0 ad cc).map dB) h (e_cons (e_cb (e_cons (e_var rfl) (e_cons e_c e_nil)) (c_isE (i := 0) iD (kk ad.TooMany (List.mem_of_getElem? (i := 0) rfl)) h rfl)) (e_cons (e_cb (e_cons (e_var rfl) (e_cons e_c e_nil)) (c_isE (i := 0) iD (kk ad.BadDeed (List.mem_of_getElem? (i := 1) rfl)) h rfl)) (e_cons (e_cb (e_cons (e_var rfl) (e_cons e_c e_nil)) (c_isE (i := 0) iD (kk ad.Ring (List.mem_of_getElem? (i := 2) rfl)) h rfl)) (e_cons (e_cb (e_cons (e_var rfl) (e_cons e_c e_nil)) (c_isE (i := 0) iD (kk ad.BadOrder (List.mem_of_getElem? (i := 3) rfl)) h rfl)) e_nil)))) (EntA.cons Ent.v (EntA.cons Ent.v (EntA.cons Ent.v (EntA.cons Ent.v EntA.nil)))) (sz 4 (by decide)) fun p0 H h => ?_))
    refine g_seq (g_set (g_lst (ds := (seg1 ad cc).map dB) h (e_cons (e_cb (e_cons (e_var rfl) (e_cons e_c e_nil)) (c_isE (i := 1) iD (kk ad.NotAhead (List.mem_of_getElem? (i := 4) rfl)) h rfl)) (e_cons (e_cb (e_cons (e_var rfl) (e_cons e_c e_nil)) (c_isE (i := 1) iD (kk ad.BadFront (List.mem_of_getElem? (i := 5) rfl)) h rfl)) (e_cons (e_cb (e_cons (e_var rfl) (e_cons e_c e_nil)) (c_isE (i := 1) iD (kk ad.BadPlace (List.mem_of_getElem? (i := 6) rfl)) h rfl)) (e_cons (e_cb (e_cons (e_var rfl) (e_cons e_c e_nil)) (c_isE (i := 1) iD (kk ad.BadText (List.mem_of_getElem? (i := 7) rfl)) h rfl)) e_nil)))) (EntA.cons Ent.v (EntA.cons Ent.v (EntA.cons Ent.v (EntA.cons Ent.v EntA.nil)))) (sz 4 (by decide)) fun p1 H h => ?_))
    refine g_seq (g_set (g_lst (ds := (seg2 ad cc).map dB) h (e_cons (e_cb (e_cons (e_var rfl) (e_cons e_c e_nil)) (c_isE (i := 2) iD (kk ad.BadSize (List.mem_of_getElem? (i := 8) rfl)) h rfl)) (e_cons (e_cb (e_cons (e_var rfl) (e_cons e_c e_nil)) (c_isE (i := 2) iD (kk ad.BadLength (List.mem_of_getElem? (i := 9) rfl)) h rfl)) (e_cons (e_cb (e_cons (e_var rfl) (e_cons e_c e_nil)) (c_isE (i := 2) iD (kk ad.NotBeside (List.mem_of_getElem? (i := 10) rfl)) h rfl)) (e_cons (e_cb (e_cons (e_var rfl) (e_cons e_c e_nil)) (c_isE (i := 2) iD (kk ad.BadTable (List.mem_of_getElem? (i := 11) rfl)) h rfl)) e_nil)))) (EntA.cons Ent.v (EntA.cons Ent.v (EntA.cons Ent.v (EntA.cons Ent.v EntA.nil)))) (sz 4 (by decide)) fun p2 H h => ?_))
    refine g_seq (g_set (g_lst (ds := (seg3 ad cc).map dB) h (e_cons (e_cb (e_cons (e_var rfl) (e_cons e_c e_nil)) (c_isE (i := 3) iD (kk ad.BadKind (List.mem_of_getElem? (i := 12) rfl)) h rfl)) (e_cons (e_cb (e_cons (e_var rfl) (e_cons e_c e_nil)) (c_isE (i := 3) iD (kk ad.BadCell (List.mem_of_getElem? (i := 13) rfl)) h rfl)) (e_cons (e_cb (e_cons (e_var rfl) (e_cons e_c e_nil)) (c_isE (i := 3) iD (kk ad.NotReadWrite (List.mem_of_getElem? (i := 14) rfl)) h rfl)) e_nil))) (EntA.cons Ent.v (EntA.cons Ent.v (EntA.cons Ent.v EntA.nil))) (sz 3 (by decide)) fun p3 H h => ?_))
    refine g_seq (g_set (g_lst (ds := (seg4 ad cc).map dB) h (e_cons (e_cb (e_cons (e_var rfl) (e_cons e_c e_nil)) (c_isE (i := 4) iD (kk ad.BadProgram (List.mem_of_getElem? (i := 15) rfl)) h rfl)) (e_cons (e_cb (e_cons (e_var rfl) (e_cons e_c e_nil)) (c_isE (i := 4) iD (kk ad.Twice (List.mem_of_getElem? (i := 16) rfl)) h rfl)) (e_cons (e_cb (e_cons (e_var rfl) (e_cons e_c e_nil)) (c_isE (i := 4) iD (kk ad.NotMine (List.mem_of_getElem? (i := 17) rfl)) h rfl)) (e_cons (e_cb (e_cons (e_var rfl) (e_cons e_c e_nil)) (c_isE (i := 4) iD (kk ad.Unmet (List.mem_of_getElem? (i := 18) rfl)) h rfl)) e_nil)))) (EntA.cons Ent.v (EntA.cons Ent.v (EntA.cons Ent.v (EntA.cons Ent.v EntA.nil)))) (sz 4 (by decide)) fun p4 H h => ?_))
    refine g_seq (g_set (g_lst (ds := (seg5 ad cc).map dB) h (e_cons (e_cb (e_cons (e_var rfl) (e_cons e_c e_nil)) (c_isE (i := 5) iD (kk ad.NoTwoLines (List.mem_of_getElem? (i := 19) rfl)) h rfl)) (e_cons (e_cb (e_cons (e_var rfl) (e_cons e_c e_nil)) (c_isE (i := 5) iD (kk ad.WrongSide (List.mem_of_getElem? (i := 20) rfl)) h rfl)) (e_cons (e_cb (e_cons (e_var rfl) (e_cons e_c e_nil)) (c_isE (i := 5) iD (kk ad.BadLot (List.mem_of_getElem? (i := 21) rfl)) h rfl)) (e_cons (e_cb (e_cons (e_var rfl) (e_cons e_c e_nil)) (c_isE (i := 5) iD (kk ad.BadRule (List.mem_of_getElem? (i := 22) rfl)) h rfl)) e_nil)))) (EntA.cons Ent.v (EntA.cons Ent.v (EntA.cons Ent.v (EntA.cons Ent.v EntA.nil)))) (sz 4 (by decide)) fun p5 H h => ?_))
    refine g_seq (g_set (g_lst (ds := (seg6 ad cc).map dB) h (e_cons (e_cb (e_cons (e_var rfl) (e_cons e_c e_nil)) (c_isE (i := 6) iD (kk ad.NoCrown (List.mem_of_getElem? (i := 23) rfl)) h rfl)) (e_cons (e_cb (e_cons (e_var rfl) (e_cons e_c e_nil)) (c_isE (i := 6) iD (kk ad.NoBook (List.mem_of_getElem? (i := 24) rfl)) h rfl)) (e_cons (e_cb (e_cons (e_var rfl) (e_cons e_c e_nil)) (c_isE (i := 6) iD (kk ad.NoEntry (List.mem_of_getElem? (i := 25) rfl)) h rfl)) (e_cons (e_cb (e_cons (e_var rfl) (e_cons e_c e_nil)) (c_isE (i := 6) iD (kk ad.Done (List.mem_of_getElem? (i := 26) rfl)) h rfl)) e_nil)))) (EntA.cons Ent.v (EntA.cons Ent.v (EntA.cons Ent.v (EntA.cons Ent.v EntA.nil)))) (sz 4 (by decide)) fun p6 H h => ?_))
    refine g_seq (g_set (g_lst (ds := (seg7 ad cc).map dB) h (e_cons (e_cb (e_cons (e_var rfl) (e_cons e_c e_nil)) (c_isE (i := 7) iD (kk ad.BadMove (List.mem_of_getElem? (i := 27) rfl)) h rfl)) (e_cons (e_cb (e_cons (e_var rfl) (e_cons e_c e_nil)) (c_isE (i := 7) iD (kk ad.BadLanes (List.mem_of_getElem? (i := 28) rfl)) h rfl)) (e_cons (e_cb (e_cons (e_var rfl) (e_cons e_c e_nil)) (c_isE (i := 7) iD (kk ad.NotTime (List.mem_of_getElem? (i := 29) rfl)) h rfl)) (e_cons (e_cb (e_cons (e_var rfl) (e_cons e_c e_nil)) (c_isE (i := 7) iD (kk ad.BadPromise (List.mem_of_getElem? (i := 30) rfl)) h rfl)) e_nil)))) (EntA.cons Ent.v (EntA.cons Ent.v (EntA.cons Ent.v (EntA.cons Ent.v EntA.nil)))) (sz 4 (by decide)) fun p7 H h => ?_))
    refine g_seq (g_set (g_lst (ds := (seg8 ad cc).map dB) h (e_cons (e_cb (e_cons (e_var rfl) (e_cons e_c e_nil)) (c_isE (i := 8) iD (kk ad.NotNext (List.mem_of_getElem? (i := 31) rfl)) h rfl)) (e_cons (e_cb (e_cons (e_var rfl) (e_cons e_c e_nil)) (c_isE (i := 8) iD (kk ad.NotSingle (List.mem_of_getElem? (i := 32) rfl)) h rfl)) (e_cons (e_cb (e_cons (e_var rfl) (e_cons e_c e_nil)) (c_isE (i := 8) iD (kk ad.Between (List.mem_of_getElem? (i := 33) rfl)) h rfl)) (e_cons (e_cb (e_cons (e_var rfl) (e_cons e_c e_nil)) (c_isE (i := 8) iD (kk ad.NotStep (List.mem_of_getElem? (i := 34) rfl)) h rfl)) e_nil)))) (EntA.cons Ent.v (EntA.cons Ent.v (EntA.cons Ent.v (EntA.cons Ent.v EntA.nil)))) (sz 4 (by decide)) fun p8 H h => ?_))
    refine g_seq (g_set (g_lst (ds := (seg9 ad cc).map dB) h (e_cons (e_cb (e_cons (e_var rfl) (e_cons e_c e_nil)) (c_isE (i := 9) iD (kk ad.NothingBack (List.mem_of_getElem? (i := 35) rfl)) h rfl)) (e_cons (e_cb (e_cons (e_var rfl) (e_cons e_c e_nil)) (c_isE (i := 9) iD (kk ad.BadPaper (List.mem_of_getElem? (i := 36) rfl)) h rfl)) (e_cons (e_cb (e_cons (e_var rfl) (e_cons e_c e_nil)) (c_isE (i := 9) iD (kk ad.BadLine (List.mem_of_getElem? (i := 37) rfl)) h rfl)) (e_cons (e_cb (e_cons (e_var rfl) (e_cons e_c e_nil)) (c_isE (i := 9) iD (kk ad.Strange (List.mem_of_getElem? (i := 38) rfl)) h rfl)) e_nil)))) (EntA.cons Ent.v (EntA.cons Ent.v (EntA.cons Ent.v (EntA.cons Ent.v EntA.nil)))) (sz 4 (by decide)) fun p9 H h => ?_))
    refine g_word (fun σ H => ∃ (p0 p1 p2 p3 p4 p5 p6 p7 p8 p9 : Addr) (y0 y1 y13 y14 : Option V), σ = [y0, y1, some (.ref e0), some (.ref p0), some (.ref p1), some (.ref p2), some (.ref p3), some (.ref p4), some (.ref p5), some (.ref p6), some (.ref p7), some (.ref p8), some (.ref p9), y13, y14] ∧ sat (ol p0 ((seg0 ad cc).map dB) :: ol p1 ((seg1 ad cc).map dB) :: ol p2 ((seg2 ad cc).map dB) :: ol p3 ((seg3 ad cc).map dB) :: ol p4 ((seg4 ad cc).map dB) :: ol p5 ((seg5 ad cc).map dB) :: ol p6 ((seg6 ad cc).map dB) :: ol p7 ((seg7 ad cc).map dB) :: ol p8 ((seg8 ad cc).map dB) :: ol p9 ((seg9 ad cc).map dB) :: xo d f (.int i) :: Fr) H) ⟨p0, p1, p2, p3, p4, p5, p6, p7, p8, p9, _, _, _, _, rfl, h.pick [9, 8, 7, 6, 5, 4, 3, 2, 1, 0, 10] 11⟩ ?_
    rintro σ H ⟨p0, p1, p2, p3, p4, p5, p6, p7, p8, p9, y0, y1, y13, y14, rfl, h⟩
    refine g_seq (g_set (g_op (g_op (g_op (g_op (g_op (g_op (g_op (g_op (g_op (g_e (e_var rfl) (g_e (e_var rfl) ?_))))))))))))
    refine x_catV h (.o 0) (.o 1) (by rw [sizeLine_eq]; exact Nat.le_of_ble_eq_true rfl) fun q1 H h => ?_
    rw [← List.map_append] at h
    refine g_e (e_var rfl) ?_
    refine x_catV h (.o 0) (.o 3) (by rw [sizeLine_eq]; exact Nat.le_of_ble_eq_true rfl) fun q2 H h => ?_
    rw [← List.map_append] at h
    refine g_e (e_var rfl) ?_
    refine x_catV h (.o 0) (.o 5) (by rw [sizeLine_eq]; exact Nat.le_of_ble_eq_true rfl) fun q3 H h => ?_
    rw [← List.map_append] at h
    refine g_e (e_var rfl) ?_
    refine x_catV h (.o 0) (.o 7) (by rw [sizeLine_eq]; exact Nat.le_of_ble_eq_true rfl) fun q4 H h => ?_
    rw [← List.map_append] at h
    refine g_e (e_var rfl) ?_
    refine x_catV h (.o 0) (.o 9) (by rw [sizeLine_eq]; exact Nat.le_of_ble_eq_true rfl) fun q5 H h => ?_
    rw [← List.map_append] at h
    refine g_e (e_var rfl) ?_
    refine x_catV h (.o 0) (.o 11) (by rw [sizeLine_eq]; exact Nat.le_of_ble_eq_true rfl) fun q6 H h => ?_
    rw [← List.map_append] at h
    refine g_e (e_var rfl) ?_
    refine x_catV h (.o 0) (.o 13) (by rw [sizeLine_eq]; exact Nat.le_of_ble_eq_true rfl) fun q7 H h => ?_
    rw [← List.map_append] at h
    refine g_e (e_var rfl) ?_
    refine x_catV h (.o 0) (.o 15) (by rw [sizeLine_eq]; exact Nat.le_of_ble_eq_true rfl) fun q8 H h => ?_
    rw [← List.map_append] at h
    refine g_e (e_var rfl) ?_
    refine x_catV h (.o 0) (.o 17) (by rw [sizeLine_eq]; exact Nat.le_of_ble_eq_true rfl) fun q9 H h => ?_
    rw [← List.map_append] at h
    rw [seg_all] at h
    refine g_word (fun σ H => ∃ (q9 : Addr) (y0 y1 y3 y4 y5 y6 y7 y8 y9 y10 y11 y12 y14 : Option V), σ = [y0, y1, some (.ref e0), y3, y4, y5, y6, y7, y8, y9, y10, y11, y12, some (.ref q9), y14] ∧ sat (ol q9 (((KL ad).map fun C => decide (C = cc)).map dB) :: xo d f (.int i) :: Fr) H) ⟨q9, _, _, _, _, _, _, _, _, _, _, _, _, _, rfl, h.pick [0, 19] 20⟩ ?_
    rintro σ H ⟨q9, y0, y1, y3, y4, y5, y6, y7, y8, y9, y10, y11, y12, y14, rfl, h⟩
    refine g_ret (g_andV (g_e (e_cb (e_cons (e_var rfl) (e_cons e_c e_nil)) (c_isV (i := 1) iD kv h rfl)) ⟨true, rfl, ?_⟩))
    rw [if_pos rfl]
    refine g_op (g_cb (g_acons ?_))
    refine x_lcV h (.o 0) (e_var rfl) (fun Dl i H => sat (ol Dl (((((KL ad).map fun C => decide (C = cc)).take i).filter id).map dB) :: _ :: _) H) (fun Dl H1 h => h) (fun _ _ _ _ h => ⟨_, h, .o 1⟩) ?_ ?_
    · rintro Dl i d2 x2 H hd h hx
      obtain ⟨b, hb, rfl⟩ := getB hd
      obtain rfl := h.flat (hx h (.o 1))
      refine l_name rfl ?_
      refine l_if (t_val (e_var rfl)) (fun c => ?_) (fun c => ?_)
      · refine g_e (e_var rfl) ?_
        refine x_lcE (d := dB b) h 0 rfl Ent.v (by rw [List.length_map, sizeLine_eq]; have e1 := List.length_filter_le id (((KL ad).map fun C => decide (C = cc)).take i); have e2 : (((KL ad).map fun C => decide (C = cc)).take i).length ≤ ((KL ad).map fun C => decide (C = cc)).length := (by rw [List.length_take]; exact Nat.min_le_right _ _); have e3 : ((KL ad).map fun C => decide (C = cc)).length = 39 := rfl; omega) fun acc h => ?_
        refine (show sat (ol Dl (((((KL ad).map fun C => decide (C = cc)).take (i + 1)).filter id).map dB) :: _ :: _) _ from ?_)
        rw [takeS hb, List.filter_append, List.map_append]
        subst c
        exact h
      · refine (show sat (ol Dl (((((KL ad).map fun C => decide (C = cc)).take (i + 1)).filter id).map dB) :: _ :: _) _ from ?_)
        rw [takeS hb, List.filter_append, List.map_append]
        obtain rfl := Bool.eq_false_iff.mpr c
        show sat (ol Dl (_ ++ []) :: _) _
        rw [List.append_nil]
        exact h
    · rintro Dl H h
      rw [List.length_map, List.take_length] at h
      refine g_anil (g_c (c_lenV h (.o 0)) ?_)
      refine g_e e_c (g_r r_eqI ?_)
      have e : (((((KL ad).map fun C => decide (C = cc)).filter id).map dB).length : Int) = 1 := by
        rw [List.length_map, List.filter_map, List.length_map]
        exact congrArg Int.ofNat one
      rw [e]
      exact q _ (h.drop 3)

end Law

namespace Law
open PySem PySem.Spec PyProof.Rows L2 Sat
open Evl (Ex)
open Wb
theorem ok_law_net_right {P : Program} {w : World} {K : PySem.W.Frag} {mg : Str → Option Value} {base : Heap} {ad : Ad} (T : Tx K mg ad) (G_Web_ahead : Mtd P w K mg base 4 ad.Web "ahead" ["self", "a", "b"] (sp_Web_ahead ad)) (G_Web_beside : Mtd P w K mg base 4 ad.Web "beside" ["self", "a", "b"] (sp_Web_beside ad)) (G_law_same : Cal P w K mg base CX0 2 "_law_same" ["actual", "expected"] (sp_law_same)) (G_law_asked : Cal P w K mg base CX0 5 "_law_asked" ["net", "a", "b", "which"] (sp_law_asked ad)) (G_law_beside : Cal P w K mg base CX0 1 "_law_beside" ["rows", "a", "b"] (sp_law_beside)) {f : Addr} {fd : FuncData} (F : Fun K "_law_net_right" "_law_net_right" s_law_net_right f fd) : FnOk P w K mg base CX0 6 f fd ["net", "rows", "bad"] (sp_law_net_right ad) := by
  have nd := sc_law_net_right.nd
  refine F.ok sc_law_net_right (fun vs H Q E h => ?_) (fun cdv A outer s H vs Q E hr h => ?_)
  · exact sp_law_net_right_len h
  · refine ⟨_, (pss_cons (ps_if (PW.pt (pw_or (pt_not (pt_val (pe_callB call_isi (by rfl) T.m_isinstance (by decide +kernel) (pa_cons (pv 0) (pa_cons (pe_glob (v := .ref ad.Web) rfl T.x_Web rfl) pa_nil))))) (pw_or1 (pt_not (pt_val (pe_f G_law_same hr (pa_cons (pe_fld (pv 0) rfl) (pa_cons (pe_callB call_len' (by rfl) T.m_len (by decide +kernel) (pa_cons (pv 1) pa_nil)) pa_nil))))))))
    (pss_one (ps_ret pe_bl))
    pss_nil)
    (pss_cons (ps_for PassesOwn.never rfl (pi_range1 rfl T.m_range (pa_cons (pe_callB call_len' (by rfl) T.m_len (by decide +kernel) (pa_cons (pv 1) pa_nil)) pa_nil)) (pg_name (i := 3) nd rfl (.inr rfl))
    (pss_cons (ps_setLc (i := 4) (own := [("b", 8)]) (by rfl) nd rfl rfl (sw_true rfl rfl rfl (by decide +kernel)) (pi_range1 rfl T.m_range (pa_cons (pe_callB call_len' (by rfl) T.m_len (by decide +kernel) (pa_cons (pv 1) pa_nil)) pa_nil)) (blkOk_by (own := [("b", 8)]) (N := ["net", "rows", "bad", "a", "told", "sides", "which", "last", "b"]) (sc := defScope s_law_net_right) (by decide +kernel)) (fun _ _ _ _ _ => (pg_name (i := 8) nd rfl (.inl rfl))) (fun _ _ _ _ _ => pts_nil) (fun _ _ _ _ _ => (pe_mS G_Web_ahead hr takes0N (pv 0) (pa_cons (pv 3) (pa_cons (pv 8) pa_nil)))))
    (pss_cons (ps_setLc (i := 5) (own := [("b", 8)]) (by rfl) nd rfl rfl (sw_true rfl rfl rfl (by decide +kernel)) (pi_range1 rfl T.m_range (pa_cons (pe_callB call_len' (by rfl) T.m_len (by decide +kernel) (pa_cons (pv 1) pa_nil)) pa_nil)) (blkOk_by (own := [("b", 8)]) (N := ["net", "rows", "bad", "a", "told", "sides", "which", "last", "b"]) (sc := defScope s_law_net_right) (by decide +kernel)) (fun _ _ _ _ _ => (pg_name (i := 8) nd rfl (.inl rfl))) (fun _ _ _ _ _ => pts_nil) (fun _ _ _ _ _ => (pe_mS G_Web_beside hr takes0N (pv 0) (pa_cons (pv 3) (pa_cons (pv 8) pa_nil)))))
    (pss_cons (ps_if (pt_not (pt_val (pe_f G_law_same hr (pa_cons (pv 4) (pa_cons (pe_ix ix_list (pv 1) (pv 3) (fun _ _ => rfl)) pa_nil)))))
    (pss_one (ps_ret pe_bl))
    pss_nil)
    (pss_one (ps_if (pt_not (pt_val (pe_f G_law_same hr (pa_cons (pv 5) (pa_cons (pe_lc (own := [("b", 8)]) (by rfl) nd (pi_range1 rfl T.m_range (pa_cons (pe_callB call_len' (by rfl) T.m_len (by decide +kernel) (pa_cons (pv 1) pa_nil)) pa_nil)) (blkOk_by (own := [("b", 8)]) (N := ["net", "rows", "bad", "a", "told", "sides", "which", "last", "b"]) (sc := defScope s_law_net_right) (by decide +kernel)) (fun _ _ _ _ _ => (pg_name (i := 8) nd rfl (.inl rfl))) (fun _ _ _ _ _ => pts_nil) (fun _ _ _ _ _ => (pe_f G_law_beside hr (pa_cons (pv 1) (pa_cons (pv 3) (pa_cons (pv 8) pa_nil)))))) pa_nil)))))
    (pss_one (ps_ret pe_bl))
    pss_nil))))))
    (pss_cons (ps_for PassesOwn.never rfl (pi_range1 rfl T.m_range (pa_cons pe_int pa_nil)) (pg_name (i := 6) nd rfl (.inl rfl))
    (pss_cons (ps_if (pt_not (pt_val (pe_f G_law_same hr (pa_cons (pe_f G_law_asked hr (pa_cons (pv 0) (pa_cons (pe_ix ix_list (pv 2) pe_int (fun _ _ => rfl)) (pa_cons (pe_ix ix_list (pv 2) pe_int (fun _ _ => rfl)) (pa_cons (pv 6) pa_nil))))) (pa_cons (pe_tup (pa_cons pe_str (pa_cons (pe_ix ix_list (pv 2) pe_int (fun _ _ => rfl)) pa_nil))) pa_nil)))))
    (pss_one (ps_ret pe_bl))
    pss_nil)
    (pss_one (ps_if (pt_cmpR op_gt (pe_callB call_len' (by rfl) T.m_len (by decide +kernel) (pa_cons (pv 1) pa_nil)) pe_int (nomark _))
    (pss_cons (ps_set (i := 7) nd rfl (.inl rfl) (pe_op op_sub (pe_callB call_len' (by rfl) T.m_len (by decide +kernel) (pa_cons (pv 1) pa_nil)) pe_int))
    (pss_cons (ps_if (pt_not (pt_val (pe_f G_law_same hr (pa_cons (pe_f G_law_asked hr (pa_cons (pv 0) (pa_cons (pv 7) (pa_cons (pe_ix ix_list (pv 2) pe_int (fun _ _ => rfl)) (pa_cons (pv 6) pa_nil))))) (pa_cons (pe_tup (pa_cons pe_str (pa_cons (pe_ix ix_list (pv 2) pe_int (fun _ _ => rfl)) pa_nil))) pa_nil)))))
    (pss_one (ps_ret pe_bl))
    pss_nil)
    (pss_cons (ps_if (pt_not (pt_val (pe_f G_law_same hr (pa_cons (pe_f G_law_asked hr (pa_cons (pv 0) (pa_cons (pe_ix ix_list (pv 2) pe_int (fun _ _ => rfl)) (pa_cons (pv 7) (pa_cons (pv 6) pa_nil))))) (pa_cons (pe_tup (pa_cons pe_str (pa_cons (pe_ix ix_list (pv 2) pe_int (fun _ _ => rfl)) pa_nil))) pa_nil)))))
    (pss_one (ps_ret pe_bl))
    pss_nil)
    (pss_one (ps_if (pt_not (pt_val (pe_f G_law_same hr (pa_cons (pe_f G_law_asked hr (pa_cons (pv 0) (pa_cons pe_int (pa_cons (pv 7) (pa_cons (pv 6) pa_nil))))) (pa_cons (pe_ix ix_list (pe_lst (pa_cons (pe_ix ix_list (pe_ix ix_list (pv 1) pe_int (fun _ _ => rfl)) (pv 7) (fun _ _ => rfl)) (pa_cons (pe_f G_law_beside hr (pa_cons (pv 1) (pa_cons pe_int (pa_cons (pv 7) pa_nil)))) pa_nil))) (pe_op op_and (pv 6) pe_int) (fun _ _ => rfl)) pa_nil)))))
    (pss_one (ps_ret pe_bl))
    pss_nil)))))
    pss_nil))))
    (pss_one (ps_ret pe_bl))))), ?_⟩
    obtain ⟨n, a, r, b, M, u, v, Fr, rfl, hn, hu, hv, su, sv, h, q⟩ := h
    have ln := rowsL_len n M
    refine g_seq (g_if (g_or ?_))
    refine (t_not (t_val (e_cb (e_cons (e_var rfl) (e_cons e_c e_nil)) (c_isW T h (.at 0))))) _ (fun c => absurd rfl c) (fun _ => iteF ?_)
    refine g_not (g_B (g_call1 (e_cons (e_fldF h T.c_Web T.n_Web_size (.at 0) rfl (e_var rfl)) (e_cons (e_cb (e_cons (e_var rfl) e_nil) (c_lenV h (.r 1))) e_nil)) ?_))
    rw [ln]
    refine same_int h fun H h => ⟨_, rfl, iteF (g_next ?_)⟩
    refine g_seq (x_forR1 (e_cons (e_cb (e_cons (e_var rfl) e_nil) (c_lenV h (.r 1))) e_nil) ⟨by omega, by rw [ln]; omega⟩ (fun i σ H => ∃ y3 y4 y5 : Option V, σ = [some (.ref a), some (.ref r), some (.ref b), y3, y4, y5, none, none, none] ∧ sat (.rp (.ref a) (webD ad n M) :: .rp (.ref r) (.lst (rowsL n M)) :: .rp (.ref b) (.lst [dI u, dI v]) :: Fr) H) ⟨none, none, none, rfl, h⟩ ?_ ?_)
    · rintro i σ H hi ⟨y3, y4, y5, rfl, h⟩
      rw [ln] at hi
      have hi : i < n := by omega
      refine g_name ?_
      refine g_seq (g_set ?_)
      refine x_lcR1 h (e_cons (e_cb (e_cons (e_var rfl) e_nil) (c_lenV h (.r 1))) e_nil) ⟨by omega, by rw [ln]; omega⟩ (fun Dl j H => j ≤ n ∧ sat (ol Dl (rowB j (bitsOf M i)) :: .rp (.ref a) (webD ad n M) :: .rp (.ref r) (.lst (rowsL n M)) :: .rp (.ref b) (.lst [dI u, dI v]) :: Fr) H) (fun Dl H1 h => ⟨Nat.zero_le _, h⟩) ?_ ?_
      · rintro Dl j H hj ⟨_, h⟩
        rw [ln] at hj
        refine l_name rfl ?_
        refine l_yes ?_
        have h := h.pick [1, 0] 2
        have bn : bad2 n (i : Int) (j : Int) = none := bad2_n (by omega) (by omega) (by omega) (by omega)
        refine g_methF h (.at 0) rfl (e_var rfl) (e_cons (e_var rfl) (e_cons (e_var rfl) e_nil)) ⟨n, a, M, (i : Int), (j : Int), _, rfl, Sm.nat (by omega), Sm.nat (by omega), h, (by intro v z; rw [bn] at z; cases z), fun _ H h => ?_⟩
        have h := h.pick [1, 0] 2
        refine x_lcE (d := dB (isAhead M (i : Int) (j : Int))) h 0 rfl Ent.v (by rw [rowB_len, sizeLine_eq]; omega) fun acc h => ?_
        refine ⟨by omega, ?_⟩
        rw [rowB_succ, ← isAhead_B]
        exact h
      rintro Dl H ⟨_, h⟩
      rw [ln, Int.toNat_natCast] at h
      refine g_seq (g_set ?_)
      refine x_lcR1 h (e_cons (e_cb (e_cons (e_var rfl) e_nil) (c_lenV h (.r 2))) e_nil) ⟨by omega, by rw [ln]; omega⟩ (fun D2 j H => j ≤ n ∧ sat (ol D2 (rowB j (besideB M i)) :: ol Dl (rowB n (bitsOf M i)) :: .rp (.ref a) (webD ad n M) :: .rp (.ref r) (.lst (rowsL n M)) :: .rp (.ref b) (.lst [dI u, dI v]) :: Fr) H) (fun D2 H1 h => ⟨Nat.zero_le _, h⟩) ?_ ?_
      · rintro D2 j H hj ⟨_, h⟩
        rw [ln] at hj
        refine l_name rfl ?_
        refine l_yes ?_
        have h := h.pick [2, 0, 1] 3
        have bn : bad2 n (i : Int) (j : Int) = none := bad2_n (by omega) (by omega) (by omega) (by omega)
        refine g_methF h (.at 0) rfl (e_var rfl) (e_cons (e_var rfl) (e_cons (e_var rfl) e_nil)) ⟨n, a, M, (i : Int), (j : Int), _, rfl, Sm.nat (by omega), Sm.nat (by omega), h, (by intro v z; rw [bn] at z; cases z), fun _ H h => ?_⟩
        have h := h.pick [1, 2, 0] 3
        refine x_lcE (d := dB (isBeside n M (i : Int) (j : Int))) h 0 rfl Ent.v (by rw [rowB_len, sizeLine_eq]; omega) fun acc h => ?_
        refine ⟨by omega, ?_⟩
        rw [rowB_succ, ← isBeside_B (n := n) hi]
        exact h
      rintro D2 H ⟨_, h⟩
      rw [ln, Int.toNat_natCast] at h
      obtain ⟨x, ex, rx⟩ := x_ixF (K := K) h (.r 3) (rowsL_at hi)
      refine g_seq (g_if (g_not (g_B (g_call1 (e_cons (e_var rfl) (e_cons (e_op (e_var rfl) (e_var rfl) rx) e_nil)) (same_lst h (vw_rp h (.o 1)) (h.of ex) rowB_ok (by rw [rowB_len]; omega) fun H h => ⟨_, rfl, iteF (g_next ?_)⟩)))))
      refine g_if (g_not (g_B (g_call (g_acons1 (e_var rfl) (g_acons ?_)))))
      refine x_lcR1 h (e_cons (e_cb (e_cons (e_var rfl) e_nil) (c_lenV h (.r 3))) e_nil) ⟨by omega, by rw [ln]; omega⟩ (fun D3 j H => j ≤ n ∧ sat (ol D3 (rowB j (besideB M i)) :: ol D2 (rowB n (besideB M i)) :: ol Dl (rowB n (bitsOf M i)) :: .rp (.ref a) (webD ad n M) :: .rp (.ref r) (.lst (rowsL n M)) :: .rp (.ref b) (.lst [dI u, dI v]) :: Fr) H) (fun D3 H1 h => ⟨Nat.zero_le _, h⟩) ?_ ?_
      · rintro D3 j H hj ⟨_, h⟩
        rw [ln] at hj
        refine l_name rfl ?_
        refine l_yes ?_
        refine g_call1 (e_cons (e_var rfl) (e_cons (e_var rfl) (e_cons (e_var rfl) e_nil))) ⟨n, r, M, i, j, _, rfl, hi, by omega, .r 4, h, fun H h => ?_⟩
        refine x_lcE (d := dB (besideB M i j)) h 0 rfl Ent.v (by rw [rowB_len, sizeLine_eq]; omega) fun acc h => ?_
        refine ⟨by omega, ?_⟩
        rw [rowB_succ]
        exact h
      · rintro D3 H ⟨_, h⟩
        rw [ln, Int.toNat_natCast] at h
        exact g_anil (same_lst h (vw_rp h (.o 1)) (vw_rp h (.o 0)) rowB_ok (by rw [rowB_len]; omega) fun H h => ⟨_, rfl, iteF (g_next ⟨_, _, _, rfl, h.drop 3⟩)⟩)
    rintro σ H ⟨y3, y4, y5, rfl, h⟩
    refine g_seq (x_forR1 (e_cons e_c e_nil) ⟨by decide, by decide⟩ (fun w σ H => ∃ y6 y7 : Option V, σ = [some (.ref a), some (.ref r), some (.ref b), y3, y4, y5, y6, y7, none] ∧ sat (.rp (.ref a) (webD ad n M) :: .rp (.ref r) (.lst (rowsL n M)) :: .rp (.ref b) (.lst [dI u, dI v]) :: Fr) H) ⟨none, none, rfl, h⟩ ?_ ?_)
    · rintro w σ H hw ⟨y6, y7, rfl, h⟩
      have hw : w < 4 := by omega
      refine g_name ?_
      refine g_seq (g_if (g_not (g_B (g_call (g_acons (g_call1 (e_cons (e_var rfl) (e_cons (e_op (e_var rfl) e_c (r_ixV h (.r 2) (atI_at 0 rfl rfl))) (e_cons (e_op (e_var rfl) e_c (r_ixV h (.r 2) (atI_at 1 rfl rfl))) (e_cons (e_var rfl) e_nil)))) ⟨n, a, M, u, v, w, _, rfl, hw, su, sv, h, fun x H h => ?_⟩))))))
      rw [bad2_l hu] at h
      have h : sat (.rp x (.tup [dS "BadDeed", dI u]) :: .rp (.ref a) (webD ad n M) :: .rp (.ref r) (.lst (rowsL n M)) :: .rp (.ref b) (.lst [dI u, dI v]) :: Fr) H := h
      refine g_acons (g_tup h (e_cons e_c (e_cons (e_op (e_var rfl) e_c (r_ixV h (.r 3) (atI_at 0 rfl rfl))) e_nil)) (EntA.cons Ent.v (EntA.cons Ent.v EntA.nil)) (sz 2 (by decide)) fun t H h => g_anil (same_tup h (h.of (.at 1)) (h.of (.at 0)) (bdT_ok _) (show 2 ≤ 100000 by decide) fun H h => ⟨_, rfl, iteF (g_next ?_)⟩))
      have h := h.drop 2

      refine g_if1 (t_I (e_cb (e_cons (e_var rfl) e_nil) (c_lenV h (.r 1))) e_c) (fun c => ?_) (fun c => g_next ⟨_, _, rfl, h⟩)
      rw [ln] at c
      obtain ⟨m, rfl⟩ : ∃ m, n = m + 1 := ⟨n - 1, by omega⟩
      refine g_seq (g_set1 (e_op (e_cb (e_cons (e_var rfl) e_nil) (c_lenV h (.r 1))) e_c r_I0) ?_)
      have lm : ((rowsL (m + 1) M).length : Int) - 1 = (m : Int) := by rw [ln]; omega
      rw [lm]
      refine g_seq (g_if (g_not (g_B (g_call (g_acons (g_call1 (e_cons (e_var rfl) (e_cons (e_var rfl) (e_cons (e_op (e_var rfl) e_c (r_ixV h (.r 2) (atI_at 1 rfl rfl))) (e_cons (e_var rfl) e_nil)))) ⟨m + 1, a, M, (m : Int), v, w, _, rfl, hw, Sm.nat (by omega), sv, h, fun x H h => ?_⟩))))))
      rw [bad2_r (by omega) (by omega) hv] at h
      have h : sat (.rp x (.tup [dS "BadDeed", dI v]) :: .rp (.ref a) (webD ad (m + 1) M) :: .rp (.ref r) (.lst (rowsL (m + 1) M)) :: .rp (.ref b) (.lst [dI u, dI v]) :: Fr) H := h
      refine g_acons (g_tup h (e_cons e_c (e_cons (e_op (e_var rfl) e_c (r_ixV h (.r 3) (atI_at 1 rfl rfl))) e_nil)) (EntA.cons Ent.v (EntA.cons Ent.v EntA.nil)) (sz 2 (by decide)) fun t H h => g_anil (same_tup h (h.of (.at 1)) (h.of (.at 0)) (bdT_ok _) (show 2 ≤ 100000 by decide) fun H h => ⟨_, rfl, iteF (g_next ?_)⟩))
      have h := h.drop 2

      refine g_seq (g_if (g_not (g_B (g_call (g_acons (g_call1 (e_cons (e_var rfl) (e_cons (e_op (e_var rfl) e_c (r_ixV h (.r 2) (atI_at 1 rfl rfl))) (e_cons (e_var rfl) (e_cons (e_var rfl) e_nil)))) ⟨m + 1, a, M, v, (m : Int), w, _, rfl, hw, sv, Sm.nat (by omega), h, fun x H h => ?_⟩))))))
      rw [bad2_l hv] at h
      have h : sat (.rp x (.tup [dS "BadDeed", dI v]) :: .rp (.ref a) (webD ad (m + 1) M) :: .rp (.ref r) (.lst (rowsL (m + 1) M)) :: .rp (.ref b) (.lst [dI u, dI v]) :: Fr) H := h
      refine g_acons (g_tup h (e_cons e_c (e_cons (e_op (e_var rfl) e_c (r_ixV h (.r 3) (atI_at 1 rfl rfl))) e_nil)) (EntA.cons Ent.v (EntA.cons Ent.v EntA.nil)) (sz 2 (by decide)) fun t H h => g_anil (same_tup h (h.of (.at 1)) (h.of (.at 0)) (bdT_ok _) (show 2 ≤ 100000 by decide) fun H h => ⟨_, rfl, iteF (g_next ?_)⟩))
      have h := h.drop 2

      refine g_if (g_not (g_B (g_call (g_acons (g_call1 (e_cons (e_var rfl) (e_cons e_c (e_cons (e_var rfl) (e_cons (e_var rfl) e_nil)))) ⟨m + 1, a, M, ((0 : Nat) : Int), (m : Int), w, _, rfl, hw, Sm.nat (by omega), Sm.nat (by omega), h, fun x H h => ?_⟩)))))
      rw [bad2_n (by omega) (by omega) (by omega) (by omega)] at h
      have h : sat (.rp x (dB (if w % 2 = 0 then isAhead M ((0 : Nat) : Int) (m : Int) else isBeside (m + 1) M ((0 : Nat) : Int) (m : Int))) :: .rp (.ref a) (webD ad (m + 1) M) :: .rp (.ref r) (.lst (rowsL (m + 1) M)) :: .rp (.ref b) (.lst [dI u, dI v]) :: Fr) H := h
      obtain rfl := h.flat (.at 0)
      obtain ⟨x, r1, r2⟩ := rows_bit (K := K) h (.r 2) (show 0 < m + 1 by omega) (show m < m + 1 by omega)
      refine g_acons (g_op (g_lst0 (g_acons1 (e_op (e_op (e_var rfl) e_c r1) (e_var rfl) r2) (g_acons (g_call1 (e_cons (e_var rfl) (e_cons e_c (e_cons (e_var rfl) e_nil))) ⟨m + 1, r, M, 0, m, _, rfl, by omega, by omega, .r 2, h, fun H h => g_anil ?_⟩)))))
      refine x_lst0 (ds := [dB (bitsOf M 0 m), dB (besideB M 0 m)]) h (EntA.cons Ent.v (EntA.cons Ent.v EntA.nil)) (sz 2 (by decide)) fun l h => ?_
      refine g_e (e_op (e_var rfl) e_c r_I0) ?_
      have ix : atI [dB (bitsOf M 0 m), dB (besideB M 0 m)] (Builtin.bitAnd (w : Int) 1) = some (.v (.bl (if w % 2 = 0 then isAhead M ((0 : Nat) : Int) (m : Int) else isBeside (m + 1) M ((0 : Nat) : Int) (m : Int)))) := by
        rw [and_one, isAhead_B, isBeside_B (by omega)]
        by_cases z : w % 2 = 0
        · rw [if_pos z, z]; rfl
        · rw [if_neg z, show w % 2 = 1 by omega]; rfl
      refine g_r (r_ixV h (.o 0) ix) (g_anil (same_bl h fun H h => ⟨_, rfl, iteF (g_next ⟨_, _, rfl, h.drop 2⟩)⟩))
    rintro σ H ⟨y6, y7, rfl, h⟩
    exact g_ret1 e_c (q _ h)

end Law

namespace Law
open PySem PySem.Spec PyProof.Rows L2 Sat
open Evl (Ex)
open Wb
theorem ok_law_refused {P : Program} {w : World} {K : PySem.W.Frag} {mg : Str → Option Value} {base : Heap} {ad : Ad} (T : Tx K mg ad) (G_law_made : Cal P w K mg base (L2N.CX P w) 6 "_law_made" ["store", "size", "pairs"] (sp_law_made K ad)) {f : Addr} {fd : FuncData} (F : Fun K "_law_refused" "_law_refused" s_law_refused f fd) : FnOk P w K mg base CX0 7 f fd ["store", "size", "pairs"] (sp_law_refused ad) := by
  have nd := sc_law_refused.nd
  refine F.ok sc_law_refused (fun vs H Q E h => ?_) (fun cdv A outer s H vs Q E hr h => ?_)
  · exact sp_law_refused_len h
  · refine ⟨_, (pss_cons (ps_tryX rfl rfl nd takes0N (fun W pn xe tkB poB => (pss_one (ps_expr (pe_fS G_law_made hr tkB (pa_cons (pv 0) (pa_cons (pv 1) (pa_cons (pv 2) pa_nil)))))))
    (.named ⟨rfl, by decide, .inl T.x_BadSize⟩ (i := 3) rfl rfl (fun a oe cls d pn hz hf => (pss_one (ps_ret (pe_tup (pa_cons pe_str (pa_cons (pe_xf T.f_BadSize T.e_BadSize hz.zc hf (pv 3)) pa_nil)))))) (.named ⟨rfl, by decide, .inl T.x_BadDeed⟩ (i := 3) rfl rfl (fun a oe cls d pn hz hf => (pss_one (ps_ret (pe_tup (pa_cons pe_str (pa_cons (pe_xf T.f_BadDeed T.e_BadDeed hz.zc hf (pv 3)) pa_nil)))))) (.named ⟨rfl, by decide, .inl T.x_TooMany⟩ (i := 3) rfl rfl (fun a oe cls d pn hz hf => (pss_one (ps_ret (pe_tup (pa_cons pe_str (pa_cons (pe_xf T.f_TooMany T.e_TooMany hz.zc hf (pv 3)) pa_nil)))))) (.named ⟨rfl, by decide, .inl T.x_Ring⟩ (i := 3) rfl rfl (fun a oe cls d pn hz hf => (pss_one (ps_ret (pe_tup (pa_cons pe_str (pa_cons (pe_xf T.f_Ring T.e_Ring hz.zc hf (pv 3)) pa_nil)))))) (.plain ⟨rfl, by decide, .inl T.x_WatchError⟩ (fun a oe cls d pn hz hf => (pss_one (ps_ret (pe_tup (pa_cons pe_str pa_nil))))) .nil))))))
    (pss_one (ps_ret pe_non))), ?_⟩
    obtain ⟨s, c, a, n, ps, Fr, rfl, hn, hb, hl, w, cl, h, q⟩ := h
    refine g_seq (g_try (g_drop (g_callS1 (e_cons (e_var rfl) (e_cons (e_var rfl) (e_cons (e_var rfl) e_nil))) ⟨s, c, a, n, ps, Fr, rfl, hn, hb, hl, w, cl, h, fun cc f i z d H' h => ?_, fun z x H' h => ?_⟩)))
    · rw [wfault_kf] at z
      cases hk : kf n ps with
      | none => rw [hk] at z; cases z
      | some kv =>
        obtain ⟨k, v⟩ := kv
        rw [hk] at z q
        cases z
        match k, h, q with
        | 0, h, q =>
          refine wx_yes T.h_BadSize_BadSize fun a _ => ?_
          exact g_ret (g_tup (ds := [dS (nmK (0)), dI v]) h (e_cons e_c (e_cons (e_xf (i := 0) h (e_var rfl) rfl) e_nil)) (EntA.cons Ent.v (EntA.cons Ent.v EntA.nil)) (sz 2 (by decide)) fun t H h => q _ _ (h.pick [2, 0] 3))
        | 1, h, q =>
          refine wx_no T.h_BadDeed_BadSize (wx_yes T.h_BadDeed_BadDeed fun a _ => ?_)
          exact g_ret (g_tup (ds := [dS (nmK (1)), dI v]) h (e_cons e_c (e_cons (e_xf (i := 0) h (e_var rfl) rfl) e_nil)) (EntA.cons Ent.v (EntA.cons Ent.v EntA.nil)) (sz 2 (by decide)) fun t H h => q _ _ (h.pick [2, 0] 3))
        | 2, h, q =>
          refine wx_no T.h_TooMany_BadSize (wx_no T.h_TooMany_BadDeed (wx_yes T.h_TooMany_TooMany fun a _ => ?_))
          exact g_ret (g_tup (ds := [dS (nmK (2)), dI v]) h (e_cons e_c (e_cons (e_xf (i := 0) h (e_var rfl) rfl) e_nil)) (EntA.cons Ent.v (EntA.cons Ent.v EntA.nil)) (sz 2 (by decide)) fun t H h => q _ _ (h.pick [2, 0] 3))
        | k + 3, h, q =>
          refine wx_no T.h_Ring_BadSize (wx_no T.h_Ring_BadDeed (wx_no T.h_Ring_TooMany (wx_yes T.h_Ring_Ring fun a _ => ?_)))
          exact g_ret (g_tup (ds := [dS (nmK (k + 3)), dI v]) h (e_cons e_c (e_cons (e_xf (i := 0) h (e_var rfl) rfl) e_nil)) (EntA.cons Ent.v (EntA.cons Ent.v EntA.nil)) (sz 2 (by decide)) fun t H h => q _ _ (h.pick [2, 0] 3))
    · rw [wfault_kf] at z
      cases hk : kf n ps with
      | some kv => rw [hk] at z; cases z
      | none =>
        rw [hk] at q
        exact g_ret1 e_c (q _ _ (((h.pick [0] 2).rp Ent.v).pick [1, 0] 2))

end Law

namespace Law
open PySem PySem.Spec PyProof.Rows L2 Sat
open Evl (Ex)
open Wb
theorem ok_law {P : Program} {w : World} {K : PySem.W.Frag} {mg : Str → Option Value} {base : Heap} {ad : Ad} (T : Tx K mg ad) (G_Web_init : Mkr P w K mg base 4 "Web" ad.Web ["self", "size", "pairs"] (sp_Web_init K ad)) (G_law_store : Cal P w K mg base CX0 1 "_law_store" ["script"] (sp_law_store K)) (G_law_net_right : Cal P w K mg base CX0 6 "_law_net_right" ["net", "rows", "bad"] (sp_law_net_right ad)) (G_law_question : Cal P w K mg base CX0 5 "_law_question" ["store"] (sp_law_question)) (G_law_web_fault : Cal P w K mg base CX0 2 "_law_web_fault" ["size", "pairs"] (sp_law_web_fault)) (G_law_same : Cal P w K mg base CX0 2 "_law_same" ["actual", "expected"] (sp_law_same)) (G_law_closure : Cal P w K mg base CX0 1 "_law_closure" ["size", "pairs"] (sp_law_closure)) (G_law_refused : Cal P w K mg base CX0 7 "_law_refused" ["store", "size", "pairs"] (sp_law_refused ad)) (G_law_beyond : Cal P w K mg base CX0 2 "_law_beyond" ["store", "size"] (sp_law_beyond)) (G_law_kinds : Cal P w K mg base CX0 6 "_law_kinds" ["size", "pairs"] (sp_law_kinds ad)) {ds1_Web_init : List Value} (B1_Web_init : Binds K G_Web_init.fd ["self", "size", "pairs"] ds1_Web_init) (V1_Web_init : Vals [V.ref ad.dflt] ds1_Web_init) (B2_Web_init : Binds K G_Web_init.fd ["self", "size", "pairs"] []) (V2_Web_init : Vals [] ([] : List Value)) {f : Addr} {fd : FuncData} (F : Fun K "law" "law" s_law f fd) : FnOk P w K mg base CX0 8 f fd ["script"] (sp_law K ad) := by
  have nd := sc_law.nd
  refine F.ok sc_law (fun vs H Q E h => ?_) (fun cdv A outer s H vs Q E hr h => ?_)
  · exact sp_law_len h
  · refine ⟨_, (pss_cons (ps_set (i := 1) nd rfl (.inl rfl) (pe_f G_law_store hr (pa_cons (pv 0) pa_nil)))
    (pss_cons (ps_set (i := 2) nd rfl (.inl rfl) pe_non)
    (pss_cons (ps_set (i := 3) nd rfl (.inl rfl) (pe_lst pa_nil))
    (pss_cons (ps_for PassesOwn.never rfl (pi_range1 rfl T.m_range (pa_cons pe_int pa_nil)) (pg_name (i := 4) nd rfl (.inl rfl))
    (pss_cons (ps_asg (pe_f G_law_question hr (pa_cons (pv 1) pa_nil)) (pg_tup rfl (pgs_cons (pg_name (i := 5) nd rfl (.inl rfl)) (pgs_cons (pg_name (i := 6) nd rfl (.inl rfl)) pgs_nil))))
    (pss_cons (ps_set (i := 7) nd rfl (.inl rfl) (pe_f G_law_web_fault hr (pa_cons (pv 5) (pa_cons (pv 6) pa_nil))))
    (pss_cons (ps_set (i := 8) nd rfl (.inl rfl) (pe_callTy call_list' (by rfl) T.m_list (by decide +kernel) (pa_cons (pv 6) pa_nil)))
    (pss_cons (ps_if (pt_not (pt_val (pe_f G_law_same hr (pa_cons (pe_f G_law_refused hr (pa_cons (pv 1) (pa_cons (pv 5) (pa_cons (pv 6) pa_nil)))) (pa_cons (pv 7) pa_nil)))))
    (pss_one (ps_ret pe_bl))
    pss_nil)
    (pss_cons (ps_if (PW.pt (pw_and (pt_cmpR op_notN' (pv 7) pe_non (nomark _)) (pw_and1 (PW.pt (pw_or (pt_not (pt_val (pe_f G_law_kinds hr (pa_cons (pv 5) (pa_cons (pv 8) pa_nil))))) (pw_or1 (pt_not (pt_val (pe_f G_law_same hr (pa_cons (pv 8) (pa_cons (pv 6) pa_nil)))))))))))
    (pss_one (ps_ret pe_bl))
    pss_nil)
    (pss_one (ps_if (pt_cmpR op_isN' (pv 7) pe_non (nomark _))
    (pss_cons (ps_set (i := 9) nd rfl (.inl rfl) (pe_mkS G_Web_init B2_Web_init V2_Web_init hr takes0N (pa_cons (pv 5) (pa_cons (pv 8) pa_nil)) (hl := fun _ _ _ _ h => sp_Web_init_len h)))
    (pss_cons (ps_if (pt_not (pt_val (pe_f G_law_same hr (pa_cons (pv 8) (pa_cons (pv 6) pa_nil)))))
    (pss_one (ps_ret pe_bl))
    pss_nil)
    (pss_cons (ps_expr (pe_bm PySem.F.plainAttrs_list PySem.F.slot_list_append PySem.F.type_list_append mt_append (pv 8) (pa_cons (pe_tup (pa_cons pe_int (pa_cons pe_int pa_nil))) pa_nil)))
    (pss_cons (ps_expr (pe_bm0 PySem.F.plainAttrs_list PySem.F.slot_list_reverse PySem.F.type_list_reverse mt_reverse (pv 8)))
    (pss_cons (ps_set (i := 10) nd rfl (.inl rfl) (pe_f G_law_closure hr (pa_cons (pv 5) (pa_cons (pv 6) pa_nil))))
    (pss_cons (ps_set (i := 11) nd rfl (.inl rfl) (pe_lst (pa_cons (pe_f G_law_beyond hr (pa_cons (pv 1) (pa_cons (pv 5) pa_nil))) (pa_cons (pe_f G_law_beyond hr (pa_cons (pv 1) (pa_cons (pv 5) pa_nil))) pa_nil))))
    (pss_cons (ps_if (pt_not (pt_val (pe_f G_law_net_right hr (pa_cons (pv 9) (pa_cons (pv 10) (pa_cons (pv 11) pa_nil))))))
    (pss_one (ps_ret pe_bl))
    pss_nil)
    (pss_cons (ps_if (PW.pt (pw_and (pt_cmpR op_notN' (pv 2) pe_non (nomark _)) (pw_and1 (pt_not (pt_val (pe_f G_law_net_right hr (pa_cons (pv 2) (pa_cons (pv 3) (pa_cons (pe_lst (pa_cons (pe_un un_neg pe_int) (pa_cons (pe_callB call_len' (by rfl) T.m_len (by decide +kernel) (pa_cons (pv 3) pa_nil)) pa_nil))) pa_nil)))))))))
    (pss_one (ps_ret pe_bl))
    pss_nil)
    (pss_cons (ps_set (i := 2) nd rfl (.inl rfl) (pv 9))
    (pss_one (ps_set (i := 3) nd rfl (.inl rfl) (pv 10))))))))))))
    pss_nil))))))))
    (pss_one (ps_ret (pe_f G_law_net_right hr (pa_cons (pe_mkS G_Web_init B1_Web_init V1_Web_init hr takes0N (pa_cons pe_int pa_nil) (hl := fun _ _ _ _ h => sp_Web_init_len h)) (pa_cons (pe_lst pa_nil) (pa_cons (pe_lst (pa_cons pe_int (pa_cons (pe_un un_neg pe_int) pa_nil))) pa_nil)))))))))), ?_⟩
    obtain ⟨a, ns, rfl, hS, hl, q⟩ := h
    refine g_seq (g_set (g_call1 (e_cons (e_var rfl) e_nil) ⟨a, ns, rfl, hS, hl, fun s c H h => ?_⟩))
    have cl : Cl [ol c (ns.map dI)] c := ⟨ns, .o 0⟩
    refine g_seq (g_set1 e_c ?_)
    refine g_seq (g_set (g_lst0 (g_anil (x_lst0 (ds := []) h EntA.nil (sz 0 (by decide)) fun e0 h => ?_))))
    have h := h.drop 1
    refine g_seq (x_forR1 (e_cons e_c e_nil) ⟨by decide, by decide⟩ (fun i σ H => ∃ (el er : V) (Fr : List Sat.A) (y4 y5 y6 y7 y8 y9 y10 y11 : Option V), σ = [some (.ref a), some (.ref s), some el, some er, y4, y5, y6, y7, y8, y9, y10, y11] ∧ Eld ad el er Fr ∧ Cl Fr c ∧ sat (sto s c :: Fr) H) ⟨.non, .ref e0, _, none, none, none, none, none, none, none, none, rfl, .inl rfl, cl, h⟩ ?_ ?_)
    · rintro i σ H hi ⟨el, er, Fr, y4, y5, y6, y7, y8, y9, y10, y11, rfl, he, cl, h⟩
      refine g_name ?_
      refine g_seq (g_asg (g_call1 (e_cons (e_var rfl) e_nil) ⟨s, c, Fr, rfl, cl, h, fun t n ps H hn hb hl h => ?_⟩))
      refine g_duo h (.at 1) fun pv hp => ?_
      obtain ⟨pp, rfl⟩ := lst_ref (h.of hp)
      have h := (h.rp hp).pick [1, 0] 3
      refine g_seq (g_set (g_call1 (e_cons (e_var rfl) (e_cons (e_var rfl) e_nil)) ⟨pp, n, ps, _, rfl, .r 1, h, fun x H h => ?_⟩))
      have h := h.pick [1, 0] 2
      refine g_seq (g_set (g_cb (g_acons1 (e_var rfl) (g_anil (x_listV h (.r 2) fun hd H h => ?_)))))
      have h := h.pick [1, 0] 2
      refine g_seq (g_if (g_not (g_B (g_call (g_acons (g_call1 (e_cons (e_var rfl) (e_cons (e_var rfl) (e_cons (e_var rfl) e_nil))) ⟨s, c, pp, n, ps, _, rfl, hn, hb, hl, .r 2, cl.up.up.up, h, fun y H h => ?_⟩))))))
      refine g_acons1 (e_var rfl) (g_anil (same_due h (h.of (.at 1)) (h.of (.at 3)) fun H h => ⟨_, rfl, iteF (g_next ?_)⟩))
      have h := h.pick [0, 2, 3, 4] 5
      cases hk : kf n ps with
      | some kv =>
        have hx : x ≠ .non := fun z => by
          have r := h.of (.at 2)
          rw [hk, z] at r
          cases r
        refine g_seq (g_if (g_and ?_))
        refine t_notN (e_var rfl) _ (fun _ => iteT ?_) (fun z => absurd hx z)
        refine g_or ?_
        refine g_not (g_B (g_call1 (e_cons (e_var rfl) (e_cons (e_var rfl) e_nil)) ⟨hd, n, ps, _, rfl, hn, hb, .o 1, (by rw [hk]; exact fun z => (nomatch z)), h, fun H h => ⟨_, rfl, iteF ?_⟩⟩))
        refine g_not (g_B (g_call1 (e_cons (e_var rfl) (e_cons (e_var rfl) e_nil)) (same_ps h (vw_rp h (.o 1)) (h.of (.at 3)) hl fun H h => ⟨_, rfl, iteF (g_next ?_)⟩)))
        refine g_if1 (t_isN (e_var rfl)) (fun z => absurd z hx) (fun _ => g_next ⟨el, er, Fr, _, _, _, _, _, _, _, _, rfl, he, cl, h.pick [0] 4⟩)
      | none =>
        obtain rfl : x = .non := by
          have r := h.of (.at 2)
          rw [hk] at r
          exact r.flat
        obtain ⟨wn, m, rfl, hm, hin⟩ := kf_none (ad := ad) hk
        refine g_seq (g_if (g_and ?_))
        refine t_notN (e_var rfl) _ (fun z => absurd rfl z) (fun _ => iteF (iteF (g_next ?_)))
        refine g_if1 (t_isN (e_var rfl)) (fun _ => ?_) (fun z => absurd rfl z)
        refine g_seq (g_set (g_mk (g_a (e_cons (e_var rfl) (e_cons (e_var rfl) e_nil)) (x_mk h fun w H h => ⟨(m : Int), w, hd, ps, false, _, rfl, Sm.of198 hn, hb.sm, .l (.o 1), h, (by intro _ _ _ z; rw [wn] at z; cases z), fun _ H h => ⟨rfl, ?_⟩⟩))))
        rw [Int.toNat_natCast] at h
        refine g_seq (g_if (g_not (g_B (g_call1 (e_cons (e_var rfl) (e_cons (e_var rfl) e_nil)) (same_ps h (vw_rp h (.o 2)) (h.of (.at 4)) hl fun H h => ⟨_, rfl, iteF (g_next ?_)⟩)))))
        refine g_seq (g_drop (g_appP h 2 rfl (e_var rfl) e_c e_c (sl300 (by omega)) fun H h => ?_))
        refine g_seq (g_drop (g_bm0 (e_var rfl) (tyO h 2) (x_rev h 2 rfl fun H h => ?_)))
        have h := h.pick [1, 0, 4] 5
        refine g_seq (g_set (g_call1 (e_cons (e_var rfl) (e_cons (e_var rfl) e_nil)) ⟨m, pp, ps, _, rfl, hm, hin, .r 2, h, fun r H h => ?_⟩))
        have h : sat (sto s c :: .rp (.ref w) (webD ad m (clTo ps m)) :: .rp (.ref r) (.lst (rowsL m (clTo ps m))) :: Fr) H := h.pick [1, 2, 0] 4
        refine g_seq (g_set (g_lst0 (g_acons (g_call1 (e_cons (e_var rfl) (e_cons (e_var rfl) e_nil)) ⟨s, c, (m : Int), _, rfl, by omega, by omega, cl.up.up, h, fun u H hu u1 h => ?_⟩))))
        refine g_acons (g_call1 (e_cons (e_var rfl) (e_cons (e_var rfl) e_nil)) ⟨s, c, (m : Int), _, rfl, by omega, by omega, cl.up.up, h, fun v H hv v1 h => g_anil ?_⟩)
        refine x_lst0 (ds := [dI u, dI v]) h (EntA.cons Ent.v (EntA.cons Ent.v EntA.nil)) (sz 2 (by decide)) fun b h => ?_
        have su : Sm u := Nat.lt_of_lt_of_le u1 (Nat.pow_le_pow_right (by decide) (by decide))
        have sv : Sm v := Nat.lt_of_lt_of_le v1 (Nat.pow_le_pow_right (by decide) (by decide))
        refine g_seq (g_if (g_not (g_B (g_call1 (e_cons (e_var rfl) (e_cons (e_var rfl) (e_cons (e_var rfl) e_nil))) (nr_any h hm hu hv su sv (h.of (.at 2)) (h.of (.at 3)) (vw_rp h (.o 0)) fun H h => ⟨_, rfl, iteF (g_next ?_)⟩)))))
        have h := h.drop 1
        have fin : ∀ H, sat (sto s c :: .rp (.ref w) (webD ad m (clTo ps m)) :: .rp (.ref r) (.lst (rowsL m (clTo ps m))) :: Fr) H → ∃ (el er : V) (Fr : List Sat.A) (y4 y5 y6 y7 y8 y9 y10 y11 : Option V), ([some (.ref a), some (.ref s), some (.ref w), some (.ref r), some (.int (i : Int)), some (.int (m : Int)), some (.ref pp), some .non, some (.ref hd), some (.ref w), some (.ref r), some (.ref b)] : L2.St) = [some (.ref a), some (.ref s), some el, some er, y4, y5, y6, y7, y8, y9, y10, y11] ∧ Eld ad el er Fr ∧ Cl Fr c ∧ sat (sto s c :: Fr) H := fun H h =>
          ⟨_, _, _, _, _, _, _, _, _, _, _, rfl, .inr ⟨m, w, r, clTo ps m, rfl, rfl, hm, rfl, rfl⟩, cl.up.up, h⟩
        refine g_seq (g_if (g_and ?_))
        rcases he with rfl | ⟨en, ex, e2, eM, rfl, rfl, hen, f0, f1⟩
        · refine t_notN (e_var rfl) _ (fun z => absurd rfl z) (fun _ => iteF (iteF (g_next ?_)))
          exact g_seq (g_set1 (e_var rfl) (g_set1 (e_var rfl) (fin _ h)))
        · refine t_notN (e_var rfl) _ (fun _ => iteT ?_) (fun z => absurd (by intro y; cases y) z)
          have w2 : Vw (sto s c :: .rp (.ref w) (webD ad m (clTo ps m)) :: .rp (.ref r) (.lst (rowsL m (clTo ps m))) :: Fr) e2 (rowsL en eM) := .r 4 f1
          refine g_not (g_B (g_call (g_acons1 (e_var rfl) (g_acons1 (e_var rfl) (g_acons (g_lst0 (g_acons1 (e_un e_c u_I) (g_acons1 (e_cb (e_cons (e_var rfl) e_nil) (c_lenV h w2)) (g_anil ?_)))))))))
          rw [rowsL_len]
          refine x_lst0 (ds := [dI (-1), dI (en : Int)]) h (EntA.cons Ent.v (EntA.cons Ent.v EntA.nil)) (sz 2 (by decide)) fun b2 h => ?_
          refine g_anil (nr_any (n := en) (u := -1) (v := (en : Int)) (M := eM) h hen (.inl (by decide)) (.inr (by omega)) (Sm.small (by decide)) (Sm.nat (by omega)) (h.of (.at 4 f0)) (h.of (.at 5 f1)) (vw_rp h (.o 0)) fun H h => ⟨_, rfl, iteF (g_next ?_)⟩)
          exact g_seq (g_set1 (e_var rfl) (g_set1 (e_var rfl) (fin _ (h.drop 1))))
    rintro σ H ⟨el, er, Fr, y4, y5, y6, y7, y8, y9, y10, y11, rfl, he, cl, h⟩
    have wn : wfault ad 0 [] = none := rfl
    refine g_ret (g_call (g_acons (g_mk (g_a (e_cons e_c e_nil) (x_mk h fun w H h => ⟨0, w, ad.dflt, [], true, _, rfl, Sm.small (by decide), (fun _ z => nomatch z), .k rfl T.d_dflt, h, (by intro _ _ _ z; rw [wn] at z; cases z), fun _ H h => ⟨rfl, ?_⟩⟩)))))
    refine g_acons (g_lst0 (g_anil (x_lst0 (ds := rowsL 0 (clTo [] 0)) h EntA.nil (sz 0 (by decide)) fun e h => ?_)))
    refine g_acons (g_lst0 (g_acons1 e_c (g_acons1 (e_un e_c u_I) (g_anil (x_lst0 (ds := [dI 0, dI (-1)]) h (EntA.cons Ent.v (EntA.cons Ent.v EntA.nil)) (sz 2 (by decide)) fun b h => g_anil ?_)))))
    exact nr_any (n := 0) (u := 0) (v := -1) (M := clTo [] 0) h (by decide) (.inr (by decide)) (.inl (by decide)) (Sm.small (by decide)) (Sm.small (by decide)) (h.of (.at 2)) (vw_rp h (.o 1)) (vw_rp h (.o 0)) fun H h => q H

end Law

namespace Law
open PySem PySem.Spec PyProof.Rows L2 Sat
open Evl (Ex)
open Wb
open NdefX SupX Hd
theorem xi_Ring {P : Program} {w : World} {K : PySem.W.Frag} {mg : Str → Option Value} {base : Heap} {f D cc c : Addr} {kV doc pm oc ct : Value} {an od : Option Addr} {osl : Array (Option Value)}
    (lk : K.lookup f = some ⟨oc, od, .func (PySem.W.fnX "__init__" "Ring.__init__" (defArgs xs_Ring) (defBody xs_Ring) (defScope xs_Ring) [(("__class__" : Str), cc)] .none kV doc pm an (.ref c) ct), osl⟩) (T : SupC P K mg D cc c) (hcd : PySem.W.codeIn K (.ref c) "Ring.__init__" = true) (hno : PySem.W.findIn K (.ref D) "ring_deed" = some none) :
    FnOk P w K mg base CX0 1 f (PySem.W.fnX "__init__" "Ring.__init__" (defArgs xs_Ring) (defBody xs_Ring) (defScope xs_Ring) [(("__class__" : Str), cc)] .none kV doc pm an (.ref c) ct) ["self", "ring_deed"] (sp_xi D "ring_deed") :=
  xi_gen (F := ⟨"__init__", "Ring.__init__", defArgs xs_Ring, defBody xs_Ring, defScope xs_Ring, [(("__class__" : Str), cc)], c⟩) (x := "ring_deed") (ts := [tC (.str "deed "), tFmt (tVar 1), tC (.str " would be ahead of itself")]) lk T rfl rfl hcd (nscope_by (sc := defScope xs_Ring) (by decide +kernel)) rfl rfl rfl (by decide) (by decide) hno
    (fun X _ hN hv => (.cons pe_str (.cons (pe_fmt (pe_var (i := 1) (by rw [hN]; rfl) hv)) (.cons pe_str .nil))))
    (fun a i σ H R h1 hi hR => ⟨_, rfl, (by have e := num_short hi; have e3 : Str.empty.length = 0 := rfl; have c0 : (Str.ofString "deed ").length ≤ 1000 := (by decide); have c1 : (Str.ofString " would be ahead of itself").length ≤ 1000 := (by decide); rw [sizeLine_eq]; simp only [strLen_append, e3]; omega), ⟨.int i, h1, .inr ⟨i, rfl, hi, _, rfl, (by have e := num_short hi; have e3 : Str.empty.length = 0 := rfl; have c0 : (Str.ofString "deed ").length ≤ 1000 := (by decide); have c1 : (Str.ofString " would be ahead of itself").length ≤ 1000 := (by decide); rw [sizeLine_eq]; simp only [strLen_append, e3]; omega), ⟨_, rfl, (by have e := num_short hi; have e3 : Str.empty.length = 0 := rfl; have c0 : (Str.ofString "deed ").length ≤ 1000 := (by decide); have c1 : (Str.ofString " would be ahead of itself").length ≤ 1000 := (by decide); rw [sizeLine_eq]; simp only [strLen_append, e3]; omega), hR _⟩⟩⟩⟩)
theorem xcl_Ring {P : Program} {w : World} {K : PySem.W.Frag} {mg : Str → Option Value} {base : Heap} {f D cc c : Addr} {kV doc pm oc ct : Value} {an od : Option Addr} {osl : Array (Option Value)}
    (lk : K.lookup f = some ⟨oc, od, .func (PySem.W.fnX "__init__" "Ring.__init__" (defArgs xs_Ring) (defBody xs_Ring) (defScope xs_Ring) [(("__class__" : Str), cc)] .none kV doc pm an (.ref c) ct), osl⟩) (T : SupC P K mg D cc c) (hcd : PySem.W.codeIn K (.ref c) "Ring.__init__" = true) (hno : PySem.W.findIn K (.ref D) "ring_deed" = some none)
    (iC : PySem.W.findIn K (.ref D) "__init__" = some (some (.ref f))) (tI : PySem.W.typeIn K (.ref f) = some (.type "function")) (g : mg "Ring" = some (.ref D)) : XCl P w K mg base "Ring" D "ring_deed" :=
  ⟨T.ex, hno, g, f, _, _, iC, tI, xi_Ring lk T hcd hno, Binds.all fun us hl => match us, hl with | [_, _], _ => rfl⟩

theorem xi_BadDeed {P : Program} {w : World} {K : PySem.W.Frag} {mg : Str → Option Value} {base : Heap} {f D cc c : Addr} {kV doc pm oc ct : Value} {an od : Option Addr} {osl : Array (Option Value)}
    (lk : K.lookup f = some ⟨oc, od, .func (PySem.W.fnX "__init__" "BadDeed.__init__" (defArgs xs_BadDeed) (defBody xs_BadDeed) (defScope xs_BadDeed) [(("__class__" : Str), cc)] .none kV doc pm an (.ref c) ct), osl⟩) (T : SupC P K mg D cc c) (hcd : PySem.W.codeIn K (.ref c) "BadDeed.__init__" = true) (hno : PySem.W.findIn K (.ref D) "bad_deed" = some none) :
    FnOk P w K mg base CX0 1 f (PySem.W.fnX "__init__" "BadDeed.__init__" (defArgs xs_BadDeed) (defBody xs_BadDeed) (defScope xs_BadDeed) [(("__class__" : Str), cc)] .none kV doc pm an (.ref c) ct) ["self", "bad_deed"] (sp_xi D "bad_deed") :=
  xi_gen (F := ⟨"__init__", "BadDeed.__init__", defArgs xs_BadDeed, defBody xs_BadDeed, defScope xs_BadDeed, [(("__class__" : Str), cc)], c⟩) (x := "bad_deed") (ts := [tFmt (tVar 1), tC (.str " is not a deed")]) lk T rfl rfl hcd (nscope_by (sc := defScope xs_BadDeed) (by decide +kernel)) rfl rfl rfl (by decide) (by decide) hno
    (fun X _ hN hv => (.cons (pe_fmt (pe_var (i := 1) (by rw [hN]; rfl) hv)) (.cons pe_str .nil)))
    (fun a i σ H R h1 hi hR => ⟨.int i, h1, .inr ⟨i, rfl, hi, _, rfl, (by have e := num_short hi; have e3 : Str.empty.length = 0 := rfl; have c0 : (Str.ofString " is not a deed").length ≤ 1000 := (by decide); rw [sizeLine_eq]; simp only [strLen_append, e3]; omega), ⟨_, rfl, (by have e := num_short hi; have e3 : Str.empty.length = 0 := rfl; have c0 : (Str.ofString " is not a deed").length ≤ 1000 := (by decide); rw [sizeLine_eq]; simp only [strLen_append, e3]; omega), hR _⟩⟩⟩)
theorem xcl_BadDeed {P : Program} {w : World} {K : PySem.W.Frag} {mg : Str → Option Value} {base : Heap} {f D cc c : Addr} {kV doc pm oc ct : Value} {an od : Option Addr} {osl : Array (Option Value)}
    (lk : K.lookup f = some ⟨oc, od, .func (PySem.W.fnX "__init__" "BadDeed.__init__" (defArgs xs_BadDeed) (defBody xs_BadDeed) (defScope xs_BadDeed) [(("__class__" : Str), cc)] .none kV doc pm an (.ref c) ct), osl⟩) (T : SupC P K mg D cc c) (hcd : PySem.W.codeIn K (.ref c) "BadDeed.__init__" = true) (hno : PySem.W.findIn K (.ref D) "bad_deed" = some none)
    (iC : PySem.W.findIn K (.ref D) "__init__" = some (some (.ref f))) (tI : PySem.W.typeIn K (.ref f) = some (.type "function")) (g : mg "BadDeed" = some (.ref D)) : XCl P w K mg base "BadDeed" D "bad_deed" :=
  ⟨T.ex, hno, g, f, _, _, iC, tI, xi_BadDeed lk T hcd hno, Binds.all fun us hl => match us, hl with | [_, _], _ => rfl⟩

theorem xi_BadSize {P : Program} {w : World} {K : PySem.W.Frag} {mg : Str → Option Value} {base : Heap} {f D cc c : Addr} {kV doc pm oc ct : Value} {an od : Option Addr} {osl : Array (Option Value)}
    (lk : K.lookup f = some ⟨oc, od, .func (PySem.W.fnX "__init__" "BadSize.__init__" (defArgs xs_BadSize) (defBody xs_BadSize) (defScope xs_BadSize) [(("__class__" : Str), cc)] .none kV doc pm an (.ref c) ct), osl⟩) (T : SupC P K mg D cc c) (hcd : PySem.W.codeIn K (.ref c) "BadSize.__init__" = true) (hno : PySem.W.findIn K (.ref D) "bad_size" = some none) :
    FnOk P w K mg base CX0 1 f (PySem.W.fnX "__init__" "BadSize.__init__" (defArgs xs_BadSize) (defBody xs_BadSize) (defScope xs_BadSize) [(("__class__" : Str), cc)] .none kV doc pm an (.ref c) ct) ["self", "bad_size"] (sp_xi D "bad_size") :=
  xi_gen (F := ⟨"__init__", "BadSize.__init__", defArgs xs_BadSize, defBody xs_BadSize, defScope xs_BadSize, [(("__class__" : Str), cc)], c⟩) (x := "bad_size") (ts := [tFmt (tVar 1), tC (.str " is not a possible size")]) lk T rfl rfl hcd (nscope_by (sc := defScope xs_BadSize) (by decide +kernel)) rfl rfl rfl (by decide) (by decide) hno
    (fun X _ hN hv => (.cons (pe_fmt (pe_var (i := 1) (by rw [hN]; rfl) hv)) (.cons pe_str .nil)))
    (fun a i σ H R h1 hi hR => ⟨.int i, h1, .inr ⟨i, rfl, hi, _, rfl, (by have e := num_short hi; have e3 : Str.empty.length = 0 := rfl; have c0 : (Str.ofString " is not a possible size").length ≤ 1000 := (by decide); rw [sizeLine_eq]; simp only [strLen_append, e3]; omega), ⟨_, rfl, (by have e := num_short hi; have e3 : Str.empty.length = 0 := rfl; have c0 : (Str.ofString " is not a possible size").length ≤ 1000 := (by decide); rw [sizeLine_eq]; simp only [strLen_append, e3]; omega), hR _⟩⟩⟩)
theorem xcl_BadSize {P : Program} {w : World} {K : PySem.W.Frag} {mg : Str → Option Value} {base : Heap} {f D cc c : Addr} {kV doc pm oc ct : Value} {an od : Option Addr} {osl : Array (Option Value)}
    (lk : K.lookup f = some ⟨oc, od, .func (PySem.W.fnX "__init__" "BadSize.__init__" (defArgs xs_BadSize) (defBody xs_BadSize) (defScope xs_BadSize) [(("__class__" : Str), cc)] .none kV doc pm an (.ref c) ct), osl⟩) (T : SupC P K mg D cc c) (hcd : PySem.W.codeIn K (.ref c) "BadSize.__init__" = true) (hno : PySem.W.findIn K (.ref D) "bad_size" = some none)
    (iC : PySem.W.findIn K (.ref D) "__init__" = some (some (.ref f))) (tI : PySem.W.typeIn K (.ref f) = some (.type "function")) (g : mg "BadSize" = some (.ref D)) : XCl P w K mg base "BadSize" D "bad_size" :=
  ⟨T.ex, hno, g, f, _, _, iC, tI, xi_BadSize lk T hcd hno, Binds.all fun us hl => match us, hl with | [_, _], _ => rfl⟩

theorem xi_TooMany {P : Program} {w : World} {K : PySem.W.Frag} {mg : Str → Option Value} {base : Heap} {f D cc c : Addr} {kV doc pm oc ct : Value} {an od : Option Addr} {osl : Array (Option Value)}
    (lk : K.lookup f = some ⟨oc, od, .func (PySem.W.fnX "__init__" "TooMany.__init__" (defArgs xs_TooMany) (defBody xs_TooMany) (defScope xs_TooMany) [(("__class__" : Str), cc)] .none kV doc pm an (.ref c) ct), osl⟩) (T : SupC P K mg D cc c) (hcd : PySem.W.codeIn K (.ref c) "TooMany.__init__" = true) (hno : PySem.W.findIn K (.ref D) "limit" = some none) :
    FnOk P w K mg base CX0 1 f (PySem.W.fnX "__init__" "TooMany.__init__" (defArgs xs_TooMany) (defBody xs_TooMany) (defScope xs_TooMany) [(("__class__" : Str), cc)] .none kV doc pm an (.ref c) ct) ["self", "limit"] (sp_xi D "limit") :=
  xi_gen (F := ⟨"__init__", "TooMany.__init__", defArgs xs_TooMany, defBody xs_TooMany, defScope xs_TooMany, [(("__class__" : Str), cc)], c⟩) (x := "limit") (ts := [tC (.str "more than the limit of "), tFmt (tVar 1)]) lk T rfl rfl hcd (nscope_by (sc := defScope xs_TooMany) (by decide +kernel)) rfl rfl rfl (by decide) (by decide) hno
    (fun X _ hN hv => (.cons pe_str (.cons (pe_fmt (pe_var (i := 1) (by rw [hN]; rfl) hv)) .nil)))
    (fun a i σ H R h1 hi hR => ⟨_, rfl, (by have e := num_short hi; have e3 : Str.empty.length = 0 := rfl; have c0 : (Str.ofString "more than the limit of ").length ≤ 1000 := (by decide); rw [sizeLine_eq]; simp only [strLen_append, e3]; omega), ⟨.int i, h1, .inr ⟨i, rfl, hi, _, rfl, (by have e := num_short hi; have e3 : Str.empty.length = 0 := rfl; have c0 : (Str.ofString "more than the limit of ").length ≤ 1000 := (by decide); rw [sizeLine_eq]; simp only [strLen_append, e3]; omega), hR _⟩⟩⟩)
theorem xcl_TooMany {P : Program} {w : World} {K : PySem.W.Frag} {mg : Str → Option Value} {base : Heap} {f D cc c : Addr} {kV doc pm oc ct : Value} {an od : Option Addr} {osl : Array (Option Value)}
    (lk : K.lookup f = some ⟨oc, od, .func (PySem.W.fnX "__init__" "TooMany.__init__" (defArgs xs_TooMany) (defBody xs_TooMany) (defScope xs_TooMany) [(("__class__" : Str), cc)] .none kV doc pm an (.ref c) ct), osl⟩) (T : SupC P K mg D cc c) (hcd : PySem.W.codeIn K (.ref c) "TooMany.__init__" = true) (hno : PySem.W.findIn K (.ref D) "limit" = some none)
    (iC : PySem.W.findIn K (.ref D) "__init__" = some (some (.ref f))) (tI : PySem.W.typeIn K (.ref f) = some (.type "function")) (g : mg "TooMany" = some (.ref D)) : XCl P w K mg base "TooMany" D "limit" :=
  ⟨T.ex, hno, g, f, _, _, iC, tI, xi_TooMany lk T hcd hno, Binds.all fun us hl => match us, hl with | [_, _], _ => rfl⟩

theorem hfacts {w : World} {K : PySem.W.Frag} {h : Heap} {mg : Str → Option Value} {f : Addr} (KX : K.In h) (G : h.Ns mainGlobals mg) (hfL : mg ("law" : Str) = some (.ref f)) (c : Hd.SaysM ((PySem.Challenge.rw_fewreaders_k02_web_is_the_closure).prog).main.file hfa hfn hxs hfx K) :
    ∃ fd : FuncData, (∀ (s : Shared) (v : Value), BindsTo s fd ⟨[v], []⟩ [("script", v)]) ∧ ∀ base : Heap, K.In base → base.Ns mainGlobals mg → FnOk (PySem.Challenge.rw_fewreaders_k02_web_is_the_closure).prog w K mg base CX0 8 f fd ["script"] (sp_law K (adK K)) := by
  have e := hfL.symm.trans (He.glo_ok KX G (c.fact 84))
  cases e
  have T : Tx K mg (adK K) := ⟨He.glo_ok KX G (c.fact 0), He.glo_ok KX G (c.fact 1), He.glo_ok KX G (c.fact 2), He.glo_ok KX G (c.fact 3), He.glo_ok KX G (c.fact 4), He.glo_ok KX G (c.fact 5), He.glo_ok KX G (c.fact 6), He.glo_ok KX G (c.fact 7), He.glo_ok KX G (c.fact 8), He.glo_ok KX G (c.fact 9), He.glo_ok KX G (c.fact 10), He.glo_ok KX G (c.fact 11), He.glo_ok KX G (c.fact 12), He.glo_ok KX G (c.fact 13), He.glo_ok KX G (c.fact 14), He.glo_ok KX G (c.fact 15), He.glo_ok KX G (c.fact 16), He.glo_ok KX G (c.fact 17), He.glo_ok KX G (c.fact 18), He.glo_ok KX G (c.fact 19), He.glo_ok KX G (c.fact 20), He.glo_ok KX G (c.fact 21), He.glo_ok KX G (c.fact 22), He.glo_ok KX G (c.fact 23), He.glo_ok KX G (c.fact 24), He.glo_ok KX G (c.fact 25), He.glo_ok KX G (c.fact 26), He.glo_ok KX G (c.fact 27), He.glo_ok KX G (c.fact 28), He.glo_ok KX G (c.fact 29), He.glo_ok KX G (c.fact 30), He.glo_ok KX G (c.fact 31), He.glo_ok KX G (c.fact 32), He.glo_ok KX G (c.fact 33), He.glo_ok KX G (c.fact 34), He.glo_ok KX G (c.fact 35), He.glo_ok KX G (c.fact 36), He.glo_ok KX G (c.fact 37), He.glo_ok KX G (c.fact 38), He.glo_ok KX G (c.fact 39), He.glo_ok KX G (c.fact 40), Hd.emptyTB_ok (c.fx_ 0), He.cls_ok (c.fact 41), (Hd.webB_ok (c.fx_ 1)).ha, (Hd.webB_ok (c.fx_ 1)).hn, (Hd.webB_ok (c.fx_ 1)).ht, (Hd.webB_ok (c.fx_ 1)).hm, He.noat_ok (c.fact 42), He.noat_ok (c.fact 43), He.noat_ok (c.fact 44), He.noat_ok (c.fact 45), (fun C hC => of_decide_eq_true (List.all_eq_true.mp (c.fx_ 2) C hC)), of_decide_eq_true (c.fx_ 3), of_decide_eq_true (c.fx_ 4), (fun C hC => of_decide_eq_true (List.all_eq_true.mp (c.fx_ 5) C hC)), of_decide_eq_true (c.fx_ 6), of_decide_eq_true (c.fx_ 7), (fun C hC => of_decide_eq_true (List.all_eq_true.mp (c.fx_ 8) C hC)), of_decide_eq_true (c.fx_ 9), of_decide_eq_true (c.fx_ 10), (fun C hC => of_decide_eq_true (List.all_eq_true.mp (c.fx_ 11) C hC)), of_decide_eq_true (c.fx_ 12), of_decide_eq_true (c.fx_ 13), He.exm_ok (c.fact 46), He.exm_ok (c.fact 47), He.exm_ok (c.fact 48), He.exm_ok (c.fact 49), He.exm_ok (c.fact 50), He.exm_ok (c.fact 51), He.exm_ok (c.fact 52), He.exm_ok (c.fact 53), He.exm_ok (c.fact 54), He.exm_ok (c.fact 55), He.exm_ok (c.fact 56), He.exm_ok (c.fact 57), He.exm_ok (c.fact 58), He.exm_ok (c.fact 59), He.exm_ok (c.fact 60), He.exm_ok (c.fact 61), He.exm_ok (c.fact 62), He.exm_ok (c.fact 63), He.exm_ok (c.fact 64), He.exm_ok (c.fact 65), Hd.ecB_ok (c.fx_ 14), L2.xfB_ok (c.fx_ 15), He.noat_ok (c.fact 66), Hd.ecB_ok (c.fx_ 16), L2.xfB_ok (c.fx_ 17), He.noat_ok (c.fact 67), Hd.ecB_ok (c.fx_ 18), L2.xfB_ok (c.fx_ 19), He.noat_ok (c.fact 68), Hd.ecB_ok (c.fx_ 20), L2.xfB_ok (c.fx_ 21), He.noat_ok (c.fact 69), He.free_ok KX G (c.fact 70), He.free_ok KX G (c.fact 71), He.free_ok KX G (c.fact 72), He.free_ok KX G (c.fact 73), He.free_ok KX G (c.fact 74), He.free_ok KX G (c.fact 75), He.free_ok KX G (c.fact 76), He.free_ok KX G (c.fact 77), He.free_ok KX G (c.fact 78), He.free_ok KX G (c.fact 79), He.free_ok KX G (c.fact 80), He.free_ok KX G (c.fact 81), He.free_ok KX G (c.fact 82)⟩
  obtain ⟨fd_members, D_members⟩ := c.def_ 0 (d := dd_members) rfl
  have D_members : FunD K "members" "members" (defArgs s_members) (defBody s_members) (defScope s_members) [] [] _ fd_members := D_members
  have F_members := He5.fun_of (st := s_members) D_members
  have b_members := FunD.bindsN (ps := ["mask"]) D_members fun _ _ _ _ _ _ us hl => match us, hl with | [_], _ => rfl
  obtain ⟨fd_Web_init, D_Web_init⟩ := c.def_ 1 (d := dd_Web_init) rfl
  have D_Web_init : FunD K "__init__" "Web.__init__" (defArgs s_Web_init) (defBody s_Web_init) (defScope s_Web_init) [V.ref (adK K).dflt] [] _ fd_Web_init := D_Web_init
  obtain ⟨fd_Web_ahead, D_Web_ahead⟩ := c.def_ 2 (d := dd_Web_ahead) rfl
  have D_Web_ahead : FunD K "ahead" "Web.ahead" (defArgs s_Web_ahead) (defBody s_Web_ahead) (defScope s_Web_ahead) [] [] _ fd_Web_ahead := D_Web_ahead
  have F_Web_ahead := He5.fun_of (st := s_Web_ahead) D_Web_ahead
  have b_Web_ahead := FunD.bindsN (ps := ["self", "a", "b"]) D_Web_ahead fun _ _ _ _ _ _ us hl => match us, hl with | [_, _, _], _ => rfl
  obtain ⟨fd_Web_beside, D_Web_beside⟩ := c.def_ 3 (d := dd_Web_beside) rfl
  have D_Web_beside : FunD K "beside" "Web.beside" (defArgs s_Web_beside) (defBody s_Web_beside) (defScope s_Web_beside) [] [] _ fd_Web_beside := D_Web_beside
  have F_Web_beside := He5.fun_of (st := s_Web_beside) D_Web_beside
  have b_Web_beside := FunD.bindsN (ps := ["self", "a", "b"]) D_Web_beside fun _ _ _ _ _ _ us hl => match us, hl with | [_, _, _], _ => rfl
  obtain ⟨fd_Web_check_deed, D_Web_check_deed⟩ := c.def_ 4 (d := dd_Web_check_deed) rfl
  have D_Web_check_deed : FunD K "check_deed" "Web.check_deed" (defArgs s_Web_check_deed) (defBody s_Web_check_deed) (defScope s_Web_check_deed) [] [] _ fd_Web_check_deed := D_Web_check_deed
  have F_Web_check_deed := He5.fun_of (st := s_Web_check_deed) D_Web_check_deed
  have b_Web_check_deed := FunD.bindsN (ps := ["self", "deed"]) D_Web_check_deed fun _ _ _ _ _ _ us hl => match us, hl with | [_, _], _ => rfl
  obtain ⟨fd_check_parts, D_check_parts⟩ := c.def_ 5 (d := dd_check_parts) rfl
  have D_check_parts : FunD K "check_parts" "check_parts" (defArgs s_check_parts) (defBody s_check_parts) (defScope s_check_parts) [] [] _ fd_check_parts := D_check_parts
  have F_check_parts := He5.fun_of (st := s_check_parts) D_check_parts
  have b_check_parts := FunD.bindsN (ps := ["size", "pairs"]) D_check_parts fun _ _ _ _ _ _ us hl => match us, hl with | [_, _], _ => rfl
  obtain ⟨fd_closed_masks, D_closed_masks⟩ := c.def_ 6 (d := dd_closed_masks) rfl
  have D_closed_masks : FunD K "closed_masks" "closed_masks" (defArgs s_closed_masks) (defBody s_closed_masks) (defScope s_closed_masks) [] [] _ fd_closed_masks := D_closed_masks
  have F_closed_masks := He5.fun_of (st := s_closed_masks) D_closed_masks
  have b_closed_masks := FunD.bindsN (ps := ["size", "pairs"]) D_closed_masks fun _ _ _ _ _ _ us hl => match us, hl with | [_, _], _ => rfl
  obtain ⟨fd_turned_masks, D_turned_masks⟩ := c.def_ 7 (d := dd_turned_masks) rfl
  have D_turned_masks : FunD K "turned_masks" "turned_masks" (defArgs s_turned_masks) (defBody s_turned_masks) (defScope s_turned_masks) [] [] _ fd_turned_masks := D_turned_masks
  have F_turned_masks := He5.fun_of (st := s_turned_masks) D_turned_masks
  have b_turned_masks := FunD.bindsN (ps := ["masks"]) D_turned_masks fun _ _ _ _ _ _ us hl => match us, hl with | [_], _ => rfl
  obtain ⟨fd_law_store, D_law_store⟩ := c.def_ 8 (d := dd_law_store) rfl
  have D_law_store : FunD K "_law_store" "_law_store" (defArgs s_law_store) (defBody s_law_store) (defScope s_law_store) [] [] _ fd_law_store := D_law_store
  have F_law_store := He5.fun_of (st := s_law_store) D_law_store
  have b_law_store := FunD.bindsN (ps := ["script"]) D_law_store fun _ _ _ _ _ _ us hl => match us, hl with | [_], _ => rfl
  obtain ⟨fd_law_take, D_law_take⟩ := c.def_ 9 (d := dd_law_take) rfl
  have D_law_take : FunD K "_law_take" "_law_take" (defArgs s_law_take) (defBody s_law_take) (defScope s_law_take) [] [] _ fd_law_take := D_law_take
  have F_law_take := He5.fun_of (st := s_law_take) D_law_take
  have b_law_take := FunD.bindsN (ps := ["store", "many"]) D_law_take fun _ _ _ _ _ _ us hl => match us, hl with | [_, _], _ => rfl
  obtain ⟨fd_law_pick, D_law_pick⟩ := c.def_ 10 (d := dd_law_pick) rfl
  have D_law_pick : FunD K "_law_pick" "_law_pick" (defArgs s_law_pick) (defBody s_law_pick) (defScope s_law_pick) [] [] _ fd_law_pick := D_law_pick
  have F_law_pick := He5.fun_of (st := s_law_pick) D_law_pick
  have b_law_pick := FunD.bindsN (ps := ["store", "items"]) D_law_pick fun _ _ _ _ _ _ us hl => match us, hl with | [_, _], _ => rfl
  obtain ⟨fd_law_size, D_law_size⟩ := c.def_ 11 (d := dd_law_size) rfl
  have D_law_size : FunD K "_law_size" "_law_size" (defArgs s_law_size) (defBody s_law_size) (defScope s_law_size) [] [] _ fd_law_size := D_law_size
  have F_law_size := He5.fun_of (st := s_law_size) D_law_size
  have b_law_size := FunD.bindsN (ps := ["store", "least", "most"]) D_law_size fun _ _ _ _ _ _ us hl => match us, hl with | [_, _, _], _ => rfl
  obtain ⟨fd_law_beyond, D_law_beyond⟩ := c.def_ 12 (d := dd_law_beyond) rfl
  have D_law_beyond : FunD K "_law_beyond" "_law_beyond" (defArgs s_law_beyond) (defBody s_law_beyond) (defScope s_law_beyond) [] [] _ fd_law_beyond := D_law_beyond
  have F_law_beyond := He5.fun_of (st := s_law_beyond) D_law_beyond
  have b_law_beyond := FunD.bindsN (ps := ["store", "size"]) D_law_beyond fun _ _ _ _ _ _ us hl => match us, hl with | [_, _], _ => rfl
  obtain ⟨fd_law_mixed, D_law_mixed⟩ := c.def_ 13 (d := dd_law_mixed) rfl
  have D_law_mixed : FunD K "_law_mixed" "_law_mixed" (defArgs s_law_mixed) (defBody s_law_mixed) (defScope s_law_mixed) [] [] _ fd_law_mixed := D_law_mixed
  have F_law_mixed := He5.fun_of (st := s_law_mixed) D_law_mixed
  have b_law_mixed := FunD.bindsN (ps := ["store", "items"]) D_law_mixed fun _ _ _ _ _ _ us hl => match us, hl with | [_, _], _ => rfl
  obtain ⟨fd_law_is_number, D_law_is_number⟩ := c.def_ 14 (d := dd_law_is_number) rfl
  have D_law_is_number : FunD K "_law_is_number" "_law_is_number" (defArgs s_law_is_number) (defBody s_law_is_number) (defScope s_law_is_number) [] [] _ fd_law_is_number := D_law_is_number
  have F_law_is_number := He5.fun_of (st := s_law_is_number) D_law_is_number
  have b_law_is_number := FunD.bindsN (ps := ["value"]) D_law_is_number fun _ _ _ _ _ _ us hl => match us, hl with | [_], _ => rfl
  obtain ⟨fd_law_same, D_law_same⟩ := c.def_ 15 (d := dd_law_same) rfl
  have D_law_same : FunD K "_law_same" "_law_same" (defArgs s_law_same) (defBody s_law_same) (defScope s_law_same) [] [] _ fd_law_same := D_law_same
  have F_law_same := He5.fun_of (st := s_law_same) D_law_same
  have b_law_same := FunD.bindsN (ps := ["actual", "expected"]) D_law_same fun _ _ _ _ _ _ us hl => match us, hl with | [_, _], _ => rfl
  obtain ⟨fd_law_closure, D_law_closure⟩ := c.def_ 16 (d := dd_law_closure) rfl
  have D_law_closure : FunD K "_law_closure" "_law_closure" (defArgs s_law_closure) (defBody s_law_closure) (defScope s_law_closure) [] [] _ fd_law_closure := D_law_closure
  have F_law_closure := He5.fun_of (st := s_law_closure) D_law_closure
  have b_law_closure := FunD.bindsN (ps := ["size", "pairs"]) D_law_closure fun _ _ _ _ _ _ us hl => match us, hl with | [_, _], _ => rfl
  obtain ⟨fd_law_ring, D_law_ring⟩ := c.def_ 17 (d := dd_law_ring) rfl
  have D_law_ring : FunD K "_law_ring" "_law_ring" (defArgs s_law_ring) (defBody s_law_ring) (defScope s_law_ring) [] [] _ fd_law_ring := D_law_ring
  have F_law_ring := He5.fun_of (st := s_law_ring) D_law_ring
  have b_law_ring := FunD.bindsN (ps := ["rows"]) D_law_ring fun _ _ _ _ _ _ us hl => match us, hl with | [_], _ => rfl
  obtain ⟨fd_law_beside, D_law_beside⟩ := c.def_ 18 (d := dd_law_beside) rfl
  have D_law_beside : FunD K "_law_beside" "_law_beside" (defArgs s_law_beside) (defBody s_law_beside) (defScope s_law_beside) [] [] _ fd_law_beside := D_law_beside
  have F_law_beside := He5.fun_of (st := s_law_beside) D_law_beside
  have b_law_beside := FunD.bindsN (ps := ["rows", "a", "b"]) D_law_beside fun _ _ _ _ _ _ us hl => match us, hl with | [_, _, _], _ => rfl
  obtain ⟨fd_law_net, D_law_net⟩ := c.def_ 19 (d := dd_law_net) rfl
  have D_law_net : FunD K "_law_net" "_law_net" (defArgs s_law_net) (defBody s_law_net) (defScope s_law_net) [] [] _ fd_law_net := D_law_net
  have F_law_net := He5.fun_of (st := s_law_net) D_law_net
  have b_law_net := FunD.bindsN (ps := ["store", "size"]) D_law_net fun _ _ _ _ _ _ us hl => match us, hl with | [_, _], _ => rfl
  obtain ⟨fd_law_chains, D_law_chains⟩ := c.def_ 20 (d := dd_law_chains) rfl
  have D_law_chains : FunD K "_law_chains" "_law_chains" (defArgs s_law_chains) (defBody s_law_chains) (defScope s_law_chains) [] [] _ fd_law_chains := D_law_chains
  have F_law_chains := He5.fun_of (st := s_law_chains) D_law_chains
  have b_law_chains := FunD.bindsN (ps := ["store", "size"]) D_law_chains fun _ _ _ _ _ _ us hl => match us, hl with | [_, _], _ => rfl
  obtain ⟨fd_law_crown_shape, D_law_crown_shape⟩ := c.def_ 21 (d := dd_law_crown_shape) rfl
  have D_law_crown_shape : FunD K "_law_crown_shape" "_law_crown_shape" (defArgs s_law_crown_shape) (defBody s_law_crown_shape) (defScope s_law_crown_shape) [] [] _ fd_law_crown_shape := D_law_crown_shape
  have F_law_crown_shape := He5.fun_of (st := s_law_crown_shape) D_law_crown_shape
  have b_law_crown_shape := FunD.bindsN (ps := ["store", "size"]) D_law_crown_shape fun _ _ _ _ _ _ us hl => match us, hl with | [_, _], _ => rfl
  obtain ⟨fd_law_shape, D_law_shape⟩ := c.def_ 22 (d := dd_law_shape) rfl
  have D_law_shape : FunD K "_law_shape" "_law_shape" (defArgs s_law_shape) (defBody s_law_shape) (defScope s_law_shape) [] [] _ fd_law_shape := D_law_shape
  have F_law_shape := He5.fun_of (st := s_law_shape) D_law_shape
  have b_law_shape := FunD.bindsN (ps := ["store", "size"]) D_law_shape fun _ _ _ _ _ _ us hl => match us, hl with | [_, _], _ => rfl
  obtain ⟨fd_law_web, D_law_web⟩ := c.def_ 23 (d := dd_law_web) rfl
  have D_law_web : FunD K "_law_web" "_law_web" (defArgs s_law_web) (defBody s_law_web) (defScope s_law_web) [] [] _ fd_law_web := D_law_web
  have F_law_web := He5.fun_of (st := s_law_web) D_law_web
  have b_law_web := FunD.bindsN (ps := ["store", "least", "most"]) D_law_web fun _ _ _ _ _ _ us hl => match us, hl with | [_, _, _], _ => rfl
  obtain ⟨fd_law_bent_pairs, D_law_bent_pairs⟩ := c.def_ 24 (d := dd_law_bent_pairs) rfl
  have D_law_bent_pairs : FunD K "_law_bent_pairs" "_law_bent_pairs" (defArgs s_law_bent_pairs) (defBody s_law_bent_pairs) (defScope s_law_bent_pairs) [] [] _ fd_law_bent_pairs := D_law_bent_pairs
  have F_law_bent_pairs := He5.fun_of (st := s_law_bent_pairs) D_law_bent_pairs
  have b_law_bent_pairs := FunD.bindsN (ps := ["store", "size", "pairs"]) D_law_bent_pairs fun _ _ _ _ _ _ us hl => match us, hl with | [_, _, _], _ => rfl
  obtain ⟨fd_law_web_fault, D_law_web_fault⟩ := c.def_ 25 (d := dd_law_web_fault) rfl
  have D_law_web_fault : FunD K "_law_web_fault" "_law_web_fault" (defArgs s_law_web_fault) (defBody s_law_web_fault) (defScope s_law_web_fault) [] [] _ fd_law_web_fault := D_law_web_fault
  have F_law_web_fault := He5.fun_of (st := s_law_web_fault) D_law_web_fault
  have b_law_web_fault := FunD.bindsN (ps := ["size", "pairs"]) D_law_web_fault fun _ _ _ _ _ _ us hl => match us, hl with | [_, _], _ => rfl
  obtain ⟨fd_law_loops, D_law_loops⟩ := c.def_ 26 (d := dd_law_loops) rfl
  have D_law_loops : FunD K "_law_loops" "_law_loops" (defArgs s_law_loops) (defBody s_law_loops) (defScope s_law_loops) [] [] _ fd_law_loops := D_law_loops
  have F_law_loops := He5.fun_of (st := s_law_loops) D_law_loops
  have b_law_loops := FunD.bindsN (ps := ["store", "size"]) D_law_loops fun _ _ _ _ _ _ us hl => match us, hl with | [_, _], _ => rfl
  obtain ⟨fd_law_question, D_law_question⟩ := c.def_ 27 (d := dd_law_question) rfl
  have D_law_question : FunD K "_law_question" "_law_question" (defArgs s_law_question) (defBody s_law_question) (defScope s_law_question) [] [] _ fd_law_question := D_law_question
  have F_law_question := He5.fun_of (st := s_law_question) D_law_question
  have b_law_question := FunD.bindsN (ps := ["store"]) D_law_question fun _ _ _ _ _ _ us hl => match us, hl with | [_], _ => rfl
  obtain ⟨fd_law_made, D_law_made⟩ := c.def_ 28 (d := dd_law_made) rfl
  have D_law_made : FunD K "_law_made" "_law_made" (defArgs s_law_made) (defBody s_law_made) (defScope s_law_made) [] [] _ fd_law_made := D_law_made
  have F_law_made := He5.fun_of (st := s_law_made) D_law_made
  have b_law_made := FunD.bindsN (ps := ["store", "size", "pairs"]) D_law_made fun _ _ _ _ _ _ us hl => match us, hl with | [_, _, _], _ => rfl
  obtain ⟨fd_law_kinds, D_law_kinds⟩ := c.def_ 29 (d := dd_law_kinds) rfl
  have D_law_kinds : FunD K "_law_kinds" "_law_kinds" (defArgs s_law_kinds) (defBody s_law_kinds) (defScope s_law_kinds) [] [] _ fd_law_kinds := D_law_kinds
  have F_law_kinds := He5.fun_of (st := s_law_kinds) D_law_kinds
  have b_law_kinds := FunD.bindsN (ps := ["size", "pairs"]) D_law_kinds fun _ _ _ _ _ _ us hl => match us, hl with | [_, _], _ => rfl
  obtain ⟨fd_law_refused, D_law_refused⟩ := c.def_ 30 (d := dd_law_refused) rfl
  have D_law_refused : FunD K "_law_refused" "_law_refused" (defArgs s_law_refused) (defBody s_law_refused) (defScope s_law_refused) [] [] _ fd_law_refused := D_law_refused
  have F_law_refused := He5.fun_of (st := s_law_refused) D_law_refused
  have b_law_refused := FunD.bindsN (ps := ["store", "size", "pairs"]) D_law_refused fun _ _ _ _ _ _ us hl => match us, hl with | [_, _, _], _ => rfl
  obtain ⟨fd_law_asked, D_law_asked⟩ := c.def_ 31 (d := dd_law_asked) rfl
  have D_law_asked : FunD K "_law_asked" "_law_asked" (defArgs s_law_asked) (defBody s_law_asked) (defScope s_law_asked) [] [] _ fd_law_asked := D_law_asked
  have F_law_asked := He5.fun_of (st := s_law_asked) D_law_asked
  have b_law_asked := FunD.bindsN (ps := ["net", "a", "b", "which"]) D_law_asked fun _ _ _ _ _ _ us hl => match us, hl with | [_, _, _, _], _ => rfl
  obtain ⟨fd_law_net_right, D_law_net_right⟩ := c.def_ 32 (d := dd_law_net_right) rfl
  have D_law_net_right : FunD K "_law_net_right" "_law_net_right" (defArgs s_law_net_right) (defBody s_law_net_right) (defScope s_law_net_right) [] [] _ fd_law_net_right := D_law_net_right
  have F_law_net_right := He5.fun_of (st := s_law_net_right) D_law_net_right
  have b_law_net_right := FunD.bindsN (ps := ["net", "rows", "bad"]) D_law_net_right fun _ _ _ _ _ _ us hl => match us, hl with | [_, _, _], _ => rfl
  obtain ⟨fd_law, D_law⟩ := c.def_ 33 (d := dd_law) rfl
  have D_law : FunD K "law" "law" (defArgs s_law) (defBody s_law) (defScope s_law) [] [] _ fd_law := D_law
  have F_law := He5.fun_of (st := s_law) D_law
  have b_law := FunD.bindsN (ps := ["script"]) D_law fun _ _ _ _ _ _ us hl => match us, hl with | [_], _ => rfl
  refine ⟨fd_law, fun s v => FunD.bindsA (ps := ["script"]) D_law (fun _ _ _ _ _ _ us hl => match us, hl with | [_], _ => rfl) s [v] rfl, fun base _ _ => ?_⟩
  obtain ⟨⟨_, _, _, _, _, _, _, _, _, _, lk_Ring, su_Ring, cd_Ring⟩, no_Ring, iC_Ring, tI_Ring, g_Ring⟩ := c.xi (P := (PySem.Challenge.rw_fewreaders_k02_web_is_the_closure).prog) KX G (by decide +kernel) (He.free_ok KX G (c.fact 83)) 0 (d := dx_Ring) rfl
  have X_Ring : XCl (PySem.Challenge.rw_fewreaders_k02_web_is_the_closure).prog w K mg base "Ring" (adK K).Ring "ring_deed" := xcl_Ring lk_Ring su_Ring cd_Ring no_Ring iC_Ring tI_Ring g_Ring
  obtain ⟨⟨_, _, _, _, _, _, _, _, _, _, lk_BadDeed, su_BadDeed, cd_BadDeed⟩, no_BadDeed, iC_BadDeed, tI_BadDeed, g_BadDeed⟩ := c.xi (P := (PySem.Challenge.rw_fewreaders_k02_web_is_the_closure).prog) KX G (by decide +kernel) (He.free_ok KX G (c.fact 83)) 1 (d := dx_BadDeed) rfl
  have X_BadDeed : XCl (PySem.Challenge.rw_fewreaders_k02_web_is_the_closure).prog w K mg base "BadDeed" (adK K).BadDeed "bad_deed" := xcl_BadDeed lk_BadDeed su_BadDeed cd_BadDeed no_BadDeed iC_BadDeed tI_BadDeed g_BadDeed
  obtain ⟨⟨_, _, _, _, _, _, _, _, _, _, lk_BadSize, su_BadSize, cd_BadSize⟩, no_BadSize, iC_BadSize, tI_BadSize, g_BadSize⟩ := c.xi (P := (PySem.Challenge.rw_fewreaders_k02_web_is_the_closure).prog) KX G (by decide +kernel) (He.free_ok KX G (c.fact 83)) 2 (d := dx_BadSize) rfl
  have X_BadSize : XCl (PySem.Challenge.rw_fewreaders_k02_web_is_the_closure).prog w K mg base "BadSize" (adK K).BadSize "bad_size" := xcl_BadSize lk_BadSize su_BadSize cd_BadSize no_BadSize iC_BadSize tI_BadSize g_BadSize
  obtain ⟨⟨_, _, _, _, _, _, _, _, _, _, lk_TooMany, su_TooMany, cd_TooMany⟩, no_TooMany, iC_TooMany, tI_TooMany, g_TooMany⟩ := c.xi (P := (PySem.Challenge.rw_fewreaders_k02_web_is_the_closure).prog) KX G (by decide +kernel) (He.free_ok KX G (c.fact 83)) 3 (d := dx_TooMany) rfl
  have X_TooMany : XCl (PySem.Challenge.rw_fewreaders_k02_web_is_the_closure).prog w K mg base "TooMany" (adK K).TooMany "limit" := xcl_TooMany lk_TooMany su_TooMany cd_TooMany no_TooMany iC_TooMany tI_TooMany g_TooMany
  let G_members : Cal (PySem.Challenge.rw_fewreaders_k02_web_is_the_closure).prog w K mg base CX0 1 "members" ["mask"] (sp_members) := ⟨_, fd_members, (ok_members T F_members), D_members.kp, b_members, He.glo_ok KX G (c.fact 85)⟩
  let G_closed_masks : Cal (PySem.Challenge.rw_fewreaders_k02_web_is_the_closure).prog w K mg base CX0 1 "closed_masks" ["size", "pairs"] (sp_closed_masks K) := ⟨_, fd_closed_masks, (ok_closed_masks T F_closed_masks), D_closed_masks.kp, b_closed_masks, He.glo_ok KX G (c.fact 86)⟩
  let G_law_store : Cal (PySem.Challenge.rw_fewreaders_k02_web_is_the_closure).prog w K mg base CX0 1 "_law_store" ["script"] (sp_law_store K) := ⟨_, fd_law_store, (ok_law_store T F_law_store), D_law_store.kp, b_law_store, He.glo_ok KX G (c.fact 87)⟩
  let G_law_take : Cal (PySem.Challenge.rw_fewreaders_k02_web_is_the_closure).prog w K mg base CX0 1 "_law_take" ["store", "many"] (sp_law_take) := ⟨_, fd_law_take, (ok_law_take T F_law_take), D_law_take.kp, b_law_take, He.glo_ok KX G (c.fact 88)⟩
  let G_law_is_number : Cal (PySem.Challenge.rw_fewreaders_k02_web_is_the_closure).prog w K mg base CX0 1 "_law_is_number" ["value"] (sp_law_is_number) := ⟨_, fd_law_is_number, (ok_law_is_number T F_law_is_number), D_law_is_number.kp, b_law_is_number, He.glo_ok KX G (c.fact 89)⟩
  let G_law_closure : Cal (PySem.Challenge.rw_fewreaders_k02_web_is_the_closure).prog w K mg base CX0 1 "_law_closure" ["size", "pairs"] (sp_law_closure) := ⟨_, fd_law_closure, (ok_law_closure T F_law_closure), D_law_closure.kp, b_law_closure, He.glo_ok KX G (c.fact 90)⟩
  let G_law_ring : Cal (PySem.Challenge.rw_fewreaders_k02_web_is_the_closure).prog w K mg base CX0 1 "_law_ring" ["rows"] (sp_law_ring) := ⟨_, fd_law_ring, (ok_law_ring T F_law_ring), D_law_ring.kp, b_law_ring, He.glo_ok KX G (c.fact 91)⟩
  let G_law_beside : Cal (PySem.Challenge.rw_fewreaders_k02_web_is_the_closure).prog w K mg base CX0 1 "_law_beside" ["rows", "a", "b"] (sp_law_beside) := ⟨_, fd_law_beside, (ok_law_beside T F_law_beside), D_law_beside.kp, b_law_beside, He.glo_ok KX G (c.fact 92)⟩
  let G_turned_masks : Cal (PySem.Challenge.rw_fewreaders_k02_web_is_the_closure).prog w K mg base CX0 2 "turned_masks" ["masks"] (sp_turned_masks) := ⟨_, fd_turned_masks, (ok_turned_masks T (G_members := G_members) F_turned_masks), D_turned_masks.kp, b_turned_masks, He.glo_ok KX G (c.fact 93)⟩
  let G_law_pick : Cal (PySem.Challenge.rw_fewreaders_k02_web_is_the_closure).prog w K mg base CX0 2 "_law_pick" ["store", "items"] (sp_law_pick) := ⟨_, fd_law_pick, (ok_law_pick T (G_law_take := G_law_take) F_law_pick), D_law_pick.kp, b_law_pick, He.glo_ok KX G (c.fact 94)⟩
  let G_law_size : Cal (PySem.Challenge.rw_fewreaders_k02_web_is_the_closure).prog w K mg base CX0 2 "_law_size" ["store", "least", "most"] (sp_law_size) := ⟨_, fd_law_size, (ok_law_size T (G_law_take := G_law_take) F_law_size), D_law_size.kp, b_law_size, He.glo_ok KX G (c.fact 95)⟩
  let G_law_beyond : Cal (PySem.Challenge.rw_fewreaders_k02_web_is_the_closure).prog w K mg base CX0 2 "_law_beyond" ["store", "size"] (sp_law_beyond) := ⟨_, fd_law_beyond, (ok_law_beyond T (G_law_take := G_law_take) F_law_beyond), D_law_beyond.kp, b_law_beyond, He.glo_ok KX G (c.fact 96)⟩
  let G_law_mixed : Cal (PySem.Challenge.rw_fewreaders_k02_web_is_the_closure).prog w K mg base CX0 2 "_law_mixed" ["store", "items"] (sp_law_mixed) := ⟨_, fd_law_mixed, (ok_law_mixed T (G_law_take := G_law_take) F_law_mixed), D_law_mixed.kp, b_law_mixed, He.glo_ok KX G (c.fact 97)⟩
  let G_law_same : Cal (PySem.Challenge.rw_fewreaders_k02_web_is_the_closure).prog w K mg base CX0 2 "_law_same" ["actual", "expected"] (sp_law_same) := ⟨_, fd_law_same, (ok_law_same T (G_law_is_number := G_law_is_number) F_law_same), D_law_same.kp, b_law_same, He.glo_ok KX G (c.fact 98)⟩
  let G_law_net : Cal (PySem.Challenge.rw_fewreaders_k02_web_is_the_closure).prog w K mg base CX0 2 "_law_net" ["store", "size"] (sp_law_net) := ⟨_, fd_law_net, (ok_law_net T (G_law_take := G_law_take) F_law_net), D_law_net.kp, b_law_net, He.glo_ok KX G (c.fact 99)⟩
  let G_law_chains : Cal (PySem.Challenge.rw_fewreaders_k02_web_is_the_closure).prog w K mg base CX0 2 "_law_chains" ["store", "size"] (sp_law_chains) := ⟨_, fd_law_chains, (ok_law_chains T (G_law_take := G_law_take) F_law_chains), D_law_chains.kp, b_law_chains, He.glo_ok KX G (c.fact 100)⟩
  let G_law_crown_shape : Cal (PySem.Challenge.rw_fewreaders_k02_web_is_the_closure).prog w K mg base CX0 2 "_law_crown_shape" ["store", "size"] (sp_law_crown_shape) := ⟨_, fd_law_crown_shape, (ok_law_crown_shape T (G_law_take := G_law_take) F_law_crown_shape), D_law_crown_shape.kp, b_law_crown_shape, He.glo_ok KX G (c.fact 101)⟩
  let G_law_web_fault : Cal (PySem.Challenge.rw_fewreaders_k02_web_is_the_closure).prog w K mg base CX0 2 "_law_web_fault" ["size", "pairs"] (sp_law_web_fault) := ⟨_, fd_law_web_fault, (ok_law_web_fault T (G_law_ring := G_law_ring) (G_law_closure := G_law_closure) F_law_web_fault), D_law_web_fault.kp, b_law_web_fault, He.glo_ok KX G (c.fact 102)⟩
  let G_law_loops : Cal (PySem.Challenge.rw_fewreaders_k02_web_is_the_closure).prog w K mg base CX0 2 "_law_loops" ["store", "size"] (sp_law_loops) := ⟨_, fd_law_loops, (ok_law_loops T (G_law_take := G_law_take) F_law_loops), D_law_loops.kp, b_law_loops, He.glo_ok KX G (c.fact 103)⟩
  let G_Web_check_deed : Mtd (PySem.Challenge.rw_fewreaders_k02_web_is_the_closure).prog w K mg base 3 (adK K).Web "check_deed" ["self", "deed"] (sp_Web_check_deed (adK K)) := ⟨_, fd_Web_check_deed, T.c_Web, He.meth_ok (c.fact 104), (ok_Web_check_deed T (X_BadDeed := X_BadDeed) F_Web_check_deed), b_Web_check_deed⟩
  let G_check_parts : Cal (PySem.Challenge.rw_fewreaders_k02_web_is_the_closure).prog w K mg base (L2N.CX (PySem.Challenge.rw_fewreaders_k02_web_is_the_closure).prog w) 3 "check_parts" ["size", "pairs"] (sp_check_parts K (adK K)) := ⟨_, fd_check_parts, (ok_check_parts T (X_BadSize := X_BadSize) (X_TooMany := X_TooMany) (X_BadDeed := X_BadDeed) F_check_parts), D_check_parts.kp, b_check_parts, He.glo_ok KX G (c.fact 105)⟩
  let G_law_shape : Cal (PySem.Challenge.rw_fewreaders_k02_web_is_the_closure).prog w K mg base CX0 3 "_law_shape" ["store", "size"] (sp_law_shape) := ⟨_, fd_law_shape, (ok_law_shape T (G_law_take := G_law_take) (G_law_net := G_law_net) (G_law_crown_shape := G_law_crown_shape) (G_law_chains := G_law_chains) F_law_shape), D_law_shape.kp, b_law_shape, He.glo_ok KX G (c.fact 106)⟩
  let G_law_bent_pairs : Cal (PySem.Challenge.rw_fewreaders_k02_web_is_the_closure).prog w K mg base CX0 3 "_law_bent_pairs" ["store", "size", "pairs"] (sp_law_bent_pairs) := ⟨_, fd_law_bent_pairs, (ok_law_bent_pairs T (G_law_take := G_law_take) (G_law_beyond := G_law_beyond) (G_law_pick := G_law_pick) F_law_bent_pairs), D_law_bent_pairs.kp, b_law_bent_pairs, He.glo_ok KX G (c.fact 107)⟩
  let G_Web_init : Mkr (PySem.Challenge.rw_fewreaders_k02_web_is_the_closure).prog w K mg base 4 "Web" (adK K).Web ["self", "size", "pairs"] (sp_Web_init K (adK K)) := ⟨_, fd_Web_init, He.mkr_ok (c.fact 108), (ok_Web_init T (G_check_parts := G_check_parts) (G_closed_masks := G_closed_masks) (G_turned_masks := G_turned_masks) (G_members := G_members) (X_Ring := X_Ring) D_Web_init), He.glo_ok KX G (c.fact 40)⟩
  obtain ⟨ds1_Web_init, V1_Web_init, B1_Web_init⟩ := FunD.binds1 (ps := ["self", "size", "pairs"]) D_Web_init 2 0 (List.cons_ne_nil _ _) rfl fun T kV doc pm an cdv ct us its l1 l2 => match us, its, l1, l2 with | [_, _], [_], _, _ => ⟨_, rfl, rfl⟩
  obtain ⟨dz_Web_init, V2_Web_init, B2_Web_init⟩ := FunD.binds1 (ps := ["self", "size", "pairs"]) D_Web_init 3 1 (List.cons_ne_nil _ _) rfl fun T kV doc pm an cdv ct us its l1 l2 => match us, its, l1, l2 with | [_, _, _], [_], _, _ => ⟨_, rfl, rfl⟩
  cases V2_Web_init
  have V2_Web_init : Vals [] ([] : List Value) := .nil
  have K_Web_init := Hd.bindsKD (ps := ["self", "size", "pairs"]) D_Web_init (List.cons_ne_nil _ _) ["size", "pairs"] fun T kV doc pm an cdv ct y ws its l1 l2 => match ws, its, l1, l2 with | [_, _], [_], _, _ => ⟨_, rfl, rfl⟩
  let G_Web_ahead : Mtd (PySem.Challenge.rw_fewreaders_k02_web_is_the_closure).prog w K mg base 4 (adK K).Web "ahead" ["self", "a", "b"] (sp_Web_ahead (adK K)) := ⟨_, fd_Web_ahead, T.c_Web, He.meth_ok (c.fact 109), (ok_Web_ahead T (G_Web_check_deed := G_Web_check_deed) F_Web_ahead), b_Web_ahead⟩
  have KM_Web_ahead := Hd.bindsK0 (ps := ["self", "a", "b"]) D_Web_ahead ["a", "b"] fun kV doc pm an cdv ct y ws hl => match ws, hl with | [_, _], _ => rfl
  let G_Web_beside : Mtd (PySem.Challenge.rw_fewreaders_k02_web_is_the_closure).prog w K mg base 4 (adK K).Web "beside" ["self", "a", "b"] (sp_Web_beside (adK K)) := ⟨_, fd_Web_beside, T.c_Web, He.meth_ok (c.fact 110), (ok_Web_beside T (G_Web_check_deed := G_Web_check_deed) F_Web_beside), b_Web_beside⟩
  have KM_Web_beside := Hd.bindsK0 (ps := ["self", "a", "b"]) D_Web_beside ["a", "b"] fun kV doc pm an cdv ct y ws hl => match ws, hl with | [_, _], _ => rfl
  let G_law_web : Cal (PySem.Challenge.rw_fewreaders_k02_web_is_the_closure).prog w K mg base CX0 4 "_law_web" ["store", "least", "most"] (sp_law_web) := ⟨_, fd_law_web, (ok_law_web T (G_law_size := G_law_size) (G_law_mixed := G_law_mixed) (G_law_closure := G_law_closure) (G_law_take := G_law_take) (G_law_pick := G_law_pick) (G_law_shape := G_law_shape) F_law_web), D_law_web.kp, b_law_web, He.glo_ok KX G (c.fact 111)⟩
  let G_law_question : Cal (PySem.Challenge.rw_fewreaders_k02_web_is_the_closure).prog w K mg base CX0 5 "_law_question" ["store"] (sp_law_question) := ⟨_, fd_law_question, (ok_law_question T (G_law_web := G_law_web) (G_law_take := G_law_take) (G_law_loops := G_law_loops) (G_law_bent_pairs := G_law_bent_pairs) F_law_question), D_law_question.kp, b_law_question, He.glo_ok KX G (c.fact 112)⟩
  let G_law_asked : Cal (PySem.Challenge.rw_fewreaders_k02_web_is_the_closure).prog w K mg base CX0 5 "_law_asked" ["net", "a", "b", "which"] (sp_law_asked (adK K)) := ⟨_, fd_law_asked, (ok_law_asked T (G_Web_ahead := G_Web_ahead) (G_Web_beside := G_Web_beside) (KM_Web_ahead := KM_Web_ahead) (KM_Web_beside := KM_Web_beside) F_law_asked), D_law_asked.kp, b_law_asked, He.glo_ok KX G (c.fact 113)⟩
  let G_law_made : Cal (PySem.Challenge.rw_fewreaders_k02_web_is_the_closure).prog w K mg base (L2N.CX (PySem.Challenge.rw_fewreaders_k02_web_is_the_closure).prog w) 6 "_law_made" ["store", "size", "pairs"] (sp_law_made K (adK K)) := ⟨_, fd_law_made, (ok_law_made T (G_Web_init := G_Web_init) (G_law_take := G_law_take) (B1_Web_init := B1_Web_init) (V1_Web_init := V1_Web_init) (B2_Web_init := B2_Web_init) (V2_Web_init := V2_Web_init) (K_Web_init := K_Web_init) F_law_made), D_law_made.kp, b_law_made, He.glo_ok KX G (c.fact 114)⟩
  let G_law_kinds : Cal (PySem.Challenge.rw_fewreaders_k02_web_is_the_closure).prog w K mg base CX0 6 "_law_kinds" ["size", "pairs"] (sp_law_kinds (adK K)) := ⟨_, fd_law_kinds, (ok_law_kinds T (G_Web_init := G_Web_init) (B2_Web_init := B2_Web_init) (V2_Web_init := V2_Web_init) F_law_kinds), D_law_kinds.kp, b_law_kinds, He.glo_ok KX G (c.fact 115)⟩
  let G_law_net_right : Cal (PySem.Challenge.rw_fewreaders_k02_web_is_the_closure).prog w K mg base CX0 6 "_law_net_right" ["net", "rows", "bad"] (sp_law_net_right (adK K)) := ⟨_, fd_law_net_right, (ok_law_net_right T (G_Web_ahead := G_Web_ahead) (G_Web_beside := G_Web_beside) (G_law_same := G_law_same) (G_law_asked := G_law_asked) (G_law_beside := G_law_beside) F_law_net_right), D_law_net_right.kp, b_law_net_right, He.glo_ok KX G (c.fact 116)⟩
  let G_law_refused : Cal (PySem.Challenge.rw_fewreaders_k02_web_is_the_closure).prog w K mg base CX0 7 "_law_refused" ["store", "size", "pairs"] (sp_law_refused (adK K)) := ⟨_, fd_law_refused, (ok_law_refused T (G_law_made := G_law_made) F_law_refused), D_law_refused.kp, b_law_refused, He.glo_ok KX G (c.fact 117)⟩
  exact ok_law T (G_Web_init := G_Web_init) (G_law_store := G_law_store) (G_law_net_right := G_law_net_right) (G_law_question := G_law_question) (G_law_web_fault := G_law_web_fault) (G_law_same := G_law_same) (G_law_closure := G_law_closure) (G_law_refused := G_law_refused) (G_law_beyond := G_law_beyond) (G_law_kinds := G_law_kinds) (B1_Web_init := B1_Web_init) (V1_Web_init := V1_Web_init) (B2_Web_init := B2_Web_init) (V2_Web_init := V2_Web_init) F_law
end Law
open PySem PySem.W PyProof.Rows PySem.Calls
set_option maxHeartbeats 0 in
theorem PySem.Challenge.cw_fewreaders_k02_web_is_the_closure_holds : PySem.Challenge.rw_fewreaders_k02_web_is_the_closure.Holds := by
  w_on; o_law
  refine HandSHeadRun.head_any (r := PySem.W.OpenLaw.row PySem.Challenge.rw_fewreaders_k02_web_is_the_closure) (q := view (PySem.W.OpenLaw.row PySem.Challenge.rw_fewreaders_k02_web_is_the_closure).prog [76]) (H := Law.hk) (ob := Law.hob) (M := 12500) (loose := Law.hnm) (d := HandSHeadRun.topDef (PySem.W.OpenLaw.row PySem.Challenge.rw_fewreaders_k02_web_is_the_closure).prog 76) (kwd := []) Law.hob_eq
    (by kernel_rfl) (fun s => by kernel_rfl) Law.hrun (by kernel_rfl) (by kernel_rfl) (by kernel_rfl) (by rfl) (by first | assumption | decide +kernel) (by decide +kernel) ⟨rfl, rfl, rfl, rfl, rfl, by decide +kernel⟩ ?hw ?hc
  case hw => w_witness2
  case hc =>
    refine L2.walk_ofE (l := PySem.Challenge.rw_fewreaders_k02_web_is_the_closure) (n := 63) (k := 8) (x := "script") (CX := L2.CX0) rfl (by decide) (by kernel_rfl) ⟨rfl, by decide, by decide⟩ ?F (fun _ _ _ _ z => z)
    intro w mg fa h Y G hmg0
    obtain ⟨K, KX, c⟩ := Y
    have hmg : mg ("law" : PySem.Str) = some (.ref fa) := by
      have e : (HandSHeadRun.topDef (PySem.W.OpenLaw.row PySem.Challenge.rw_fewreaders_k02_web_is_the_closure).prog 76).name = ("law" : PySem.Str) := by kernel_rfl
      rw [← e]
      exact hmg0
    obtain ⟨fd, hb, hF⟩ := Law.hfacts (w := w) KX G hmg c
    exact ⟨K, fd, Law.sp_law K (Law.adK K), KX, hb, fun H a ns hl _ hS => ⟨a, ns, rfl, hS, hl, fun _ => rfl⟩, hF⟩
